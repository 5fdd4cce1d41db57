import PyProof.Rows.All
import Wide.All
import OpenK.AllK
import Wide.FinOn
import HandS.ForMost
import HandS.TupAny
import HandS.Conv
import HandS.IsInst
import HandS.Flow
import HandS.Small
import KE.KDictDisplayH
import PyProof.MaxThree
import HandS.NoneIn
import HandS.Walk
import HandS.Text
import HandS.StrMore
import HandS.Style
import HandS.CallLocal
import HandS.Codes
import HandS.Deep
import HandS.TupMul
import PyProof.WalkInts
import HandS.SortRule
import HandS.SortInts
import KE.DataMinMax
import KE.KDictKeyed
import HandS.DictTup
import PySem.Challenge.RW_landandwater_k60_judge_of_late_papers
set_option Elab.async false
set_option maxRecDepth 100000
set_option linter.all false
set_option maxHeartbeats 4000000
/-! Worlds (a heap, what is frozen in it, how many draws), their growth; data; weakest conditions as models of code. -/
namespace Y
open PySem L2

/-! ### models -/
structure WP (α : Type) where
  run : Nat → (Nat → α → Prop) → Prop
  mono : ∀ {n : Nat} {Q Q' : Nat → α → Prop}, (∀ m a, Q m a → Q' m a) → run n Q → run n Q'
namespace WP
variable {α β γ s : Type}
def pure (a : α) : WP α := ⟨fun n Q => Q n a, fun h => h _ _⟩
def bind (w : WP α) (f : α → WP β) : WP β := ⟨fun n Q => w.run n fun m a => (f a).run m Q, fun h => w.mono fun m a => (f a).mono h⟩
def req (P : Prop) (a : α) : WP α := ⟨fun n Q => P ∧ Q n a, fun h q => ⟨q.1, h _ _ q.2⟩⟩
def any (P : α → Prop) : WP α := ⟨fun n Q => ∀ a, P a → Q n a, fun h q a p => h _ _ (q a p)⟩
def take (many : Int) : WP Int := ⟨fun n Q => n < 1000000 ∧ 0 < many ∧ ∀ x, 0 ≤ x → x < many → Q (n + 1) x, fun h q => ⟨q.1, q.2.1, fun x a b => h _ _ (q.2.2 x a b)⟩⟩
def cond (b : Bool) (A B : WP α) : WP α := match b with | true => A | false => B
end WP
inductive Ctl (s γ : Type) where
  | nx (a : s)
  | bk (a : s)
  | rt (r : γ)
namespace WP
variable {α β γ s : Type}
def loop (body : α → s → WP (Ctl s γ)) : List α → s → WP (Ctl s γ)
  | [], x => pure (.nx x)
  | a :: as, x => (body a x).bind fun c => match c with | .nx y => loop body as y | .bk y => pure (.nx y) | .rt r => pure (.rt r)
@[simp] theorem run_pure {a : α} {n : Nat} {Q : Nat → α → Prop} : (pure a).run n Q = Q n a := rfl
@[simp] theorem run_bind {w : WP α} {f : α → WP β} {n : Nat} {Q : Nat → β → Prop} : (w.bind f).run n Q = w.run n (fun m a => (f a).run m Q) := rfl
@[simp] theorem run_req {P : Prop} {a : α} {n : Nat} {Q : Nat → α → Prop} : (req P a).run n Q = (P ∧ Q n a) := rfl
@[simp] theorem run_any {P : α → Prop} {n : Nat} {Q : Nat → α → Prop} : (any P).run n Q = (∀ a, P a → Q n a) := rfl
@[simp] theorem run_take {many : Int} {n : Nat} {Q : Nat → Int → Prop} : (take many).run n Q = (n < 1000000 ∧ 0 < many ∧ ∀ x, 0 ≤ x → x < many → Q (n + 1) x) := rfl
@[simp] theorem cond_true {A B : WP α} : cond true A B = A := rfl
@[simp] theorem cond_false {A B : WP α} : cond false A B = B := rfl
theorem loop_inv {body : α → s → WP (Ctl s γ)} {xs : List α} {x : s} {n : Nat} {Q : Nat → Ctl s γ → Prop} (I : Nat → Nat → s → Prop) (h0 : I 0 n x)
    (hs : ∀ i m a y, xs[i]? = some a → I i m y → (body a y).run m fun m' c => match c with | .nx z => I (i + 1) m' z | .bk z => Q m' (.nx z) | .rt r => Q m' (.rt r)) (hd : ∀ m y, I xs.length m y → Q m (.nx y)) : (loop body xs x).run n Q := by
  induction xs generalizing x n I with
  | nil => exact hd n x h0
  | cons a as ih =>
    refine (body a x).mono (fun m c hy => ?_) (hs 0 n a x rfl h0)
    cases c with
    | nx z => exact ih (fun i => I (i + 1)) hy (fun i m b z hb hi => hs (i + 1) m b z hb hi) hd
    | bk z => exact hy
    | rt r => exact hy
end WP

/-! ### worlds -/
structure Wo where
  H : Hp
  F : Addr → Prop
  n : Nat
def Tg (H H' : Hp) : Prop := ∀ a xs, H a = some (.tup xs) → H' a = some (.tup xs)
/-- what is told of W stays told -/
structure St (W W' : Wo) : Prop where
  t : Tg W.H W'.H
  f : ∀ a, W.F a → W'.F a
  c : ∀ a o, W.F a → W.H a = some o → W'.H a = some o
theorem St.refl (W : Wo) : St W W := ⟨fun _ _ h => h, fun _ h => h, fun _ _ _ h => h⟩
theorem St.trans {W W1 W2 : Wo} (a : St W W1) (b : St W1 W2) : St W W2 := ⟨fun x o h => b.t x o (a.t x o h), fun x h => b.f x (a.f x h), fun x o f h => b.c x o (a.f x f) (a.c x o f h)⟩
/-- a kind of effect: what may change, what is kept true, how draws are counted -/
structure Ef where
  S : Addr → Prop
  T : Addr → Prop
  ok : Hp → Nat → Prop
  num : Nat → Nat → Prop
  num_refl : ∀ n, num n n
  num_trans : ∀ {a b c}, num a b → num b c → num a c
  ok_T : ∀ {H H' n}, ok H n → (∀ a o, T a → H a = some o → H' a = some o) → ok H' n
  ok_live : ∀ {H n a}, ok H n → T a → H a ≠ none
structure Good (e : Ef) (W : Wo) : Prop where
  F : ∀ a, W.F a → ¬ e.S a ∧ W.H a ≠ none
  S : ∀ a, e.S a → W.H a ≠ none
  ok : e.ok W.H W.n
structure Gw (e : Ef) (W W' : Wo) : Prop where
  keep : ∀ a o, W.H a = some o → ¬ e.S a → W'.H a = some o
  st : St W W'
  new : ∀ a, W'.F a → W.F a ∨ W.H a = none
  live : ∀ a, W'.H a = none → W.H a = none
  n : e.num W.n W'.n
  ok : Good e W'
theorem Gw.refl {e : Ef} {W : Wo} (g : Good e W) : Gw e W W := ⟨fun _ _ h _ => h, St.refl W, fun _ h => .inl h, fun _ h => h, e.num_refl _, g⟩
theorem Gw.trans {e : Ef} {W W1 W2 : Wo} (a : Gw e W W1) (b : Gw e W1 W2) : Gw e W W2 :=
  ⟨fun x o h n => b.keep x o (a.keep x o h n) n, a.st.trans b.st, fun x h => (b.new x h).elim (fun h => a.new x h) fun h => .inr (a.live x h), fun x h => a.live x (b.live x h), e.num_trans a.n b.n, b.ok⟩
theorem ne_of {H : Hp} {a b : Addr} {o : HO} (h : H a = some o) (n : H b = none) : a ≠ b := fun z => by rw [z, n] at h; cases h
theorem some_of {H : Hp} {a : Addr} (h : H a ≠ none) : ∃ o, H a = some o := by
  cases q : H a with
  | none => exact absurd q h
  | some o => exact ⟨o, rfl⟩
theorem some_ne {H : Hp} {a : Addr} {o : HO} (h : H a = some o) : H a ≠ none := fun z => by rw [z] at h; cases h
/-- a new object -/
theorem Gw.alloc {e : Ef} {W : Wo} {p : Addr} {o : HO} (g : Good e W) (hp : W.H p = none) : Gw e W ⟨upd W.H p o, W.F, W.n⟩ := by
  have k : ∀ a u, W.H a = some u → (upd W.H p o) a = some u := fun a u h => by rw [upd_ne (ne_of h hp)]; exact h
  have l : ∀ a, W.H a ≠ none → (upd W.H p o) a ≠ none := fun a h => by
    obtain ⟨u, hu⟩ := some_of h
    exact some_ne (k a u hu)
  exact ⟨fun a u h _ => k a u h, ⟨fun a xs h => k a _ h, fun _ h => h, fun a u _ h => k a u h⟩, fun _ h => .inl h, fun a h => by
    cases q : W.H a with
    | none => rfl
    | some u => exact absurd h (some_ne (k a u q)), e.num_refl _, ⟨fun a f => ⟨(g.F a f).1, l a (g.F a f).2⟩, fun a f => l a (g.S a f), e.ok_T g.ok fun a u _ h => k a u h⟩⟩
/-- all kept but what is new: the heap of another world -/
theorem Gw.same {e : Ef} {W : Wo} {H' : Hp} (g : Good e W) (s : Same W.H H') : Gw e W ⟨H', W.F, W.n⟩ := by
  have l : ∀ a, W.H a ≠ none → H' a ≠ none := fun a h => by
    obtain ⟨u, hu⟩ := some_of h
    exact some_ne (s a u hu)
  exact ⟨fun a u h _ => s a u h, ⟨fun a xs h => s a _ h, fun _ h => h, fun a u _ h => s a u h⟩, fun _ h => .inl h, fun a h => by
    cases q : W.H a with
    | none => rfl
    | some u => exact absurd h (some_ne (s a u q)), e.num_refl _, ⟨fun a f => ⟨(g.F a f).1, l a (g.F a f).2⟩, fun a f => l a (g.S a f), e.ok_T g.ok fun a u _ h => s a u h⟩⟩
/-- an object of our own changed -/
theorem St.mut {W : Wo} {l : Addr} {o u : HO} (h : W.H l = some o) (ht : ∀ xs, o ≠ .tup xs) (hF : ¬ W.F l) : St W ⟨upd W.H l u, W.F, W.n⟩ :=
  ⟨fun a xs q => by
    have : a ≠ l := fun z => by rw [z, h] at q; exact ht xs (Option.some.inj q)
    show (upd W.H l u) a = _
    rw [upd_ne this]; exact q, fun _ f => f, fun a x f q => by
    have : a ≠ l := fun z => hF (z ▸ f)
    show (upd W.H l u) a = _
    rw [upd_ne this]; exact q⟩
theorem Gw.mut {e : Ef} {W0 W : Wo} {l : Addr} {o u : HO} (g0 : Good e W0) (g : Gw e W0 W) (h0 : W0.H l = none) (h : W.H l = some o) (ht : ∀ xs, o ≠ .tup xs) (hF : ¬ W.F l) : Gw e W0 ⟨upd W.H l u, W.F, W.n⟩ := by
  have s := St.mut (u := u) h ht hF
  have l' : ∀ a, W.H a ≠ none → (upd W.H l u) a ≠ none := fun a h => by
    by_cases e1 : a = l
    · subst e1; rw [upd_same]; exact fun z => by cases z
    · rw [upd_ne e1]; exact h
  refine ⟨fun a x q n => ?_, g.st.trans s, g.new, fun a q => ?_, g.n, ⟨fun a f => ⟨(g.ok.F a f).1, l' a (g.ok.F a f).2⟩, fun a f => l' a (g.ok.S a f), ?_⟩⟩
  · show (upd W.H l u) a = _
    rw [upd_ne (ne_of q h0)]; exact g.keep a x q n
  · cases q' : W.H a with
    | none => exact g.live a q'
    | some x => exact absurd q (l' a (some_ne q'))
  · refine e.ok_T g.ok.ok fun a x t q => ?_
    have : a ≠ l := fun z => e.ok_live g0.ok t (z ▸ h0)
    show (upd W.H l u) a = _
    rw [upd_ne this]; exact q
/-- objects of our own frozen -/
def Wo.frz (W : Wo) (fp : List Addr) : Wo := ⟨W.H, fun a => W.F a ∨ a ∈ fp, W.n⟩
theorem St.frz {W : Wo} {fp : List Addr} : St W (W.frz fp) := ⟨fun _ _ h => h, fun _ h => .inl h, fun _ _ _ h => h⟩
theorem Gw.frz {e : Ef} {W0 W : Wo} {fp : List Addr} (g0 : Good e W0) (g : Gw e W0 W) (h0 : ∀ a ∈ fp, W0.H a = none) (h : ∀ a ∈ fp, W.H a ≠ none) : Gw e W0 (W.frz fp) :=
  ⟨g.keep, g.st.trans St.frz, fun a f => f.elim (g.new a) fun m => .inr (h0 a m), g.live, g.n, ⟨fun a f => f.elim (g.ok.F a) fun m => ⟨fun z => g0.S a z (h0 a m), h a m⟩, g.ok.S, g.ok.ok⟩⟩
/-- nothing changes -/
def ef0 : Ef where
  S := fun _ => False
  T := fun _ => False
  ok := fun _ _ => True
  num := fun a b => a = b
  num_refl := fun _ => rfl
  num_trans := fun a b => a.trans b
  ok_T := fun _ _ => True.intro
  ok_live := fun _ z => z.elim
theorem Good.z {e : Ef} {W : Wo} (g : Good e W) : Good ef0 W := ⟨fun a f => ⟨fun z => z, (g.F a f).2⟩, fun _ z => z.elim, True.intro⟩
theorem Gw.up {e : Ef} {W W' : Wo} (g : Good e W) (h : Gw ef0 W W') : Gw e W W' := by
  have hl : ∀ a, W.H a ≠ none → W'.H a ≠ none := fun a h' z => h' (h.live a z)
  refine ⟨fun a o q _ => h.keep a o q id, h.st, h.new, h.live, (show W.n = W'.n from h.n) ▸ e.num_refl _, ⟨fun a f => ?_, fun a s => hl a (g.S a s), ?_⟩⟩
  · refine ⟨fun s => ?_, (h.ok.F a f).2⟩
    rcases h.new a f with f | f
    · exact (g.F a f).1 s
    · exact g.S a s f
  · rw [← (show W.n = W'.n from h.n)]
    exact e.ok_T g.ok fun a o _ q => h.keep a o q id

/-! ### data that never changes -/
class PyI (α : Type) where
  rep : Wo → α → V → Prop
  st : ∀ {W W' : Wo} {a : α} {v : V}, St W W' → rep W a v → rep W' a v
abbrev Rp {α : Type} [PyI α] (W : Wo) (a : α) (v : V) : Prop := PyI.rep W a v
instance : PyI Int := ⟨fun _ i v => v = .int i, fun _ h => h⟩
instance : PyI Bool := ⟨fun _ i v => v = .bl i, fun _ h => h⟩
instance : PyI Str := ⟨fun _ i v => v = .str i, fun _ h => h⟩
instance : PyI Unit := ⟨fun _ _ v => v = .non, fun _ h => h⟩
instance {α : Type} [PyI α] : PyI (Option α) := ⟨fun W o v => match o with | none => v = .non | some a => v ≠ .non ∧ Rp W a v, fun {_ _ o _} t h => by
  cases o with
  | none => exact h
  | some a => exact ⟨h.1, PyI.st t h.2⟩⟩
instance {α β : Type} [PyI α] [PyI β] : PyI (α × β) := ⟨fun W c v => ∃ p x y, v = .ref p ∧ W.H p = some (.tup [x, y]) ∧ Rp W c.1 x ∧ Rp W c.2 y, fun t ⟨p, x, y, h1, h2, h3, h4⟩ => ⟨p, x, y, h1, t.t _ _ h2, PyI.st t h3, PyI.st t h4⟩⟩
structure Tri (α β γ : Type) where
  a : α
  b : β
  c : γ
instance {α β γ : Type} [PyI α] [PyI β] [PyI γ] : PyI (Tri α β γ) := ⟨fun W c v => ∃ p x y z, v = .ref p ∧ W.H p = some (.tup [x, y, z]) ∧ Rp W c.a x ∧ Rp W c.b y ∧ Rp W c.c z, fun t ⟨p, x, y, z, h1, h2, h3, h4, h5⟩ => ⟨p, x, y, z, h1, t.t _ _ h2, PyI.st t h3, PyI.st t h4, PyI.st t h5⟩⟩
theorem Paired.imp {α β : Type} {F G : α → β → Prop} (f : ∀ a b, F a b → G a b) : ∀ {l1 : List α} {l2 : List β}, Paired F l1 l2 → Paired G l1 l2
  | _, _, .nil => .nil
  | _, _, .cons r t => .cons (f _ _ r) (Paired.imp f t)
abbrev Rps {α : Type} [PyI α] (W : Wo) (xs : List α) (vs : List V) : Prop := Paired (fun a v => Rp W a v) xs vs
theorem Rps.st {α : Type} [PyI α] {W W' : Wo} {xs : List α} {vs : List V} (t : St W W') (h : Rps W xs vs) : Rps W' xs vs := Paired.imp (fun _ _ => PyI.st t) h
/-- a tuple of any length, all of one kind -/
instance {α : Type} [PyI α] : PyI (List α) := ⟨fun W xs v => ∃ p vs, v = .ref p ∧ W.H p = some (.tup vs) ∧ Rps W xs vs, fun t ⟨p, vs, h1, h2, h3⟩ => ⟨p, vs, h1, t.t _ _ h2, Rps.st t h3⟩⟩
/-- a frozen list -/
structure Ls (α : Type) where
  l : List α
instance {α : Type} [PyI α] : PyI (Ls α) := ⟨fun W xs v => ∃ p vs, v = .ref p ∧ W.F p ∧ W.H p = some (.lst vs) ∧ Rps W xs.l vs, fun t ⟨p, vs, h1, h2, h3, h4⟩ => ⟨p, vs, h1, t.f _ h2, t.c _ _ h2 h3, Rps.st t h4⟩⟩
section
variable {α β : Type}
theorem _root_.PySem.Paired.getA {F : α → β → Prop} {xs : List α} {vs : List β} {i : Nat} {a : α} (h : Paired F xs vs) (e : xs[i]? = some a) : ∃ v, vs[i]? = some v ∧ F a v := by
  induction h generalizing i with
  | nil => simp at e
  | cons r t ih =>
    cases i with
    | zero => simp at e; subst e; exact ⟨_, rfl, r⟩
    | succ i => exact ih (by simpa using e)
theorem _root_.PySem.Paired.getV {F : α → β → Prop} {xs : List α} {vs : List β} {i : Nat} {v : β} (h : Paired F xs vs) (e : vs[i]? = some v) : ∃ a, xs[i]? = some a ∧ F a v := by
  induction h generalizing i with
  | nil => simp at e
  | cons r t ih =>
    cases i with
    | zero => simp at e; subst e; exact ⟨_, rfl, r⟩
    | succ i => exact ih (by simpa using e)
theorem _root_.PySem.Paired.appA {F : α → β → Prop} {xs ys : List α} {vs ws : List β} (h : Paired F xs vs) (r : Paired F ys ws) : Paired F (xs ++ ys) (vs ++ ws) := by
  induction h with
  | nil => exact r
  | cons a t ih => exact .cons a ih
theorem _root_.PySem.Paired.takeA {F : α → β → Prop} {xs : List α} {vs : List β} (n : Nat) (h : Paired F xs vs) : Paired F (xs.take n) (vs.take n) := by
  induction h generalizing n with
  | nil => simp; exact .nil
  | cons a t ih => cases n with
    | zero => exact .nil
    | succ n => exact .cons a (ih n)
theorem _root_.PySem.Paired.dropA {F : α → β → Prop} {xs : List α} {vs : List β} (n : Nat) (h : Paired F xs vs) : Paired F (xs.drop n) (vs.drop n) := by
  induction h generalizing n with
  | nil => simp; exact .nil
  | cons a t ih => cases n with
    | zero => exact .cons a t
    | succ n => exact ih n
theorem _root_.PySem.Paired.setA {F : α → β → Prop} {xs : List α} {vs : List β} {a : α} {v : β} (n : Nat) (h : Paired F xs vs) (r : F a v) : Paired F (xs.set n a) (vs.set n v) := by
  induction h generalizing n with
  | nil => exact .nil
  | cons b t ih => cases n with
    | zero => exact .cons r t
    | succ n => exact .cons b (ih n)
theorem _root_.PySem.Paired.revA {F : α → β → Prop} {xs : List α} {vs : List β} (h : Paired F xs vs) : Paired F xs.reverse vs.reverse := by
  induction h with
  | nil => exact .nil
  | cons a t ih => rw [List.reverse_cons, List.reverse_cons]; exact ih.appA (.cons a .nil)
end
theorem rps_ints {W : Wo} {ns : List Int} {vs : List V} (h : Rps W ns vs) : vs = ns.map V.int := by
  induction h with
  | nil => rfl
  | cons r t ih => rw [show _ = _ from r, ih]; rfl
theorem rps_ints' (W : Wo) : ∀ ns : List Int, Rps W ns (ns.map V.int)
  | [] => .nil
  | _ :: r => .cons rfl (rps_ints' W r)
theorem rps_strs {W : Wo} {ns : List Str} {vs : List V} (h : Rps W ns vs) : vs = ns.map V.str := by
  induction h with
  | nil => rfl
  | cons r t ih => rw [show _ = _ from r, ih]; rfl
/-! ### things that change: a kind of them, its footprint -/
structure Kd (κ : Type) where
  own : Wo → List Addr → κ → V → Prop
  st : ∀ {W W' : Wo} {fp : List Addr} {x : κ} {v : V}, St W W' → (∀ a ∈ fp, ∀ o, W.H a = some o → W'.H a = some o) → own W fp x v → own W' fp x v
  live : ∀ {W : Wo} {fp : List Addr} {x : κ} {v : V}, own W fp x v → ∀ a ∈ fp, W.H a ≠ none
/-- a list -/
def kL (α : Type) [PyI α] : Kd (List α) where
  own := fun W fp xs v => ∃ p vs, fp = [p] ∧ v = .ref p ∧ W.H p = some (.lst vs) ∧ Rps W xs vs
  st := fun s c ⟨p, vs, h1, h2, h3, h4⟩ => ⟨p, vs, h1, h2, c p (by rw [h1]; exact List.mem_singleton.mpr rfl) _ h3, Rps.st s h4⟩
  live := fun ⟨p, vs, h1, h2, h3, h4⟩ a ha => by
    rw [h1] at ha
    cases List.mem_singleton.mp ha
    exact some_ne h3
/-- a list of lists -/
def Row {α : Type} [PyI α] (W : Wo) (xs : List α) (a : Addr) : Prop := ∃ vs, W.H a = some (.lst vs) ∧ Rps W xs vs
theorem rows_st {α : Type} [PyI α] {W W' : Wo} (s : St W W') : ∀ {xss : List (List α)} {ps : List Addr}, (∀ a ∈ ps, ∀ o, W.H a = some o → W'.H a = some o) → Paired (Row W) xss ps → Paired (Row W') xss ps
  | _, _, _, .nil => .nil
  | _, _, c, .cons ⟨vs, q1, q2⟩ t => .cons ⟨vs, c _ List.mem_cons_self _ q1, Rps.st s q2⟩ (rows_st s (fun a m => c a (List.mem_cons_of_mem _ m)) t)
def kG (α : Type) [PyI α] : Kd (List (List α)) where
  own := fun W fp xss v => ∃ p ps, fp = p :: ps ∧ (p :: ps).Nodup ∧ v = .ref p ∧ W.H p = some (.lst (ps.map V.ref)) ∧ Paired (Row W) xss ps
  st := fun s c ⟨p, ps, h1, h2, h3, h4, h5⟩ => ⟨p, ps, h1, h2, h3, c p (by rw [h1]; exact List.mem_cons_self) _ h4, rows_st s (fun a m => c a (by rw [h1]; exact List.mem_cons_of_mem _ m)) h5⟩
  live := fun ⟨p, ps, h1, h2, h3, h4, h5⟩ a ha => by
    rw [h1] at ha
    rcases List.mem_cons.mp ha with rfl | ha
    · exact some_ne h4
    · obtain ⟨i, hi⟩ := List.getElem?_of_mem ha
      obtain ⟨xs, _, vs, q1, _⟩ := h5.getV hi
      exact some_ne q1
/-- of our own: new since W0, not frozen -/
structure Var {κ : Type} (k : Kd κ) (W0 W : Wo) (fp : List Addr) (x : κ) (v : V) : Prop where
  own : k.own W fp x v
  fr : ∀ a ∈ fp, W0.H a = none
  nF : ∀ a ∈ fp, ¬ W.F a
theorem Kd.go {κ : Type} {k : Kd κ} {e : Ef} {W W' : Wo} {fp : List Addr} {x : κ} {v : V} (g : Gw e W W') (hS : ∀ a ∈ fp, ¬ e.S a) (h : k.own W fp x v) : k.own W' fp x v := k.st g.st (fun a m o q => g.keep a o q (hS a m)) h
theorem Var.go {κ : Type} {k : Kd κ} {e : Ef} {W0 W W' : Wo} {fp : List Addr} {x : κ} {v : V} (g0 : Good e W0) (g : Gw e W W') (h : Var k W0 W fp x v) : Var k W0 W' fp x v :=
  ⟨Kd.go g (fun a m s => g0.S a s (h.fr a m)) h.own, h.fr, fun a m f => (g.new a f).elim (h.nF a m) (k.live h.own a m)⟩
end Y

/-! What a reading evaluates to, by its model. -/
namespace Y
open PySem L2
/-- how a result lies in the heap -/
structure Rs (e : Ef) (α : Type) where
  post : Wo → Wo → α → V → Prop
  back : ∀ {W W1 W2 : Wo} {a : α} {v : V}, Gw e W W1 → post W1 W2 a v → post W W2 a v
  stay : ∀ {W1 W2 W3 : Wo} {a : α} {v : V}, Gw e W2 W3 → post W1 W2 a v → post W1 W3 a v
def sI {e : Ef} {α : Type} [PyI α] : Rs e α := ⟨fun _ W2 a v => Rp W2 a v, fun _ h => h, fun g h => PyI.st g.st h⟩
def sR {e : Ef} {κ : Type} (k : Kd κ) : Rs e κ := ⟨fun _ W2 x v => ∃ fp, k.own W2 fp x v ∧ ∀ a ∈ fp, ¬ e.S a, fun _ h => h, fun g ⟨fp, h1, h2⟩ => ⟨fp, Kd.go g h2 h1, h2⟩⟩
def sN {e : Ef} {κ : Type} (k : Kd κ) : Rs e κ := ⟨fun W1 W2 x v => ∃ fp, k.own W2 fp x v ∧ ∀ a ∈ fp, W1.H a = none ∧ ¬ e.S a ∧ ¬ W2.F a,
  fun g ⟨fp, h1, h2⟩ => ⟨fp, h1, fun a m => ⟨g.live a (h2 a m).1, (h2 a m).2⟩⟩,
  fun g ⟨fp, h1, h2⟩ => ⟨fp, Kd.go g (fun a m => (h2 a m).2.1) h1, fun a m => ⟨(h2 a m).1, (h2 a m).2.1, fun f => (g.new a f).elim (h2 a m).2.2 (k.live h1 a m)⟩⟩⟩
def EvW {α : Type} (e : Ef) (te : TE) (σ : L2.St) (W : Wo) (ρ : Rs e α) (w : WP α) : Prop :=
  ∀ W1, Gw e W W1 → ∀ Q : VK, w.run W1.n (fun n a => ∀ v W2, Gw e W1 W2 → W2.n = n → ρ.post W1 W2 a v → Q v W2.H) → te σ W1.H Q
def EvT (e : Ef) (t : TT) (σ : L2.St) (W : Wo) (w : WP Bool) : Prop :=
  ∀ W1, Gw e W W1 → ∀ Q : Bool → Hp → Prop, w.run W1.n (fun n b => ∀ W2, Gw e W1 W2 → W2.n = n → Q b W2.H) → t σ W1.H Q
namespace WP
variable {α β γ δ : Type}
abbrev b2 (a : WP α) (b : WP β) (f : α → β → WP γ) : WP γ := a.bind fun x => b.bind fun y => f x y
abbrev b3 (a : WP α) (b : WP β) (c : WP γ) (f : α → β → γ → WP δ) : WP δ := a.bind fun x => b.bind fun y => c.bind fun z => f x y z
abbrev add (a b : WP Int) : WP Int := b2 a b fun x y => pure (x + y)
abbrev sub (a b : WP Int) : WP Int := b2 a b fun x y => pure (x - y)
abbrev mul (a b : WP Int) : WP Int := b2 a b fun x y => req (CMul x y) (x * y)
abbrev fdiv (a b : WP Int) : WP Int := b2 a b fun x y => req (CDiv x y) (x / y)
abbrev mod (a b : WP Int) : WP Int := b2 a b fun x y => req (0 < y) (x % y)
abbrev pow (a b : WP Int) : WP Int := b2 a b fun x y => req (CPow x y) (x ^ y.toNat)
abbrev lt (a b : WP Int) : WP Bool := b2 a b fun x y => pure (decide (x < y))
abbrev le (a b : WP Int) : WP Bool := b2 a b fun x y => pure (decide (x ≤ y))
abbrev gt (a b : WP Int) : WP Bool := b2 a b fun x y => pure (decide (y < x))
abbrev ge (a b : WP Int) : WP Bool := b2 a b fun x y => pure (decide (y ≤ x))
abbrev eq [DecidableEq α] (a b : WP α) : WP Bool := b2 a b fun x y => pure (decide (x = y))
abbrev ne [DecidableEq α] (a b : WP α) : WP Bool := b2 a b fun x y => pure (!decide (x = y))
abbrev not (a : WP Bool) : WP Bool := a.bind fun b => pure (!b)
abbrev and (a b : WP Bool) : WP Bool := a.bind fun x => cond x b (pure false)
abbrev or (a b : WP Bool) : WP Bool := a.bind fun x => cond x (pure true) b
abbrev ite (c : WP Bool) (a b : WP α) : WP α := c.bind fun x => cond x a b
/-- a < b < c -/
abbrev chain (C C' : Int → Int → Bool) (a b c : WP Int) : WP Bool := a.bind fun x => b.bind fun y => cond (C x y) (c.bind fun z => pure (C' y z)) (pure false)
end WP
section
variable {α β γ δ : Type} {K : PySem.W.Frag} {e : Ef} {σ : L2.St} {W : Wo} {ta tb te tc : TE} {t u : TT} {i j k m n : Nat} {v : V}
theorem ew_int {x : Int} : EvW e (tC (.int x)) σ W sI (WP.pure x) := fun W1 g Q q => q _ W1 (Gw.refl g.ok) rfl rfl
theorem ew_str {x : Str} : EvW e (tC (.str x)) σ W sI (WP.pure x) := fun W1 g Q q => q _ W1 (Gw.refl g.ok) rfl rfl
theorem ew_bl {x : Bool} : EvW e (tC (.bl x)) σ W sI (WP.pure x) := fun W1 g Q q => q _ W1 (Gw.refl g.ok) rfl rfl
theorem ew_var [PyI α] {a : α} {i : Nat} (h : σ[i]? = some (some v)) (r : Rp W a v) : EvW e (tVar i) σ W sI (WP.pure a) := fun W1 g Q q => ⟨v, h, q v W1 (Gw.refl g.ok) rfl (PyI.st g.st r)⟩
theorem ew_varR {κ : Type} {kd : Kd κ} {fp : List Addr} {x : κ} {i : Nat} (h : σ[i]? = some (some v)) (hS : ∀ a ∈ fp, ¬ e.S a) (r : kd.own W fp x v) : EvW e (tVar i) σ W (sR kd) (WP.pure x) := fun W1 g Q q => ⟨v, h, q v W1 (Gw.refl g.ok) rfl ⟨fp, Kd.go g hS r, hS⟩⟩
/-- what is new may be read -/
theorem ew_rd {κ : Type} {kd : Kd κ} {w : WP κ} (h : EvW e te σ W (sN kd) w) : EvW e te σ W (sR kd) w := fun W1 g Q q => h W1 g Q (w.mono (fun n a hq v W2 g2 hn ⟨fp, h1, h2⟩ => hq v W2 g2 hn ⟨fp, h1, fun a m => (h2 a m).2.1⟩) q)
theorem ew_op {r : R2} {ρ1 : Rs e α} {ρ2 : Rs e β} {ρ : Rs e γ} {w1 : WP α} {w2 : WP β} {f : α → β → WP γ} (ha : EvW e ta σ W ρ1 w1) (hb : EvW e tb σ W ρ2 w2)
    (hr : ∀ W1 W2 a b x y, Gw e W1 W2 → ρ1.post W1 W2 a x → ρ2.post W1 W2 b y → ∀ Q : VK, (f a b).run W2.n (fun n c => ∀ v W3, Gw e W2 W3 → W3.n = n → ρ.post W2 W3 c v → Q v W3.H) → r x y W2.H Q) : EvW e (tOp r ta tb) σ W ρ (WP.b2 w1 w2 f) := fun W1 g Q hw =>
  ha W1 g _ (w1.mono (fun n a h x W2 g2 hn r1 => hb W2 (g.trans g2) _ (by
    subst hn
    exact w2.mono (fun n b h y W3 g3 hn r2 => hr W1 W3 a b x y (g2.trans g3) (ρ1.stay g3 r1) (ρ2.back g2 r2) Q (by
      subst hn
      exact (f a b).mono (fun n c h v W4 g4 hn r4 => h v W4 ((g2.trans g3).trans g4) hn (ρ.back (g2.trans g3) r4)) h)) h)) hw)
/-- both of them read as they are -/
theorem ew_op2 [PyI α] [PyI β] [PyI γ] {r : R2} {w1 : WP α} {w2 : WP β} {C : α → β → Prop} {f : α → β → γ} (ha : EvW e ta σ W sI w1) (hb : EvW e tb σ W sI w2)
    (hr : ∀ W2 a b x y, Rp W2 a x → Rp W2 b y → C a b → ∀ Q : VK, (∀ v H3, Same W2.H H3 → Rp ⟨H3, W2.F, W2.n⟩ (f a b) v → Q v H3) → r x y W2.H Q) : EvW e (tOp r ta tb) σ W sI (WP.b2 w1 w2 fun a b => WP.req (C a b) (f a b)) :=
  ew_op ha hb fun W1 W2 a b x y g r1 r2 Q q => hr W2 a b x y r1 r2 q.1 Q fun v H3 s r => q.2 v ⟨H3, W2.F, W2.n⟩ (Gw.same g.ok s) rfl r
theorem ew_op20 [PyI α] [PyI β] [PyI γ] {r : R2} {w1 : WP α} {w2 : WP β} {f : α → β → γ} (ha : EvW e ta σ W sI w1) (hb : EvW e tb σ W sI w2)
    (hr : ∀ W2 a b x y, Rp W2 a x → Rp W2 b y → ∀ Q : VK, (∀ v H3, Same W2.H H3 → Rp ⟨H3, W2.F, W2.n⟩ (f a b) v → Q v H3) → r x y W2.H Q) : EvW e (tOp r ta tb) σ W sI (WP.b2 w1 w2 fun a b => WP.pure (f a b)) :=
  ew_op ha hb fun W1 W2 a b x y g r1 r2 Q q => hr W2 a b x y r1 r2 Q fun v H3 s r => q v ⟨H3, W2.F, W2.n⟩ (Gw.same g.ok s) rfl r
section
variable {w1 w2 : WP Int} (ha : EvW e ta σ W sI w1) (hb : EvW e tb σ W sI w2)
include ha hb
theorem ew_iop [PyI γ] {C : Int → Int → Prop} {f : Int → Int → V} {g : Int → Int → γ} (hv : ∀ W x y, Rp W (g x y) (f x y)) : EvW e (tOp (rI C f) ta tb) σ W sI (WP.b2 w1 w2 fun a b => WP.req (C a b) (g a b)) :=
  ew_op2 ha hb fun W2 a b x y r1 r2 hc Q q => by cases r1; cases r2; exact ⟨a, b, rfl, rfl, hc, q _ _ (Same.refl _) (hv _ _ _)⟩
theorem ew_iop0 [PyI γ] {f : Int → Int → V} {g : Int → Int → γ} (hv : ∀ W x y, Rp W (g x y) (f x y)) : EvW e (tOp (rI0 f) ta tb) σ W sI (WP.b2 w1 w2 fun a b => WP.pure (g a b)) :=
  ew_op20 ha hb fun W2 a b x y r1 r2 Q q => by cases r1; cases r2; exact ⟨a, b, rfl, rfl, q _ _ (Same.refl _) (hv _ _ _)⟩
theorem ew_add : EvW e (tOp (rI0 fun i j => .int (i + j)) ta tb) σ W sI (WP.add w1 w2) := ew_iop0 ha hb fun _ _ _ => rfl
theorem ew_sub : EvW e (tOp (rI0 fun i j => .int (i - j)) ta tb) σ W sI (WP.sub w1 w2) := ew_iop0 ha hb fun _ _ _ => rfl
theorem ew_mul : EvW e (tOp (rI CMul fun i j => .int (i * j)) ta tb) σ W sI (WP.mul w1 w2) := ew_iop ha hb fun _ _ _ => rfl
theorem ew_fdiv : EvW e (tOp (rI CDiv fun i j => .int (i / j)) ta tb) σ W sI (WP.fdiv w1 w2) := ew_iop ha hb fun _ _ _ => rfl
theorem ew_mod : EvW e (tOp (rI (fun _ j => 0 < j) fun i j => .int (i % j)) ta tb) σ W sI (WP.mod w1 w2) := ew_iop ha hb fun _ _ _ => rfl
theorem ew_pow : EvW e (tOp (rI CPow fun i j => .int (i ^ j.toNat)) ta tb) σ W sI (WP.pow w1 w2) := ew_iop ha hb fun _ _ _ => rfl
theorem ew_lt : EvW e (tOp (rI0 fun i j => .bl (decide (i < j))) ta tb) σ W sI (WP.lt w1 w2) := ew_iop0 ha hb fun _ _ _ => rfl
theorem ew_gt : EvW e (tOp (rI0 fun i j => .bl (decide (j < i))) ta tb) σ W sI (WP.gt w1 w2) := ew_iop0 ha hb fun _ _ _ => rfl
theorem ew_ge : EvW e (tOp (rI0 fun i j => .bl (decide (j ≤ i))) ta tb) σ W sI (WP.ge w1 w2) := ew_iop0 ha hb fun _ _ _ => rfl
end
/-- values told by == -/
class Scal (α : Type) [PyI α] [DecidableEq α] where
  toV : α → V
  rv : ∀ {W : Wo} {a : α} {v : V}, Rp W a v → v = toV a
  inj : ∀ a b : α, toV a = toV b ↔ a = b
  sc : ∀ a b : α, scal (toV a) (toV b) = true
instance : Scal Int := ⟨V.int, fun h => h, fun a b => ⟨fun h => by injection h, fun h => by rw [h]⟩, fun _ _ => rfl⟩
instance : Scal Bool := ⟨V.bl, fun h => h, fun a b => ⟨fun h => by injection h, fun h => by rw [h]⟩, fun _ _ => rfl⟩
instance : Scal Str := ⟨V.str, fun h => h, fun a b => ⟨fun h => by injection h, fun h => by rw [h]⟩, fun _ _ => rfl⟩
theorem scal_dec [PyI α] [DecidableEq α] [Scal α] (a b : α) : decide (Scal.toV a = Scal.toV b) = decide (a = b) := by
  by_cases h : a = b
  · rw [decide_eq_true h, decide_eq_true ((Scal.inj a b).mpr h)]
  · rw [decide_eq_false h, decide_eq_false (fun z => h ((Scal.inj a b).mp z))]
theorem ew_eq [PyI α] [DecidableEq α] [Scal α] {w1 w2 : WP α} (ha : EvW e ta σ W sI w1) (hb : EvW e tb σ W sI w2) : EvW e (tOp rEq ta tb) σ W sI (WP.eq w1 w2) :=
  ew_op20 ha hb fun W2 a b x y r1 r2 Q q => by
    rw [Scal.rv r1, Scal.rv r2]
    exact ⟨Scal.sc a b, q _ _ (Same.refl _) (by rw [scal_dec]; exact (rfl : _ = V.bl _))⟩
theorem ew_ne [PyI α] [DecidableEq α] [Scal α] {w1 w2 : WP α} (ha : EvW e ta σ W sI w1) (hb : EvW e tb σ W sI w2) : EvW e (tOp rNe ta tb) σ W sI (WP.ne w1 w2) :=
  ew_op20 ha hb fun W2 a b x y r1 r2 Q q => by
    rw [Scal.rv r1, Scal.rv r2]
    exact ⟨Scal.sc a b, q _ _ (Same.refl _) (by rw [scal_dec]; exact (rfl : _ = V.bl _))⟩
/-- tests -/
theorem et_t {w : WP Bool} (h : EvW e te σ W sI w) : EvT e (tTest te) σ W w := fun W1 g Q q => h W1 g _ (w.mono (fun n b h v W2 g2 hn r => ⟨b, r, h W2 g2 hn⟩) q)
theorem et_B {w : WP Bool} (h : EvW e te σ W sI w) : EvT e (tB te) σ W w := fun W1 g Q q => h W1 g _ (w.mono (fun n b h v W2 g2 hn r => ⟨b, r, h W2 g2 hn⟩) q)
theorem et_not {w : WP Bool} (h : EvT e t σ W w) : EvT e (tNot t) σ W (WP.not w) := fun W1 g Q q => h W1 g _ (w.mono (fun n b h W2 g2 hn => h W2 g2 hn) q)
theorem et_and {w1 w2 : WP Bool} (h1 : EvT e t σ W w1) (h2 : EvT e u σ W w2) : EvT e (tAnd t u) σ W (WP.and w1 w2) := fun W1 g Q q => h1 W1 g _ (w1.mono (fun n b h W2 g2 hn => by
  subst hn
  cases b with
  | true => exact h2 W2 (g.trans g2) _ (w2.mono (fun n c h W3 g3 hn => h W3 (g2.trans g3) hn) h)
  | false => exact h W2 g2 rfl) q)
theorem et_or {w1 w2 : WP Bool} (h1 : EvT e t σ W w1) (h2 : EvT e u σ W w2) : EvT e (tOr t u) σ W (WP.or w1 w2) := fun W1 g Q q => h1 W1 g _ (w1.mono (fun n b h W2 g2 hn => by
  subst hn
  cases b with
  | false => exact h2 W2 (g.trans g2) _ (w2.mono (fun n c h W3 g3 hn => h W3 (g2.trans g3) hn) h)
  | true => exact h W2 g2 rfl) q)
theorem ew_andV {w1 w2 : WP Bool} (h1 : EvW e ta σ W sI w1) (h2 : EvW e tb σ W sI w2) : EvW e (tAndV ta tb) σ W sI (WP.and w1 w2) := fun W1 g Q q => h1 W1 g _ (w1.mono (fun n b h v W2 g2 hn r => ⟨b, r, by
  subst hn
  cases b with
  | true => exact h2 W2 (g.trans g2) _ (w2.mono (fun n c h v W3 g3 hn r => h v W3 (g2.trans g3) hn r) h)
  | false => exact h _ W2 g2 rfl rfl⟩) q)
theorem ew_ifE {ρ : Rs e α} {c : WP Bool} {wa wb : WP α} (h : EvT e t σ W c) (h1 : EvW e ta σ W ρ wa) (h2 : EvW e tb σ W ρ wb) : EvW e (tIf t ta tb) σ W ρ (WP.ite c wa wb) := fun W1 g Q q => h W1 g _ (c.mono (fun n b h W2 g2 hn => by
  subst hn
  cases b with
  | true => exact h1 W2 (g.trans g2) _ (wa.mono (fun n c h v W3 g3 hn r => h v W3 (g2.trans g3) hn (ρ.back g2 r)) h)
  | false => exact h2 W2 (g.trans g2) _ (wb.mono (fun n c h v W3 g3 hn r => h v W3 (g2.trans g3) hn (ρ.back g2 r)) h)) q)
theorem ew_chain {C C' : Int → Int → Bool} {w1 w2 w3 : WP Int} (h1 : EvW e ta σ W sI w1) (h2 : EvW e tb σ W sI w2) (h3 : EvW e tc σ W sI w3) :
    EvW e (tChain (rI0 fun i j => .bl (C i j)) (rI0 fun i j => .bl (C' i j)) ta tb tc) σ W sI (WP.chain C C' w1 w2 w3) := fun W1 g Q q => h1 W1 g _ (w1.mono (fun n a h x W2 g2 hn r1 => by
  subst hn
  refine h2 W2 (g.trans g2) _ (w2.mono (fun n b h y W3 g3 hn r2 => ?_) h)
  subst hn
  cases r1; cases r2
  refine ⟨a, b, rfl, rfl, C a b, rfl, ?_⟩
  cases hC : C a b with
  | true =>
    simp only [hC, WP.cond_true] at h
    refine h3 W3 ((g.trans g2).trans g3) _ (w3.mono (fun n c h z W4 g4 hn r3 => ?_) h)
    cases r3
    exact ⟨b, c, rfl, rfl, h _ W4 ((g2.trans g3).trans g4) hn rfl⟩
  | false =>
    simp only [hC, WP.cond_false] at h
    exact h _ W3 (g2.trans g3) rfl rfl) q)
/-! arguments -/
def EvA (e : Ef) (ta : TA) (σ : L2.St) (W : Wo) {α : Type} (ψ : Wo → Wo → α → List V → Prop) (w : WP α) : Prop :=
  ∀ W1, Gw e W W1 → ∀ Q : List V → Hp → Prop, w.run W1.n (fun n a => ∀ vs W2, Gw e W1 W2 → W2.n = n → ψ W1 W2 a vs → Q vs W2.H) → ta σ W1.H Q
theorem ea2 {ρ1 : Rs e α} {ρ2 : Rs e β} {w1 : WP α} {w2 : WP β} (h1 : EvW e ta σ W ρ1 w1) (h2 : EvW e tb σ W ρ2 w2) : EvA e (tCons ta (tCons tb tNil)) σ W (fun W1 W2 (c : α × β) vs => ∃ v1 v2, vs = [v1, v2] ∧ ρ1.post W1 W2 c.1 v1 ∧ ρ2.post W1 W2 c.2 v2) (WP.b2 w1 w2 fun a b => WP.pure (a, b)) := fun W1 g Q q =>
  h1 W1 g _ (w1.mono (fun n a h x W2 g2 hn r1 => by
    subst hn
    exact h2 W2 (g.trans g2) _ (w2.mono (fun n b h y W3 g3 hn r2 => h _ W3 (g2.trans g3) hn ⟨x, y, rfl, ρ1.stay g3 r1, ρ2.back g2 r2⟩) h)) q)
theorem ew_cb1 {r : List V → Hp → VK → Prop} {ρ1 : Rs e α} {ρ : Rs e γ} {w1 : WP α} {m : α → WP γ} (h1 : EvW e ta σ W ρ1 w1)
    (hm : ∀ W1 W2 a x, Gw e W1 W2 → ρ1.post W1 W2 a x → ∀ Q : VK, (m a).run W2.n (fun n b => ∀ v W3, Gw e W2 W3 → W3.n = n → ρ.post W2 W3 b v → Q v W3.H) → r [x] W2.H Q) : EvW e (tCB r (tCons ta tNil)) σ W ρ (w1.bind m) := fun W1 g Q q =>
  h1 W1 g _ (w1.mono (fun n a h x W2 g2 hn r1 => by
    subst hn
    exact hm W1 W2 a x g2 r1 Q ((m a).mono (fun n b h v W3 g3 hn r3 => h v W3 (g2.trans g3) hn (ρ.back g2 r3)) h)) q)
theorem ew_cb2 {r : List V → Hp → VK → Prop} {ρ1 : Rs e α} {ρ2 : Rs e β} {ρ : Rs e γ} {w1 : WP α} {w2 : WP β} {m : α → β → WP γ} (h1 : EvW e ta σ W ρ1 w1) (h2 : EvW e tb σ W ρ2 w2)
    (hm : ∀ W1 W2 a b x y, Gw e W1 W2 → ρ1.post W1 W2 a x → ρ2.post W1 W2 b y → ∀ Q : VK, (m a b).run W2.n (fun n b => ∀ v W3, Gw e W2 W3 → W3.n = n → ρ.post W2 W3 b v → Q v W3.H) → r [x, y] W2.H Q) : EvW e (tCB r (tCons ta (tCons tb tNil))) σ W ρ (WP.b2 w1 w2 m) := fun W1 g Q q =>
  h1 W1 g _ (w1.mono (fun n a h x W2 g2 hn r1 => by
    subst hn
    refine h2 W2 (g.trans g2) _ (w2.mono (fun n b h y W3 g3 hn r2 => ?_) h)
    subst hn
    exact hm W1 W3 a b x y (g2.trans g3) (ρ1.stay g3 r1) (ρ2.back g2 r2) Q ((m a b).mono (fun n b h v W4 g4 hn r3 => h v W4 ((g2.trans g3).trans g4) hn (ρ.back (g2.trans g3) r3)) h)) q)
/-! calls: of defs that keep their promise -/
theorem ew_call2 {sp : Sp} {E : XK} {ρ1 : Rs e α} {ρ2 : Rs e β} {ρ : Rs e γ} {w1 : WP α} {w2 : WP β} {m : α → β → WP γ} (h1 : EvW e ta σ W ρ1 w1) (h2 : EvW e tb σ W ρ2 w2)
    (hm : ∀ W2 a b x y, Good e W2 → ρ1.post W2 W2 a x → ρ2.post W2 W2 b y → ∀ Q : VK, (m a b).run W2.n (fun n b => ∀ v W3, Gw e W2 W3 → W3.n = n → ρ.post W2 W3 b v → Q v W3.H) → ∀ E, sp [x, y] W2.H Q E)
    (hn1 : ∀ {W1 W2 a x}, ρ1.post W1 W2 a x → ρ1.post W2 W2 a x := by intros; assumption) (hn2 : ∀ {W1 W2 a x}, ρ2.post W1 W2 a x → ρ2.post W2 W2 a x := by intros; assumption) : EvW e (tCall sp [] E (tCons ta (tCons tb tNil))) σ W ρ (WP.b2 w1 w2 m) := fun W1 g Q q =>
  h1 W1 g _ (w1.mono (fun n a h x W2 g2 hn r1 => by
    subst hn
    refine h2 W2 (g.trans g2) _ (w2.mono (fun n b h y W3 g3 hn r2 => ?_) h)
    subst hn
    exact hm W3 a b x y g3.ok (hn1 (ρ1.stay g3 r1)) (hn2 r2) Q ((m a b).mono (fun n b h v W4 g4 hn r3 => h v W4 ((g2.trans g3).trans g4) hn (ρ.back (g2.trans g3) r3)) h) E) q)
end
end Y

namespace Y
open PySem PySem.Spec PyProof.Rows L2
theorem sz_le {n : Nat} (h : n ≤ 100000) : n ≤ sizeLine := Nat.le_trans h (by decide)
theorem sz_lt {n : Nat} (h : n < 100000) : n < sizeLine := Nat.lt_of_lt_of_le h (by decide)
/-- items, by total functions -/
def ixD {α : Type} [Inhabited α] (xs : List α) (i : Int) : α := (atI xs i).getD default
def okI (n : Nat) (i : Int) : Prop := -(n : Int) ≤ i ∧ i < n
theorem atI_ok {α : Type} [Inhabited α] {xs : List α} {i : Int} (h : okI xs.length i) : atI xs i = some (ixD xs i) := by
  have : ∃ a, atI xs i = some a := by
    unfold atI ixN
    obtain ⟨h1, h2⟩ := h
    by_cases h0 : 0 ≤ i
    · rw [if_pos h0, if_pos h2]
      have : i.toNat < xs.length := by omega
      exact ⟨xs[i.toNat], by simp [this]⟩
    · rw [if_neg h0, if_pos h1]
      have : (i + xs.length).toNat < xs.length := by omega
      exact ⟨xs[(i + xs.length).toNat], by simp [this]⟩
  obtain ⟨a, ha⟩ := this
  unfold ixD
  rw [ha]; rfl
theorem ixD_nat {α : Type} [Inhabited α] {xs : List α} {i : Nat} (h : i < xs.length) : ixD xs (i : Int) = xs[i] := by
  unfold ixD atI ixN
  rw [if_pos (by omega), if_pos (by omega)]
  simp [h]
theorem atI_pair {α β : Type} {F : α → β → Prop} {xs : List α} {vs : List β} {i : Int} {a : α} (h : Paired F xs vs) (e : atI xs i = some a) : ∃ v, atI vs i = some v ∧ F a v := by
  unfold atI at e ⊢
  rw [← Paired.length h]
  cases q : ixN xs.length i with
  | none => rw [q] at e; cases e
  | some n => rw [q] at e; exact h.getA e
def sgn (z : Str) (i : Int) : Str := ⟨#[ixD z.cps.toList i]⟩
instance : Inhabited Str := ⟨⟨#[]⟩⟩
def cutL {α : Type} (xs : List α) (lo hi : Option Int) : List α := (xs.drop (HT.sIx xs.length 0 lo)).take (HT.sIx xs.length xs.length hi - HT.sIx xs.length 0 lo)
namespace WP
variable {α β γ : Type}
abbrev ix [Inhabited α] (a : WP (List α)) (b : WP Int) : WP α := b2 a b fun xs x => req (okI xs.length x) (ixD xs x)
abbrev ixS (a : WP Str) (b : WP Int) : WP Str := b2 a b fun z x => req (z.length ≤ 100000 ∧ okI z.length x) (sgn z x)
abbrev fst (a : WP (α × β)) : WP α := a.bind fun c => pure c.1
abbrev snd (a : WP (α × β)) : WP β := a.bind fun c => pure c.2
abbrev cat (a b : WP (List α)) : WP (List α) := b2 a b fun xs ys => req (xs.length + ys.length ≤ 100000) (xs ++ ys)
abbrev pair (a : WP α) (b : WP β) : WP (α × β) := b2 a b fun x y => pure (x, y)
abbrev tri (a : WP α) (b : WP β) (c : WP γ) : WP (Tri α β γ) := b3 a b c fun x y z => pure ⟨x, y, z⟩
abbrev consE (a : WP α) (b : WP (List α)) : WP (List α) := b2 a b fun x xs => pure (x :: xs)
abbrev row (a : WP (List α)) : WP (List α) := a.bind fun xs => req (xs.length ≤ 100000) xs
abbrev len (a : WP (List α)) : WP Int := a.bind fun xs => pure ((xs.length : Nat) : Int)
abbrev lenS (a : WP Str) : WP Int := a.bind fun z => req (z.length ≤ 100000) ((z.length : Nat) : Int)
abbrev abs (a : WP Int) : WP Int := a.bind fun i => pure (if i < 0 then -i else i)
abbrev min2 (a b : WP Int) : WP Int := b2 a b fun i j => pure (if j < i then j else i)
abbrev max2 (a b : WP Int) : WP Int := b2 a b fun i j => pure (if j > i then j else i)
abbrev sum (a : WP (List Int)) : WP Int := a.bind fun xs => pure xs.sum
abbrev cut (a : WP (List α)) (l h : WP (Option Int)) : WP (List α) := b3 a l h fun xs x y => pure (cutL xs x y)
end WP
section
variable {α β γ δ : Type} {K : PySem.W.Frag} {e : Ef} {σ : L2.St} {W : Wo} {ta tb te tc : TE} {t u : TT} {i j k m n : Nat} {v : V}
theorem ew_ixT [PyI α] [Inhabited α] {w1 : WP (List α)} {w2 : WP Int} (ha : EvW e ta σ W sI w1) (hb : EvW e tb σ W sI w2) : EvW e (tOp (rIxT K) ta tb) σ W sI (WP.ix w1 w2) :=
  ew_op2 ha hb fun W2 xs x _ _ ⟨p, vs, h1, h2, h3⟩ r2 hc Q q => by
    cases r2
    obtain ⟨v, hv, rv⟩ := atI_pair h3 (atI_ok hc)
    exact ⟨p, vs, x, v, h1, rfl, SqT.of h2, hv, q _ _ (Same.refl _) rv⟩
theorem ew_fst [PyI α] [PyI β] {w : WP (α × β)} (ha : EvW e ta σ W sI w) : EvW e (tOp (rIxT K) ta (tC (.int 0))) σ W sI (WP.fst w) := fun W1 g Q q => ha W1 g _ (w.mono (fun n c h v W2 g2 hn ⟨p, x, y, h1, h2, h3, h4⟩ => ⟨p, _, 0, x, h1, rfl, SqT.of h2, rfl, h _ W2 g2 hn h3⟩) q)
theorem ew_snd [PyI α] [PyI β] {w : WP (α × β)} (ha : EvW e ta σ W sI w) : EvW e (tOp (rIxT K) ta (tC (.int 1))) σ W sI (WP.snd w) := fun W1 g Q q => ha W1 g _ (w.mono (fun n c h v W2 g2 hn ⟨p, x, y, h1, h2, h3, h4⟩ => ⟨p, _, 1, y, h1, rfl, SqT.of h2, rfl, h _ W2 g2 hn h4⟩) q)
theorem ew_ixS {w1 : WP Str} {w2 : WP Int} (ha : EvW e ta σ W sI w1) (hb : EvW e tb σ W sI w2) : EvW e (tOp rIxS ta tb) σ W sI (WP.ixS w1 w2) :=
  ew_op2 ha hb fun W2 z x _ _ r1 r2 hc Q q => by
    cases r1; cases r2
    exact ⟨z, x, _, rfl, rfl, sz_le hc.1, atI_ok (xs := z.cps.toList) (by rw [Array.length_toList]; exact hc.2), q _ _ (Same.refl _) rfl⟩
theorem ew_ixL [PyI α] [Inhabited α] {w1 : WP (List α)} {w2 : WP Int} (ha : EvW e ta σ W (sR (kL α)) w1) (hb : EvW e tb σ W sI w2) : EvW e (tOp (rIxL K) ta tb) σ W sI (WP.ix w1 w2) :=
  ew_op ha hb fun W1 W2 xs x _ _ g ⟨fp, ⟨p, vs, _, h1, h2, h3⟩, _⟩ r2 Q q => by
    cases r2
    obtain ⟨v, hv, rv⟩ := atI_pair h3 (atI_ok q.1)
    exact ⟨p, vs, x, v, h1, rfl, SqL.of h2, hv, q.2 _ W2 (Gw.refl g.ok) rfl rv⟩
/-- a frozen list may be read -/
theorem ew_ls [PyI α] {w : WP (Ls α)} (h : EvW e te σ W sI w) : EvW e te σ W (sR (kL α)) (w.bind fun x => WP.pure x.l) := fun W1 g Q q => h W1 g _ (w.mono (fun n a hq v W2 g2 hn ⟨p, vs, h1, h2, h3, h4⟩ => hq v W2 g2 hn ⟨[p], ⟨p, vs, rfl, h1, h3, h4⟩, fun b m => by cases List.mem_singleton.mp m; exact (g2.ok.F p h2).1⟩) q)
/-- a new object at hand -/
theorem Gw.al {e : Ef} {W W2 : Wo} (g : Gw e W W2) {p : Addr} {o : HO} (hp : W2.H p = none) : Gw e W ⟨upd W2.H p o, W2.F, W2.n⟩ := g.trans (Gw.alloc g.ok hp)
theorem new_L [PyI α] {e : Ef} {W1 W2 : Wo} {p : Addr} {xs : List α} {vs : List V} (g : Gw e W1 W2) (hp : W2.H p = none) (r : Rps W2 xs vs) : (sN (e := e) (kL α)).post W1 ⟨upd W2.H p (.lst vs), W2.F, W2.n⟩ xs (.ref p) :=
  ⟨[p], ⟨p, vs, rfl, rfl, upd_same, Rps.st (Gw.alloc (o := .lst vs) g.ok hp).st r⟩, fun a m => by
    cases List.mem_singleton.mp m
    exact ⟨g.live p hp, fun s => g.ok.S p s hp, fun f => (g.ok.F p f).2 hp⟩⟩
/-- a + b of lists -/
theorem ew_cat [PyI α] {w1 w2 : WP (List α)} (ha : EvW e ta σ W (sR (kL α)) w1) (hb : EvW e tb σ W (sR (kL α)) w2) : EvW e (tOp rCat ta tb) σ W (sN (kL α)) (WP.cat w1 w2) :=
  ew_op ha hb fun W1 W2 xs ys _ _ g ⟨_, ⟨p1, vs, _, h1, h2, h3⟩, _⟩ ⟨_, ⟨p2, ws, _, q1, q2, q3⟩, _⟩ Q q => by
    subst h1; subst q1
    refine ⟨p1, p2, vs, ws, rfl, rfl, h2, q2, by rw [← Paired.length h3, ← Paired.length q3]; exact sz_le q.1, fun p hp => q.2 _ _ (Gw.alloc g.ok hp) rfl (new_L (Gw.refl g.ok) hp (Paired.appA h3 q3))⟩
/-- bounds of slices -/
def EvO (e : Ef) (to : TO) (σ : L2.St) (W : Wo) (w : WP (Option Int)) : Prop := ∀ W1, Gw e W W1 → ∀ Q : Option Int → Hp → Prop, w.run W1.n (fun n o => ∀ W2, Gw e W1 W2 → W2.n = n → Q o W2.H) → to σ W1.H Q
theorem eo_none : EvO e tNoPart σ W (WP.pure none) := fun W1 g Q q => q W1 (Gw.refl g.ok) rfl
theorem eo_some {w : WP Int} (h : EvW e te σ W sI w) : EvO e (tPart te) σ W (w.bind fun x => WP.pure (some x)) := fun W1 g Q q => h W1 g _ (w.mono (fun n x hq v W2 g2 hn r => by
  cases r
  exact ⟨x, rfl, hq W2 g2 hn⟩) q)
theorem ew_slL [PyI α] {w : WP (List α)} {wl wh : WP (Option Int)} {tl th : TO} (ha : EvW e ta σ W (sR (kL α)) w) (h1 : EvO e tl σ W wl) (h2 : EvO e th σ W wh) : EvW e (tSl (rSlL K) ta tl th) σ W (sN (kL α)) (WP.cut w wl wh) := fun W1 g Q q =>
  ha W1 g _ (w.mono (fun n xs hq v W2 g2 hn r => by
    subst hn
    refine h1 W2 (g.trans g2) _ (wl.mono (fun n lo hq W3 g3 hn => ?_) hq)
    subst hn
    refine h2 W3 ((g.trans g2).trans g3) _ (wh.mono (fun n hi hq W4 g4 hn => ?_) hq)
    subst hn
    obtain ⟨fp, ⟨p, vs, _, e1, e2, e3⟩, _⟩ := (sR (kL α)).stay (g3.trans g4) r
    have gg := (g2.trans g3).trans g4
    have el := Paired.length e3
    refine ⟨p, vs, e1, SqL.of e2, fun q' hq' => hq _ _ (gg.al hq') rfl ?_⟩
    have := new_L gg hq' ((e3.dropA (HT.sIx vs.length 0 lo)).takeA (HT.sIx vs.length vs.length hi - HT.sIx vs.length 0 lo))
    unfold cutL
    rw [el]
    exact this) q)
/-- displays -/
theorem ew_pair [PyI α] [PyI β] {w1 : WP α} {w2 : WP β} (ha : EvW e ta σ W sI w1) (hb : EvW e tb σ W sI w2) : EvW e (tTup (tCons ta (tCons tb tNil))) σ W sI (WP.pair w1 w2) := fun W1 g Q q =>
  ea2 ha hb W1 g _ (WP.mono _ (fun n c h vs W2 g2 hn ⟨v, w, hv, r1, r2⟩ => by
    subst hv
    exact ⟨sz_le (n := 2) (by decide), fun p hp => h _ _ (g2.al hp) hn ⟨p, v, w, rfl, upd_same, PyI.st (Gw.alloc g2.ok hp).st r1, PyI.st (Gw.alloc g2.ok hp).st r2⟩⟩) q)
theorem ew_tri [PyI α] [PyI β] [PyI γ] {w1 : WP α} {w2 : WP β} {w3 : WP γ} (ha : EvW e ta σ W sI w1) (hb : EvW e tb σ W sI w2) (hc : EvW e tc σ W sI w3) : EvW e (tTup (tCons ta (tCons tb (tCons tc tNil)))) σ W sI (WP.tri w1 w2 w3) := fun W1 g Q q =>
  ha W1 g _ (w1.mono (fun n a h x W2 g2 hn r1 => by
    subst hn
    refine hb W2 (g.trans g2) _ (w2.mono (fun n b h y W3 g3 hn r2 => ?_) h)
    subst hn
    refine hc W3 ((g.trans g2).trans g3) _ (w3.mono (fun n c h z W4 g4 hn r3 => ?_) h)
    refine ⟨sz_le (n := 3) (by decide), fun p hp => ?_⟩
    have s := (Gw.alloc (o := .tup [x, y, z]) g4.ok hp).st
    exact h _ _ (((g2.trans g3).trans g4).al hp) hn ⟨p, x, y, z, rfl, upd_same, PyI.st ((g3.trans g4).st.trans s) r1, PyI.st (g4.st.trans s) r2, PyI.st s r3⟩) q)
def EAs [PyI α] (e : Ef) (ta : TA) (σ : L2.St) (W : Wo) (w : WP (List α)) : Prop := EvA e ta σ W (fun _ W2 xs vs => Rps W2 xs vs) w
theorem eas_nil [PyI α] : EAs e tNil σ W (WP.pure ([] : List α)) := fun W1 g Q q => q [] W1 (Gw.refl g.ok) rfl .nil
theorem eas_cons [PyI α] {w : WP α} {wr : WP (List α)} {tr : TA} (h : EvW e te σ W sI w) (hr : EAs e tr σ W wr) : EAs e (tCons te tr) σ W (WP.consE w wr) := fun W1 g Q q =>
  h W1 g _ (w.mono (fun n a h v W2 g2 hn r => by
    subst hn
    exact hr W2 (g.trans g2) _ (wr.mono (fun n xs h vs W3 g3 hn r3 => h _ W3 (g2.trans g3) hn (.cons (PyI.st g3.st r) r3)) h)) q)
theorem ew_lst [PyI α] {w : WP (List α)} {tr : TA} (h : EAs e tr σ W w) : EvW e (tLst tr) σ W (sN (kL α)) (WP.row w) := fun W1 g Q q =>
  h W1 g _ (w.mono (fun n xs h vs W2 g2 hn r => ⟨by rw [← Paired.length r]; exact sz_le h.1, fun p hp => h.2 _ _ (g2.al hp) hn (new_L g2 hp r)⟩) q)
/-- things built in -/
abbrev rLenS (K : PySem.W.Frag) : List V → Hp → VK → Prop := fun xs H Q => ∃ p ys, xs = [.ref p] ∧ (SqL K H p ys ∨ SqT K H p ys) ∧ Q (.int ys.length) H
theorem ew_lenT [PyI α] {w : WP (List α)} (ha : EvW e ta σ W sI w) : EvW e (tCB (rLenS K) (tCons ta tNil)) σ W sI (WP.len w) := ew_cb1 ha fun W1 W2 xs x g ⟨p, vs, h1, h2, h3⟩ Q q => by
  subst h1
  exact ⟨p, vs, rfl, .inr (SqT.of h2), q _ W2 (Gw.refl g.ok) rfl (by rw [← Paired.length h3]; exact rfl)⟩
theorem ew_lenL [PyI α] {w : WP (List α)} (ha : EvW e ta σ W (sR (kL α)) w) : EvW e (tCB (rLenS K) (tCons ta tNil)) σ W sI (WP.len w) := ew_cb1 ha fun W1 W2 xs x g ⟨_, ⟨p, vs, _, h1, h2, h3⟩, _⟩ Q q => by
  subst h1
  exact ⟨p, vs, rfl, .inl (SqL.of h2), q _ W2 (Gw.refl g.ok) rfl (by rw [← Paired.length h3]; exact rfl)⟩
abbrev rLenZ : List V → Hp → VK → Prop := fun xs H Q => ∃ z, xs = [.str z] ∧ z.length ≤ sizeLine ∧ Q (.int z.length) H
theorem ew_lenS {w : WP Str} (ha : EvW e ta σ W sI w) : EvW e (tCB rLenZ (tCons ta tNil)) σ W sI (WP.lenS w) := ew_cb1 ha fun W1 W2 z x g r Q q => by
  cases r
  exact ⟨z, rfl, sz_le q.1, q.2 _ W2 (Gw.refl g.ok) rfl rfl⟩
abbrev rAbs : List V → Hp → VK → Prop := fun xs H Q => ∃ i, xs = [.int i] ∧ Q (.int (if i < 0 then -i else i)) H
theorem ew_abs {w : WP Int} (ha : EvW e ta σ W sI w) : EvW e (tCB rAbs (tCons ta tNil)) σ W sI (WP.abs w) := ew_cb1 ha fun W1 W2 z x g r Q q => by
  cases r
  exact ⟨z, rfl, q _ W2 (Gw.refl g.ok) rfl rfl⟩
abbrev rInt1 : List V → Hp → VK → Prop := fun xs H Q => (∃ i, xs = [.int i] ∧ Q (.int i) H) ∨ ∃ k, xs = [.bl k] ∧ Q (.int (if k then 1 else 0)) H
theorem ew_int1 {w : WP Int} (ha : EvW e ta σ W sI w) : EvW e (tCB rInt1 (tCons ta tNil)) σ W sI (w.bind WP.pure) := ew_cb1 ha fun W1 W2 z x g r Q q => by
  cases r
  exact .inl ⟨z, rfl, q _ W2 (Gw.refl g.ok) rfl rfl⟩
abbrev rMin2 : List V → Hp → VK → Prop := fun xs H Q => ∃ i j, xs = [.int i, .int j] ∧ Q (.int (if j < i then j else i)) H
theorem ew_min2 {w1 w2 : WP Int} (ha : EvW e ta σ W sI w1) (hb : EvW e tb σ W sI w2) : EvW e (tCB rMin2 (tCons ta (tCons tb tNil))) σ W sI (WP.min2 w1 w2) := ew_cb2 ha hb fun W1 W2 a b x y g r1 r2 Q q => by
  cases r1; cases r2
  exact ⟨a, b, rfl, q _ W2 (Gw.refl g.ok) rfl rfl⟩
abbrev rMax2 : List V → Hp → VK → Prop := fun xs H Q => ∃ i j, xs = [.int i, .int j] ∧ Q (.int (if j > i then j else i)) H
theorem ew_max2 {w1 w2 : WP Int} (ha : EvW e ta σ W sI w1) (hb : EvW e tb σ W sI w2) : EvW e (tCB rMax2 (tCons ta (tCons tb tNil))) σ W sI (WP.max2 w1 w2) := ew_cb2 ha hb fun W1 W2 a b x y g r1 r2 Q q => by
  cases r1; cases r2
  exact ⟨a, b, rfl, q _ W2 (Gw.refl g.ok) rfl rfl⟩
theorem ew_sum {w : WP (List Int)} (ha : EvW e ta σ W (sR (kL Int)) w) : EvW e (tCB (rSum K) (tCons ta tNil)) σ W sI (WP.sum w) := ew_cb1 ha fun W1 W2 xs x g ⟨_, ⟨p, vs, _, h1, h2, h3⟩, _⟩ Q q => by
  subst h1
  cases rps_ints h3
  exact ⟨p, xs, rfl, SqL.of h2, q _ W2 (Gw.refl g.ok) rfl rfl⟩
abbrev rTupOf (K : PySem.W.Frag) : List V → Hp → VK → Prop := fun xs H Q => ∃ p ys, xs = [.ref p] ∧ ((SqL K H p ys ∧ ∀ l, H l = none → Q (.ref l) (upd H l (.tup ys))) ∨ (SqT K H p ys ∧ Q (.ref p) H))
theorem ew_tuple [PyI α] {w : WP (List α)} (h : EvW e te σ W (sR (kL α)) w) : EvW e (tCB (rTupOf K) (tCons te tNil)) σ W sI (w.bind fun xs => WP.pure (α := List α) xs) := ew_cb1 h fun W1 W2 xs x g ⟨_, ⟨p, vs, _, h1, h2, h3⟩, _⟩ Q q => by
  subst h1
  exact ⟨p, vs, rfl, .inl ⟨SqL.of h2, fun l hl => q _ _ (Gw.alloc g.ok hl) rfl ⟨l, vs, rfl, upd_same, Rps.st (Gw.alloc g.ok hl).st h3⟩⟩⟩
end
end Y

namespace Y
open PySem PySem.Spec PyProof.Rows L2
/-- a def of the module that keeps its promise -/
def Has (P : Program) (w : World) (K : PySem.W.Frag) (mg : Str → Option Value) (base : Heap) (x : Str) (k : Nat) (ps : List Str) (sp : Sp) : Prop :=
  ∃ f fd, mg x = some (.ref f) ∧ PySem.W.keepIn K (.ref f) = true ∧ Binds K fd ps [] ∧ FnOk P w K mg base CX0 k f fd ps sp
/-- a def as the top left it -/
def At (K : PySem.W.Frag) (mg : Str → Option Value) (x : Str) (st : Stmt) (ps : List Str) : Prop :=
  ∃ f fd, mg x = some (.ref f) ∧ Fun K x x st f fd ∧ Binds K fd ps []
section
variable {X : Cx}
theorem pe_user {x : Str} {k : Nat} {ps : List Str} {sp : Sp} {a : Expr} {es : List Expr} {t : TA} {p pos : Pos} (h : Has X.prog X.w X.K X.mg X.base x k ps sp) (hr : Room k X.A) (hg : Gl X x) (ha : PA X (a :: es) t)
    (hdb : (x == ("__debug__" : Str)) = false := by decide) (he : starEach (a :: es) X.env = (false, eval a X.env) :: starEach es X.env := by rfl) (hpl : (backTo pos (starEach es X.env)).any (·.1) = false := by rfl) :
    PE X (.Call (.Name x p) (a :: es) [] pos) (tCall sp [] E0 t) := by
  obtain ⟨f, fd, hm, hk, hb, hF⟩ := h
  exact pe_call hF hr hg hm hk hb .nil pass0 ha hdb he hpl
end
theorem Has.of {P : Program} {w : World} {K : PySem.W.Frag} {mg : Str → Option Value} {base : Heap} {x : Str} {st : Stmt} {N ps : List Str} {k : Nat} {sp : Sp} (F : At K mg x st ps) (S : FnScope N ps (defScope st)) (len : ∀ vs H Q E, sp vs H Q E → vs.length = ps.length)
    (hbody : ∀ (f : Addr) (cdv : Value) (A : Around) (outer : List Env) (s : Shared) (H : Hp) (vs : List V) (Q : VK) (E : XK), Room k (A.deeper (envOfC x (defScope st) s.heap.objs.size f cdv)) → sp vs H Q E →
      ∃ t, PSs (cxOf CX0 P w K mg base N x (defScope st) f cdv A outer s H E).nox (defBody st) t ∧ t { nx := fun _ H' => Q .non H', rt := Q } (start N vs) H) : Has P w K mg base x (k + 1) ps sp := by
  obtain ⟨f, fd, hm, hF, hb⟩ := F
  exact ⟨f, fd, hm, hF.kp, hb, hF.ok S len fun cdv A outer s H vs Q E => hbody f cdv A outer s H vs Q E⟩
/-! ### models of loops -/
/-- contents kept -/
def Kp (fp : List Addr) (W W' : Wo) : Prop := ∀ a ∈ fp, ∀ o, W.H a = some o → W'.H a = some o
theorem Kp.refl {fp : List Addr} {W : Wo} : Kp fp W W := fun _ _ _ h => h
theorem Kp.trans {fp : List Addr} {W W1 W2 : Wo} (a : Kp fp W W1) (b : Kp fp W1 W2) : Kp fp W W2 := fun x m o h => b x m o (a x m o h)
theorem Kp.gw {e : Ef} {fp : List Addr} {W W' : Wo} (g : Gw e W W') (hS : ∀ a ∈ fp, ¬ e.S a) : Kp fp W W' := fun a m o h => g.keep a o h (hS a m)
theorem Kp.upd {fp : List Addr} {W W' : Wo} {l : Addr} {u : HO} (h : Kp fp W W') (hl : ∀ a ∈ fp, a ≠ l) : Kp fp W ⟨upd W'.H l u, W'.F, W'.n⟩ := fun a m o q => by
  show (L2.upd W'.H l u) a = _
  rw [upd_ne (hl a m)]; exact h a m o q
def rangeL (lo hi : Int) : List Int := (List.range (hi - lo).toNat).map fun i : Nat => lo + (i : Int)
theorem rangeL_get {lo hi : Int} {i : Nat} (h : i < (hi - lo).toNat) : (rangeL lo hi)[i]? = some (lo + (i : Int)) := by
  unfold rangeL
  rw [List.getElem?_map, List.getElem?_range h]; rfl
theorem rangeL_len {lo hi : Int} : (rangeL lo hi).length = (hi - lo).toNat := by unfold rangeL; rw [List.length_map, List.length_range]
theorem mem_rangeL {lo hi x : Int} (h : x ∈ rangeL lo hi) : lo ≤ x ∧ x < hi := by
  unfold rangeL at h
  rw [List.mem_map] at h
  obtain ⟨i, hi, e⟩ := h
  rw [List.mem_range] at hi
  omega
namespace WP
variable {α β γ s ρ : Type}
/-- what follows a loop -/
def after (w : WP (Ctl s γ)) (f : s → WP ρ) (r : γ → WP ρ) : WP ρ := w.bind fun c => match c with | .nx y => f y | .bk y => f y | .rt x => r x
def range1 (w : WP Int) : WP (List Int) := w.bind fun n => req (-100000000 ≤ n ∧ n ≤ 100000000) (rangeL 0 n)
def range2 (a b : WP Int) : WP (List Int) := b2 a b fun x y => req (-100000000 ≤ x ∧ x ≤ 100000000 ∧ -100000000 ≤ y ∧ y ≤ 100000000) (rangeL x y)
def comp (c : α → WP Bool) (f : α → WP β) : List α → WP (List β)
  | [] => pure []
  | a :: as => (c a).bind fun b => cond b ((f a).bind fun y => (comp c f as).bind fun ys => pure (y :: ys)) (comp c f as)
end WP
/-! ### statements -/
section
variable {α β γ δ s ρ' : Type} {K : PySem.W.Frag} {e : Ef} {σ : L2.St} {W : Wo} {ta tb te tc tl : TE} {t u : TT} {i j k m n : Nat} {v : V} {D : Ends} {tu tw tz : TS} {ρ : Rs e α} {w : WP α} {R : Nat → β → Prop}
theorem st_asg {f : α → WP β} (h : EvW e te σ W ρ w) (g : Good e W) (hm : (w.bind f).run W.n R) (q : ∀ a v W1, Gw e W W1 → ρ.post W W1 a v → (f a).run W1.n R → D.nx (σ.set i (some v)) W1.H) : tAsg te (gName i) D σ W.H :=
  h W (Gw.refl g) _ (w.mono (fun n a r v W1 g1 hn p => q a v W1 g1 p (hn ▸ r)) hm)
theorem q_asg {f : α → WP β} (h : EvW e te σ W ρ w) (g : Good e W) (hm : (w.bind f).run W.n R) (q : ∀ a v W1, Gw e W W1 → ρ.post W W1 a v → (f a).run W1.n R → tz D (σ.set i (some v)) W1.H) : tSeq (tAsg te (gName i)) tz D σ W.H := st_asg (D := { D with nx := tz D }) h g hm q
/-- return e -/
theorem st_ret {f : α → WP β} (h : EvW e te σ W ρ w) (g : Good e W) (hm : (w.bind f).run W.n R) (q : ∀ a v W1, Gw e W W1 → ρ.post W W1 a v → (f a).run W1.n R → D.rt v W1.H) : tRet te D σ W.H :=
  h W (Gw.refl g) _ (w.mono (fun n a r v W1 g1 hn p => q a v W1 g1 p (hn ▸ r)) hm)
/-- a, b = e -/
theorem st_un2 [PyI α] [PyI γ] {w : WP (α × γ)} {f : α × γ → WP β} (h : EvW e te σ W sI w) (g : Good e W) (hm : (w.bind f).run W.n R) (q : ∀ c x y W1, Gw e W W1 → Rp W1 (Prod.fst c) x → Rp W1 (Prod.snd c) y → (f c).run W1.n R → D.nx ((σ.set i (some x)).set j (some y)) W1.H) :
    tAsg te (gTup K 2 (gCons (gName i) (gCons (gName j) gNil))) D σ W.H :=
  h W (Gw.refl g) _ (w.mono (fun n c r v W1 g1 hn ⟨p, x, y, h1, h2, h3, h4⟩ => ⟨p, [x, y], h1, SqT.of h2, rfl, x, [y], rfl, y, [], rfl, rfl, q c x y W1 g1 h3 h4 (hn ▸ r)⟩) hm)
theorem q_un2 [PyI α] [PyI γ] {w : WP (α × γ)} {f : α × γ → WP β} (h : EvW e te σ W sI w) (g : Good e W) (hm : (w.bind f).run W.n R) (q : ∀ c x y W1, Gw e W W1 → Rp W1 (Prod.fst c) x → Rp W1 (Prod.snd c) y → (f c).run W1.n R → tz D ((σ.set i (some x)).set j (some y)) W1.H) :
    tSeq (tAsg te (gTup K 2 (gCons (gName i) (gCons (gName j) gNil)))) tz D σ W.H := st_un2 (D := { D with nx := tz D }) h g hm q
/-- if, each branch its own model -/
theorem st_if {c : WP Bool} {A B : WP β} (h : EvT e t σ W c) (g : Good e W) (hm : (c.bind fun b => WP.cond b A B).run W.n R) (h1 : ∀ W1, Gw e W W1 → A.run W1.n R → tu D σ W1.H) (h2 : ∀ W1, Gw e W W1 → B.run W1.n R → tw D σ W1.H) : tIfS t tu tw D σ W.H :=
  h W (Gw.refl g) _ (c.mono (fun n b r W1 g1 hn => by
    subst hn
    cases b with
    | true => exact h1 W1 g1 r
    | false => exact h2 W1 g1 r) hm)
theorem q_if {c : WP Bool} {A B : WP β} (h : EvT e t σ W c) (g : Good e W) (hm : (c.bind fun b => WP.cond b A B).run W.n R) (h1 : ∀ W1, Gw e W W1 → A.run W1.n R → tu { D with nx := tz D } σ W1.H) (h2 : ∀ W1, Gw e W W1 → B.run W1.n R → tw { D with nx := tz D } σ W1.H) : tSeq (tIfS t tu tw) tz D σ W.H := st_if (D := { D with nx := tz D }) h g hm h1 h2
/-- if, the branches joined -/
theorem st_join {c : WP Bool} {A B : WP s} {f : s → WP β} (INV : s → L2.St → Wo → Prop) (h : EvT e t σ W c) (g : Good e W) (hm : ((c.bind fun b => WP.cond b A B).bind f).run W.n R) (after : ∀ y σ' W', INV y σ' W' → (f y).run W'.n R → D.nx σ' W'.H)
    (h1 : ∀ W1 R', Gw e W W1 → A.run W1.n R' → (∀ y σ' W', INV y σ' W' → R' W'.n y → D.nx σ' W'.H) → tu D σ W1.H) (h2 : ∀ W1 R', Gw e W W1 → B.run W1.n R' → (∀ y σ' W', INV y σ' W' → R' W'.n y → D.nx σ' W'.H) → tw D σ W1.H) : tIfS t tu tw D σ W.H :=
  h W (Gw.refl g) _ (c.mono (fun n b r W1 g1 hn => by
    subst hn
    cases b with
    | true => exact h1 W1 _ g1 r after
    | false => exact h2 W1 _ g1 r after) hm)
theorem q_join {c : WP Bool} {A B : WP s} {f : s → WP β} (INV : s → L2.St → Wo → Prop) (h : EvT e t σ W c) (g : Good e W) (hm : ((c.bind fun b => WP.cond b A B).bind f).run W.n R) (after : ∀ y σ' W', INV y σ' W' → (f y).run W'.n R → tz D σ' W'.H)
    (h1 : ∀ W1 R', Gw e W W1 → A.run W1.n R' → (∀ y σ' W', INV y σ' W' → R' W'.n y → tz D σ' W'.H) → tu { D with nx := tz D } σ W1.H) (h2 : ∀ W1 R', Gw e W W1 → B.run W1.n R' → (∀ y σ' W', INV y σ' W' → R' W'.n y → tz D σ' W'.H) → tw { D with nx := tz D } σ W1.H) : tSeq (tIfS t tu tw) tz D σ W.H :=
  st_join (D := { D with nx := tz D }) INV h g hm after h1 h2
theorem st_next (h : D.nx σ W.H) : tNext D σ W.H := h
/-! changes of what is our own -/
/-- the world behind a change of the object at l -/
def Wo.set (W : Wo) (l : Addr) (u : HO) : Wo := ⟨upd W.H l u, W.F, W.n⟩
/-- xs.append(e) -/
theorem st_app [PyI α] {W0 : Wo} {fp : List Addr} {xs : List α} {vx : V} {iv : Nat} {w : WP α} {f : List α → WP β} (g00 : Good e W0) (g0 : Gw e W0 W) (hv : σ[iv]? = some (some vx)) (ho : Var (kL α) W0 W fp xs vx) (h : EvW e te σ W sI w)
    (hm : ((w.bind fun a => WP.req (xs.length < 100000) (xs ++ [a])).bind f).run W.n R)
    (q : ∀ ys W1 W2 l, fp = [l] → Gw e W W1 → St W1 W2 → Gw e W0 W2 → (∀ fp' W9, Kp fp' W9 W1 → (∀ b ∈ fp', b ∉ fp) → Kp fp' W9 W2) → (∀ b, W2.F b → W1.F b) → Var (kL α) W0 W2 fp ys vx → (f ys).run W2.n R → D.nx σ W2.H) : tDrop (tBM K "list" rAppend (tVar iv) (tCons te tNil)) D σ W.H := by
  obtain ⟨⟨l, vs, h1, h2, h3, h4⟩, fr, nF⟩ := ho
  subst h1; subst h2
  have m0 : l ∈ [l] := List.mem_singleton.mpr rfl
  refine ⟨_, hv, .inl ⟨rfl, vs, SqL.of h3⟩, h W (Gw.refl g0.ok) _ (w.mono (fun n a r y W1 g1 hn p => ?_) hm)⟩
  subst hn
  have hl1 : W1.H l = some (.lst vs) := g1.keep _ _ h3 fun s => g00.S l s (fr l m0)
  have hF1 : ¬ W1.F l := fun f => (g1.new l f).elim (nF l m0) (some_ne h3)
  have s12 := St.mut (u := .lst (vs ++ [y])) hl1 (fun _ z => by cases z) hF1
  refine ⟨l, vs, y, rfl, rfl, hl1, by rw [← Paired.length h4]; exact sz_lt r.1, ?_⟩
  refine q (xs ++ [a]) W1 (W1.set l (.lst (vs ++ [y]))) l rfl g1 s12 (Gw.mut g00 (g0.trans g1) (fr l m0) hl1 (fun _ z => by cases z) hF1) (fun fp' W9 k d => k.upd fun b m z => d b m (by rw [z]; exact m0)) (fun _ f => f) ⟨⟨l, _, rfl, rfl, upd_same, ?_⟩, fr, fun b m => by cases List.mem_singleton.mp m; exact hF1⟩ r.2
  exact Paired.snoc (Rps.st (g1.st.trans s12) h4) (PyI.st s12 p)
theorem q_app [PyI α] {W0 : Wo} {fp : List Addr} {xs : List α} {vx : V} {iv : Nat} {w : WP α} {f : List α → WP β} (g00 : Good e W0) (g0 : Gw e W0 W) (hv : σ[iv]? = some (some vx)) (ho : Var (kL α) W0 W fp xs vx) (h : EvW e te σ W sI w)
    (hm : ((w.bind fun a => WP.req (xs.length < 100000) (xs ++ [a])).bind f).run W.n R)
    (q : ∀ ys W1 W2 l, fp = [l] → Gw e W W1 → St W1 W2 → Gw e W0 W2 → (∀ fp' W9, Kp fp' W9 W1 → (∀ b ∈ fp', b ∉ fp) → Kp fp' W9 W2) → (∀ b, W2.F b → W1.F b) → Var (kL α) W0 W2 fp ys vx → (f ys).run W2.n R → tz D σ W2.H) : tSeq (tDrop (tBM K "list" rAppend (tVar iv) (tCons te tNil))) tz D σ W.H :=
  st_app (D := { D with nx := tz D }) g00 g0 hv ho h hm q
/-- another thing of our own stays -/
theorem Var.kept {κ : Type} {kd : Kd κ} {W0 W1 W2 : Wo} {fp fq : List Addr} {x : κ} (h : Var kd W0 W1 fq x v) (s : St W1 W2) (k : ∀ fp' W9, Kp fp' W9 W1 → (∀ b ∈ fp', b ∉ fp) → Kp fp' W9 W2) (f : ∀ b, W2.F b → W1.F b) (d : ∀ b ∈ fq, b ∉ fp) : Var kd W0 W2 fq x v :=
  ⟨kd.st s (k fq W1 Kp.refl d) h.own, h.fr, fun a m z => h.nF a m (f a z)⟩
/-! loops -/
/-- the walk of a loop, by an invariant over the state that its model carries; abstract in how items come -/
theorem pv_loop {xs : List α} {body : α → s → WP (Ctl s γ)} {f : s → WP β} {r : γ → WP β} (INV : s → L2.St → Wo → Prop) {x0 : s} (h0 : INV x0 σ W) (hm : (WP.after (WP.loop body xs x0) f r).run W.n R)
    (hd : ∀ y σ' W', INV y σ' W' → (f y).run W'.n R → D.nx σ' W'.H) :
    ∃ Pv : Nat → L2.St → Hp → Prop, Pv 0 σ W.H ∧ (∀ i σ' H', Pv i σ' H' → ∃ y W', W'.H = H' ∧ INV y σ' W') ∧
      (∀ i σ' H' a, xs[i]? = some a → Pv i σ' H' → ∃ y W' R', W'.H = H' ∧ INV y σ' W' ∧ (body a y).run W'.n R' ∧ (∀ y' σ'' W'', INV y' σ'' W'' → R' W''.n (.nx y') → Pv (i + 1) σ'' W''.H) ∧ (∀ y' σ'' W'', INV y' σ'' W'' → R' W''.n (.bk y') → D.nx σ'' W''.H) ∧ (∀ n x, R' n (.rt x) → (r x).run n R)) ∧
      (∀ σ' H', Pv xs.length σ' H' → D.nx σ' H') := by
  refine ⟨fun i σ' H' => ∃ y W', W'.H = H' ∧ INV y σ' W' ∧ (WP.after (WP.loop body (xs.drop i) y) f r).run W'.n R, ⟨x0, W, rfl, h0, hm⟩, fun i σ' H' ⟨y, W', e1, p, _⟩ => ⟨y, W', e1, p⟩, fun i σ' H' a ha ⟨y, W', e1, p, q⟩ => ?_, fun σ' H' ⟨y, W', e1, p, q⟩ => ?_⟩
  · have hl : i < xs.length := (List.getElem?_eq_some_iff.mp ha).1
    have ed : xs.drop i = a :: xs.drop (i + 1) := by
      rw [List.drop_eq_getElem_cons hl, (List.getElem?_eq_some_iff.mp ha).2]
    rw [ed] at q
    exact ⟨y, W', _, e1, p, q, fun y' σ'' W'' p' q' => ⟨y', W'', rfl, p', q'⟩, fun y' σ'' W'' p' q' => hd y' σ'' W'' p' q', fun n x q' => q'⟩
  · rw [List.drop_length] at q
    subst e1
    exact hd y σ' W' p q
/-- a loop's target takes an item -/
def TkN {α : Type} [PyI α] (j : Nat) : α → Wo → L2.St → L2.St → Prop := fun a W σ s2 => ∃ x, s2 = σ.set j (some x) ∧ Rp W a x
def TkP {α β : Type} [PyI α] [PyI β] (j k : Nat) : α × β → Wo → L2.St → L2.St → Prop := fun a W σ s2 => ∃ x y, s2 = (σ.set j (some x)).set k (some y) ∧ Rp W a.1 x ∧ Rp W a.2 y
def Tk {α : Type} [PyI α] (g : TG) (T : α → Wo → L2.St → L2.St → Prop) : Prop := ∀ a x W' σ' Q, Rp W' a x → (∀ s2, T a W' σ' s2 → Q s2 W'.H) → g x σ' W'.H Q
theorem tk_N {α : Type} [PyI α] {j : Nat} : Tk (gName j) (TkN (α := α) j) := fun a x W' σ' Q r q => q _ ⟨x, rfl, r⟩
theorem tk_P {α β : Type} [PyI α] [PyI β] {K : PySem.W.Frag} {j k : Nat} : Tk (gTup K 2 (gCons (gName j) (gCons (gName k) gNil))) (TkP (α := α) (β := β) j k) := fun a x W' σ' Q ⟨p, x1, x2, h1, h2, h3, h4⟩ q =>
  ⟨p, [x1, x2], h1, SqT.of h2, rfl, x1, [x2], rfl, x2, [], rfl, rfl, q _ ⟨x1, x2, rfl, h3, h4⟩⟩
abbrev Turn {α β γ s : Type} (INV : s → L2.St → Wo → Prop) (body : α → s → WP (Ctl s γ)) (r : γ → WP β) (R : Nat → β → Prop) (D : Ends) (tu : TS) (T : α → Wo → L2.St → L2.St → Prop) : Prop :=
  ∀ a y σ' s2 W' R' (nx : L2.St → Hp → Prop), T a W' σ' s2 → INV y σ' W' → (body a y).run W'.n R' → (∀ y' σ'' W'', INV y' σ'' W'' → R' W''.n (.nx y') → nx σ'' W''.H) → (∀ y' σ'' W'', INV y' σ'' W'' → R' W''.n (.bk y') → D.nx σ'' W''.H) → (∀ n x, R' n (.rt x) → (r x).run n R) →
    tu { D with nx := nx, ct := nx, bk := D.nx } s2 W'.H
/-- over a list that is there already -/
theorem st_forV [PyI α] {g : TG} {T : α → Wo → L2.St → L2.St → Prop} (ht : Tk g T) {xs : List α} {body : α → s → WP (Ctl s γ)} {f : s → WP β} {r : γ → WP β} {x0 : s} {p : Addr} {vs : List V} (hv : σ[i]? = some (some (.ref p))) (hp : W.H p = some (.lst vs)) (hr : Rps W xs vs) (hm : (WP.after (WP.loop body xs x0) f r).run W.n R)
    (INV : s → L2.St → Wo → Prop) (h0 : INV x0 σ W) (keep : ∀ y σ' W', INV y σ' W' → St W W' ∧ W'.H p = some (.lst vs)) (step : Turn INV body r R D tu T) (hd : ∀ y σ' W', INV y σ' W' → (f y).run W'.n R → D.nx σ' W'.H) : tFor (iList K (tVar i)) g tu D σ W.H := by
  obtain ⟨Pv, p0, pk, ps, pd⟩ := pv_loop INV h0 hm hd
  refine ⟨_, hv, p, rfl, ⟨vs, SqL.of hp⟩, for_list (xs := vs) Pv p0 (fun i σ' H' _ q => ?_) (fun i x σ' H' hi q => ?_) (by rw [← Paired.length hr]; exact pd)⟩
  · obtain ⟨y, W', e1, q'⟩ := pk i σ' H' q
    subst e1
    exact SqL.of (keep y σ' W' q').2
  · obtain ⟨a, ha, ra⟩ := hr.getV hi
    obtain ⟨y, W', R', e1, q1, q2, q3, q4, q5⟩ := ps i σ' H' a ha q
    subst e1
    exact ht a x W' σ' _ (PyI.st (keep y σ' W' q1).1 ra) fun s2 h2 => step a y σ' s2 W' R' _ h2 q1 q2 q3 q4 q5
/-- over a new list -/
theorem st_forN [PyI α] {gt : TG} {T : α → Wo → L2.St → L2.St → Prop} (ht : Tk gt T) {w : WP (List α)} {body : α → s → WP (Ctl s γ)} {f : s → WP β} {r : γ → WP β} {x0 : s} (h : EvW e tl σ W (sN (kL α)) w) (g : Good e W) (hm : (w.bind fun xs => WP.after (WP.loop body xs x0) f r).run W.n R)
    (q : ∀ (xs : List α) p vs W1, Gw e W W1 → W.H p = none → ¬ W1.F p → W1.H p = some (.lst vs) → Rps W1 xs vs → ∃ INV : s → L2.St → Wo → Prop, INV x0 σ W1 ∧ (∀ y σ' W', INV y σ' W' → St W1 W' ∧ W'.H p = some (.lst vs)) ∧ Turn INV body r R D tu T ∧ ∀ y σ' W', INV y σ' W' → (f y).run W'.n R → D.nx σ' W'.H) : tFor (iList K tl) gt tu D σ W.H :=
  h W (Gw.refl g) _ (w.mono (fun n xs hm v W1 g1 hn ⟨fp, ⟨p, vs, e1, e2, hp, hr⟩, hf⟩ => by
    subst hn; subst e1; subst e2
    have hm0 := hf p (List.mem_singleton.mpr rfl)
    obtain ⟨INV, h0, keep, step, hd⟩ := q xs p vs W1 g1 hm0.1 hm0.2.2 hp hr
    obtain ⟨Pv, p0, pk, ps, pd⟩ := pv_loop (D := D) INV h0 hm hd
    refine ⟨p, rfl, ⟨vs, SqL.of hp⟩, for_list (xs := vs) Pv p0 (fun i σ' H' _ q => ?_) (fun i x σ' H' hi q => ?_) (by rw [← Paired.length hr]; exact pd)⟩
    · obtain ⟨y, W', e1, q'⟩ := pk i σ' H' q
      subst e1
      exact SqL.of (keep y σ' W' q').2
    · obtain ⟨a, ha, ra⟩ := hr.getV hi
      obtain ⟨y, W', R', e1, q1, q2, q3, q4, q5⟩ := ps i σ' H' a ha q
      subst e1
      exact ht a x W' σ' _ (PyI.st (keep y σ' W' q1).1 ra) fun s2 h2 => step a y σ' s2 W' R' _ h2 q1 q2 q3 q4 q5) hm)
theorem st_forR1 {w : WP Int} {body : Int → s → WP (Ctl s γ)} {f : s → WP β} {r : γ → WP β} {x0 : s} (h : EvW e te σ W sI w) (g : Good e W) (hm : ((WP.range1 w).bind fun xs => WP.after (WP.loop body xs x0) f r).run W.n R)
    (q : ∀ W1, Gw e W W1 → ∃ INV : s → L2.St → Wo → Prop, INV x0 σ W1 ∧ Turn INV body r R D tu (TkN j) ∧ ∀ y σ' W', INV y σ' W' → (f y).run W'.n R → D.nx σ' W'.H) : tFor (iRng1 (tCons te tNil)) (gName j) tu D σ W.H :=
  h W (Gw.refl g) _ (w.mono (fun n k hm v W1 g1 hn r => by
    subst hn; cases r
    obtain ⟨INV, h0, step, hd⟩ := q W1 g1
    obtain ⟨⟨b1, b2⟩, hm⟩ := hm
    obtain ⟨Pv, p0, pk, ps, pd⟩ := pv_loop (D := D) INV h0 hm hd
    have el : (rangeL 0 k).length = k.toNat := by rw [rangeL_len, Int.sub_zero]
    refine ⟨k, rfl, by omega, by omega, for_range (lo := 0) (n := k.toNat) Pv p0 (fun i σ' H' hi q => ?_) (by rw [← el]; exact pd)⟩
    obtain ⟨y, W', R', e1, q1, q2, q3, q4, q5⟩ := ps i σ' H' _ (rangeL_get (by rw [Int.sub_zero]; exact hi)) q
    subst e1
    exact step _ y σ' _ W' R' _ ⟨_, rfl, rfl⟩ q1 q2 q3 q4 q5) hm)
end
end Y

/-! comprehensions -/
namespace Y
open PySem PySem.Spec PyProof.Rows L2
/-- what a comprehension's target leaves -/
def TgN {α : Type} [PyI α] (σ : L2.St) (vs0 : List Nat) (j : Nat) : α → Wo → L2.St → Prop := fun a W s2 => ∃ x, s2 = (wipe σ vs0).set j (some x) ∧ Rp W a x
def TgP {α β : Type} [PyI α] [PyI β] (σ : L2.St) (vs0 : List Nat) (j k : Nat) : α × β → Wo → L2.St → Prop := fun a W s2 => ∃ x y, s2 = ((wipe σ vs0).set j (some x)).set k (some y) ∧ Rp W a.1 x ∧ Rp W a.2 y
section
variable {α β γ : Type} {K : PySem.W.Frag} {e : Ef} {σ : L2.St} {W W2 : Wo} {ta tb te tc tl : TE} {t u : TT} {i j k m n : Nat} {v : V} {g : TG} {vs0 : List Nat}
/-- the target takes an item -/
def Takes (val : Wo → α → V → Prop) (g : TG) (σ : L2.St) (vs0 : List Nat) (T : α → Wo → L2.St → Prop) : Prop := ∀ a x W' Q, val W' a x → (∀ s2, T a W' s2 → Q s2 W'.H) → g x (wipe σ vs0) W'.H Q
theorem takes_N [PyI α] : Takes (fun W a x => Rp W a x) (gName j) σ vs0 (TgN (α := α) σ vs0 j) := fun a x W' Q r q => q _ ⟨x, rfl, r⟩
theorem takes_P [PyI α] [PyI β] : Takes (fun W a x => Rp W a x) (gTup K 2 (gCons (gName j) (gCons (gName k) gNil))) σ vs0 (TgP (α := α) (β := β) σ vs0 j k) := fun a x W' Q ⟨p, x1, x2, h1, h2, h3, h4⟩ q =>
  ⟨p, [x1, x2], h1, SqT.of h2, rfl, x1, [x2], rfl, x2, [], rfl, rfl, q _ ⟨x1, x2, rfl, h3, h4⟩⟩
theorem pv_comp {val : Wo → α → V → Prop} [PyI β] {Dl : Addr} {xs : List α} {T : α → Wo → L2.St → Prop} {c : α → WP Bool} {f : α → WP β} {Qd : Hp → Prop} {QQ : Nat → List β → Prop} (hg : Good e W2) (hD : W2.H Dl = none) (hz : xs.length ≤ 100000)
    (ht : Takes val g σ vs0 T) (hw : ∀ a W' s2, T a W' s2 → wipe s2 vs0 = wipe σ vs0) (hc : ∀ a W1 s2, Gw e W2 W1 → T a W1 s2 → EvT e t s2 W1 (c a)) (he : ∀ a W1 s2, Gw e W2 W1 → T a W1 s2 → EvW e te s2 W1 sI (f a))
    (hm : (WP.comp c f xs).run W2.n QQ) (hend : ∀ W' ys vs', Gw e W2 W' → W'.H Dl = some (.lst vs') → ¬ W'.F Dl → Rps W' ys vs' → QQ W'.n ys → Qd W'.H) :
    ∃ Pv : Nat → Hp → Prop, Pv 0 (upd W2.H Dl (.lst [])) ∧ (∀ i H, Pv i H → ∃ W', W'.H = H ∧ Gw e W2 W') ∧
      (∀ i x H a, xs[i]? = some a → (∀ W', Gw e W2 W' → val W' a x) → Pv i H → g x (wipe σ vs0) H fun σ2 H2 => wipe σ2 vs0 = wipe σ vs0 ∧ t σ2 H2 fun b H3 =>
        if b = true then te σ2 H3 fun y H4 => ∃ acc, H4 Dl = some (.lst acc) ∧ acc.length < sizeLine ∧ Pv (i + 1) (upd H4 Dl (.lst (acc ++ [y]))) else Pv (i + 1) H3) ∧ (∀ H, Pv xs.length H → Qd H) := by
  have nS : ¬ e.S Dl := fun s => hg.S Dl s hD
  refine ⟨fun i H => ∃ W' ys vs', W'.H = H ∧ Gw e W2 W' ∧ W'.H Dl = some (.lst vs') ∧ ¬ W'.F Dl ∧ Rps W' ys vs' ∧ ys.length ≤ i ∧ (WP.comp c f (xs.drop i)).run W'.n (fun n zs => QQ n (ys ++ zs)),
    ⟨_, [], [], rfl, Gw.alloc hg hD, upd_same, fun z => (hg.F Dl z).2 hD, .nil, Nat.le_refl _, by rw [List.drop_zero]; exact hm⟩, fun i H ⟨W', ys, vs', e1, q, _⟩ => ⟨W', e1, q⟩, fun i x H a ha hv ⟨W', ys, vs', e1, gw, hl, hF, hr, hlen, q⟩ => ?_, fun H ⟨W', ys, vs', e1, gw, hl, hF, hr, hlen, q⟩ => ?_⟩
  · subst e1
    have hil : i < xs.length := (List.getElem?_eq_some_iff.mp ha).1
    have ed : xs.drop i = a :: xs.drop (i + 1) := by rw [List.drop_eq_getElem_cons hil, (List.getElem?_eq_some_iff.mp ha).2]
    rw [ed] at q
    refine ht a x W' _ (hv W' gw) fun s2 hs2 => ⟨hw a W' s2 hs2, ?_⟩
    refine hc a W' s2 gw hs2 W' (Gw.refl gw.ok) _ ((c a).mono (fun n b hq W3 g3 hn => ?_) q)
    subst hn
    have hl3 := g3.keep _ _ hl nS
    have hF3 : ¬ W3.F Dl := fun z => (g3.new Dl z).elim hF (some_ne hl)
    cases b with
    | true =>
      refine he a W' s2 gw hs2 W3 g3 _ ((f a).mono (fun n y hq v W4 g4 hn r => ?_) hq)
      subst hn
      have hl4 := g4.keep _ _ hl3 nS
      have hF4 : ¬ W4.F Dl := fun z => (g4.new Dl z).elim hF3 (some_ne hl3)
      have s45 := St.mut (u := .lst (vs' ++ [v])) hl4 (fun _ z => by cases z) hF4
      refine ⟨vs', hl4, by rw [← Paired.length hr]; exact sz_lt (by omega), W4.set Dl (.lst (vs' ++ [v])), ys ++ [y], vs' ++ [v], rfl, Gw.mut hg ((gw.trans g3).trans g4) hD hl4 (fun _ z => by cases z) hF4, upd_same, hF4, Paired.snoc (Rps.st ((g3.st.trans g4.st).trans s45) hr) (PyI.st s45 r), by rw [List.length_append, List.length_singleton]; omega, ?_⟩
      exact (WP.comp c f _).mono (fun n zs hq => by rw [List.append_assoc]; exact hq) hq
    | false => exact ⟨W3, ys, vs', rfl, gw.trans g3, hl3, hF3, Rps.st g3.st hr, by omega, hq⟩
  · subst e1
    rw [List.drop_length] at q
    have q : QQ W'.n (ys ++ []) := q
    rw [List.append_nil] at q
    exact hend W' ys vs' gw hl hF hr q
namespace WP
abbrev lc (w : WP (List α)) (c : α → WP Bool) (f : α → WP β) : WP (List β) := w.bind fun xs => (req (xs.length ≤ 100000) xs).bind fun xs => comp c f xs
end WP
theorem et_yes : EvT e tYes σ W (WP.pure true) := fun W1 g Q q => q W1 (Gw.refl g.ok) rfl
/-- over a list -/
theorem ew_lcL [PyI α] [PyI β] {w : WP (List α)} {T : α → Wo → L2.St → Prop} {c : α → WP Bool} {f : α → WP β} (h : EvW e tl σ W (sR (kL α)) w) (ht : Takes (fun W a x => Rp W a x) g σ vs0 T) (hw : ∀ a W' s2, T a W' s2 → wipe s2 vs0 = wipe σ vs0)
    (hc : ∀ a W1 s2, Gw e W W1 → T a W1 s2 → EvT e t s2 W1 (c a)) (he : ∀ a W1 s2, Gw e W W1 → T a W1 s2 → EvW e te s2 W1 sI (f a)) : EvW e (tLc (iList K tl) g t te vs0) σ W (sN (kL β)) (WP.lc w c f) := fun W1 g1 Q q =>
  h W1 g1 _ (w.mono (fun n xs hq v W2 g2 hn ⟨fp, ⟨p, vs, e1, e2, hp, hr⟩, hS⟩ => by
    subst hn; subst e1; subst e2
    refine ⟨p, rfl, ⟨vs, SqL.of hp⟩, fun Dl hD => ?_⟩
    have hSp := hS p (List.mem_singleton.mpr rfl)
    obtain ⟨Pv, p0, pk, ps, pd⟩ := pv_comp (val := fun W a x => Rp W a x) (T := T) (t := t) (te := te) (g := g) (σ := σ) (vs0 := vs0) (Qd := fun H => Q (.ref Dl) H) g2.ok hD hq.1 ht hw (fun a W3 s2 g3 => hc a W3 s2 ((g1.trans g2).trans g3)) (fun a W3 s2 g3 => he a W3 s2 ((g1.trans g2).trans g3)) hq.2 fun W' ys vs' gw hl hF hr' hqq => hqq _ W' (g2.trans gw) rfl ⟨[Dl], ⟨Dl, vs', rfl, rfl, hl, hr'⟩, fun b mb => by
      cases List.mem_singleton.mp mb
      exact ⟨g2.live _ hD, fun s => g2.ok.S _ s hD, hF⟩⟩
    exact lc_list (xs := vs) Pv p0 (fun i H _ pp => by
      obtain ⟨W', e1, gw⟩ := pk i H pp
      subst e1
      exact SqL.of (gw.keep _ _ hp hSp)) (fun i x H hi pp => by
      obtain ⟨a, ha, ra⟩ := hr.getV hi
      exact ps i x H a ha (fun W' gw => PyI.st gw.st ra) pp) (by rw [← Paired.length hr]; exact pd)) q)
end
end Y

/-! deals -/
namespace Y
open PySem PySem.Spec PyProof.Rows L2
structure Dl where
  p : Addr
  l1 : Addr
  l2 : Addr
  row : List Int
  tot : Int
structure Dl.At (d : Dl) (H : Hp) (n : Nat) : Prop where
  p : H d.p = some (.lst [.ref d.l1, .ref d.l2, .int d.tot])
  l1 : H d.l1 = some (.lst (d.row.map V.int))
  n : H d.l2 = some (.lst [.int (n : Int)])
  np : d.p ≠ d.l2
  n1 : d.l1 ≠ d.l2
def efD (d : Dl) : Ef where
  S := fun a => a = d.l2
  T := fun a => a = d.p ∨ a = d.l1 ∨ a = d.l2
  ok := d.At
  num := fun a b => a ≤ b
  num_refl := fun _ => Nat.le_refl _
  num_trans := fun a b => Nat.le_trans a b
  ok_T := fun h k => ⟨k _ _ (.inl rfl) h.p, k _ _ (.inr (.inl rfl)) h.l1, k _ _ (.inr (.inr rfl)) h.n, h.np, h.n1⟩
  ok_live := fun h t => by
    rcases t with t | t | t
    · subst t; exact some_ne h.p
    · subst t; exact some_ne h.l1
    · subst t; exact some_ne h.n
/-- the deal itself as an argument -/
def sD {e : Ef} (d : Dl) : Rs e Unit := ⟨fun _ _ _ v => v = .ref d.p, fun _ h => h, fun _ h => h⟩
section
variable {α β γ δ : Type} {K : PySem.W.Frag} {e : Ef} {d : Dl} {σ : L2.St} {W : Wo} {ta tb te tc t0 t1 : TE} {t u : TT} {i j k m n : Nat} {v : V} {E : XK}
theorem ew_deal {i : Nat} (h : σ[i]? = some (some (.ref d.p))) : EvW e (tVar i) σ W (sD d) (WP.pure ()) := fun W1 g Q q => ⟨_, h, q _ W1 (Gw.refl g.ok) rfl rfl⟩
def sp_take : Sp := fun vs H Q _ => ∃ (d : Dl) (W : Wo) (many : Int), vs = [.ref d.p, .int many] ∧ W.H = H ∧ Good (efD d) W ∧ (WP.take many).run W.n (fun n x => ∀ v W', Gw (efD d) W W' → W'.n = n → v = .int x → Q v W'.H)
/-- a draw -/
abbrev m_take (_ : Unit) (x : Int) : WP Int := WP.take x
theorem ev_take {w0 : WP Unit} {w : WP Int} (h0 : EvW (efD d) t0 σ W (sD d) w0) (h1 : EvW (efD d) t1 σ W sI w) : EvW (efD d) (tCall sp_take [] E (tCons t0 (tCons t1 tNil))) σ W sI (WP.b2 w0 w m_take) :=
  ew_call2 h0 h1 fun W2 a b x y g2 r1 r2 Q q E => by
    cases r1; cases r2
    exact ⟨d, W2, b, rfl, rfl, g2, (WP.take b).mono (fun n x h v W' g' hn r => h v W' g' hn r) q⟩
/-- the world behind a draw -/
theorem drawn {d : Dl} {W : Wo} (g : Good (efD d) W) : Gw (efD d) W ⟨upd W.H d.l2 (.lst [.int ((W.n : Int) + 1)]), W.F, W.n + 1⟩ := by
  have hn := g.ok.n
  have keep : ∀ a o, W.H a = some o → a ≠ d.l2 → (upd W.H d.l2 (.lst [.int ((W.n : Int) + 1)])) a = some o := fun a o h n => by rw [upd_ne n]; exact h
  have live : ∀ a, W.H a ≠ none → (upd W.H d.l2 (.lst [.int ((W.n : Int) + 1)])) a ≠ none := fun a h => by
    by_cases e1 : a = d.l2
    · subst e1; rw [upd_same]; exact fun z => by cases z
    · rw [upd_ne e1]; exact h
  refine ⟨keep, ⟨fun a xs h => keep a _ h (fun z => by rw [z, hn] at h; cases h), fun _ h => h, fun a o f h => keep a o h (g.F a f).1⟩, fun _ f => .inl f, fun a h => ?_, Nat.le_succ _, ⟨fun a f => ⟨(g.F a f).1, live a (g.F a f).2⟩, fun a s => live a (g.S a s), ⟨keep _ _ g.ok.p g.ok.np, keep _ _ g.ok.l1 g.ok.n1, ?_, g.ok.np, g.ok.n1⟩⟩⟩
  · cases q : W.H a with
    | none => rfl
    | some o => exact absurd h (live a (some_ne q))
  · show (upd W.H d.l2 _) d.l2 = _
    rw [upd_same]; rfl
end
/-! ### dicts, their keys squares -/
abbrev Sq := Int × Int
def kSq (q : Sq) : List Key := [.inl q.1, .inl q.2]
section
variable {β : Type}
def lookK (kvs : List (Sq × β)) (q : Sq) : Option β := (kvs.find? fun p => decide (p.1 = q)).map (·.2)
def hasK (kvs : List (Sq × β)) (q : Sq) : Bool := (lookK kvs q).isSome
def putQ (kvs : List (Sq × β)) (q : Sq) (b : β) : List (Sq × β) := if hasK kvs q then kvs.map (fun p => if p.1 = q then (p.1, b) else p) else kvs ++ [(q, b)]
end
def Kv {β : Type} [PyI β] (W : Wo) (kv : Sq × β) (k : List Key × V) : Prop := k.1 = kSq kv.1 ∧ Rp W kv.2 k.2
theorem Rd.kp {H H' : Hp} {p : Addr} {u : HO} (c : ∀ o, H p = some o → H' p = some o) (h : Rd H p u) : Rd H' p u := h.elim (fun h => .inl (c _ h)) fun ⟨o, h⟩ => .inr ⟨o, c _ h⟩
theorem DGet.r {H : Hp} {a b : Addr} {kvs : List (List Key × V)} {k : List Key} (e : Rd H a (.dT kvs)) (eb : H b = some (.tup (k.map kV))) : DGet H a (.ref b) (valV kvs k) := .inr ⟨kvs, k, b, e, rfl, eb, rfl⟩
section
variable {α β γ δ : Type} [PyI β] {K : PySem.W.Frag} {e : Ef} {σ : L2.St} {W : Wo} {ta tb te tc td ty tx tk tv : TE} {t u : TT} {i j k m n : Nat} {v : V} {D : Ends} {tz : TS} {R : Nat → γ → Prop}
namespace WP
end WP
end
end Y

namespace Y
open PySem PySem.Spec PyProof.Rows L2
namespace WP
abbrev b4 {α0 α1 α2 α3 γ : Type} (w0 : WP α0) (w1 : WP α1) (w2 : WP α2) (w3 : WP α3) (m : α0 → α1 → α2 → α3 → WP γ) : WP γ := w0.bind fun y0 => w1.bind fun y1 => w2.bind fun y2 => w3.bind fun y3 => m y0 y1 y2 y3
abbrev b5 {α0 α1 α2 α3 α4 γ : Type} (w0 : WP α0) (w1 : WP α1) (w2 : WP α2) (w3 : WP α3) (w4 : WP α4) (m : α0 → α1 → α2 → α3 → α4 → WP γ) : WP γ := w0.bind fun y0 => w1.bind fun y1 => w2.bind fun y2 => w3.bind fun y3 => w4.bind fun y4 => m y0 y1 y2 y3 y4
abbrev b6 {α0 α1 α2 α3 α4 α5 γ : Type} (w0 : WP α0) (w1 : WP α1) (w2 : WP α2) (w3 : WP α3) (w4 : WP α4) (w5 : WP α5) (m : α0 → α1 → α2 → α3 → α4 → α5 → WP γ) : WP γ := w0.bind fun y0 => w1.bind fun y1 => w2.bind fun y2 => w3.bind fun y3 => w4.bind fun y4 => w5.bind fun y5 => m y0 y1 y2 y3 y4 y5
abbrev b7 {α0 α1 α2 α3 α4 α5 α6 γ : Type} (w0 : WP α0) (w1 : WP α1) (w2 : WP α2) (w3 : WP α3) (w4 : WP α4) (w5 : WP α5) (w6 : WP α6) (m : α0 → α1 → α2 → α3 → α4 → α5 → α6 → WP γ) : WP γ := w0.bind fun y0 => w1.bind fun y1 => w2.bind fun y2 => w3.bind fun y3 => w4.bind fun y4 => w5.bind fun y5 => w6.bind fun y6 => m y0 y1 y2 y3 y4 y5 y6
abbrev b1 {α γ : Type} (w : WP α) (m : α → WP γ) : WP γ := w.bind m
end WP
theorem ew_call1N {α0 γ : Type} {e : Ef} {σ : L2.St} {W : Wo} {t0 : TE} {sp : Sp} {E : XK} {ρ0 : Rs e α0} {ρ : Rs e γ} {w0 : WP α0} {m : α0 → WP γ} (h0 : EvW e t0 σ W ρ0 w0)
    (hm : ∀ W2 a0 x0, Good e W2 → ρ0.post W2 W2 a0 x0 → ∀ Q : VK, (m a0).run W2.n (fun n b => ∀ v W3, Gw e W2 W3 → W3.n = n → ρ.post W2 W3 b v → Q v W3.H) → ∀ E, sp [x0] W2.H Q E)
    (n0 : ∀ {W1 W2 a x}, ρ0.post W1 W2 a x → ρ0.post W2 W2 a x := by intros; assumption)
    : EvW e (tCall sp [] E (tCons t0 tNil)) σ W ρ (WP.b1 w0 m) := fun W1 g Q q => by
  refine h0 W1 g _ (w0.mono (fun n a0 q x0 V0 g0 hn r0 => ?_) q)
  subst hn
  have gg1 := g0
  exact hm V0 a0 x0 gg1.ok (n0 r0) Q ((m a0).mono (fun n b h v W5 g5 hn r5 => h v W5 (gg1.trans g5) hn (ρ.back gg1 r5)) q) E
theorem ew_call2N {α0 α1 γ : Type} {e : Ef} {σ : L2.St} {W : Wo} {t0 t1 : TE} {sp : Sp} {E : XK} {ρ0 : Rs e α0} {ρ1 : Rs e α1} {ρ : Rs e γ} {w0 : WP α0} {w1 : WP α1} {m : α0 → α1 → WP γ} (h0 : EvW e t0 σ W ρ0 w0) (h1 : EvW e t1 σ W ρ1 w1)
    (hm : ∀ W2 a0 a1 x0 x1, Good e W2 → ρ0.post W2 W2 a0 x0 → ρ1.post W2 W2 a1 x1 → ∀ Q : VK, (m a0 a1).run W2.n (fun n b => ∀ v W3, Gw e W2 W3 → W3.n = n → ρ.post W2 W3 b v → Q v W3.H) → ∀ E, sp [x0, x1] W2.H Q E)
    (n0 : ∀ {W1 W2 a x}, ρ0.post W1 W2 a x → ρ0.post W2 W2 a x := by intros; assumption) (n1 : ∀ {W1 W2 a x}, ρ1.post W1 W2 a x → ρ1.post W2 W2 a x := by intros; assumption)
    : EvW e (tCall sp [] E (tCons t0 (tCons t1 tNil))) σ W ρ (WP.b2 w0 w1 m) := fun W1 g Q q => by
  refine h0 W1 g _ (w0.mono (fun n a0 q x0 V0 g0 hn r0 => ?_) q)
  subst hn
  have gg1 := g0
  refine h1 V0 (g.trans gg1) _ (w1.mono (fun n a1 q x1 V1 g1 hn r1 => ?_) q)
  subst hn
  have gg2 := gg1.trans g1
  have r0 := ρ0.stay g1 r0
  exact hm V1 a0 a1 x0 x1 gg2.ok (n0 r0) (n1 r1) Q ((m a0 a1).mono (fun n b h v W5 g5 hn r5 => h v W5 (gg2.trans g5) hn (ρ.back gg2 r5)) q) E
theorem ew_call3N {α0 α1 α2 γ : Type} {e : Ef} {σ : L2.St} {W : Wo} {t0 t1 t2 : TE} {sp : Sp} {E : XK} {ρ0 : Rs e α0} {ρ1 : Rs e α1} {ρ2 : Rs e α2} {ρ : Rs e γ} {w0 : WP α0} {w1 : WP α1} {w2 : WP α2} {m : α0 → α1 → α2 → WP γ} (h0 : EvW e t0 σ W ρ0 w0) (h1 : EvW e t1 σ W ρ1 w1) (h2 : EvW e t2 σ W ρ2 w2)
    (hm : ∀ W2 a0 a1 a2 x0 x1 x2, Good e W2 → ρ0.post W2 W2 a0 x0 → ρ1.post W2 W2 a1 x1 → ρ2.post W2 W2 a2 x2 → ∀ Q : VK, (m a0 a1 a2).run W2.n (fun n b => ∀ v W3, Gw e W2 W3 → W3.n = n → ρ.post W2 W3 b v → Q v W3.H) → ∀ E, sp [x0, x1, x2] W2.H Q E)
    (n0 : ∀ {W1 W2 a x}, ρ0.post W1 W2 a x → ρ0.post W2 W2 a x := by intros; assumption) (n1 : ∀ {W1 W2 a x}, ρ1.post W1 W2 a x → ρ1.post W2 W2 a x := by intros; assumption) (n2 : ∀ {W1 W2 a x}, ρ2.post W1 W2 a x → ρ2.post W2 W2 a x := by intros; assumption)
    : EvW e (tCall sp [] E (tCons t0 (tCons t1 (tCons t2 tNil)))) σ W ρ (WP.b3 w0 w1 w2 m) := fun W1 g Q q => by
  refine h0 W1 g _ (w0.mono (fun n a0 q x0 V0 g0 hn r0 => ?_) q)
  subst hn
  have gg1 := g0
  refine h1 V0 (g.trans gg1) _ (w1.mono (fun n a1 q x1 V1 g1 hn r1 => ?_) q)
  subst hn
  have gg2 := gg1.trans g1
  have r0 := ρ0.stay g1 r0
  refine h2 V1 (g.trans gg2) _ (w2.mono (fun n a2 q x2 V2 g2 hn r2 => ?_) q)
  subst hn
  have gg3 := gg2.trans g2
  have r0 := ρ0.stay g2 r0
  have r1 := ρ1.stay g2 r1
  exact hm V2 a0 a1 a2 x0 x1 x2 gg3.ok (n0 r0) (n1 r1) (n2 r2) Q ((m a0 a1 a2).mono (fun n b h v W5 g5 hn r5 => h v W5 (gg3.trans g5) hn (ρ.back gg3 r5)) q) E
theorem ew_call4N {α0 α1 α2 α3 γ : Type} {e : Ef} {σ : L2.St} {W : Wo} {t0 t1 t2 t3 : TE} {sp : Sp} {E : XK} {ρ0 : Rs e α0} {ρ1 : Rs e α1} {ρ2 : Rs e α2} {ρ3 : Rs e α3} {ρ : Rs e γ} {w0 : WP α0} {w1 : WP α1} {w2 : WP α2} {w3 : WP α3} {m : α0 → α1 → α2 → α3 → WP γ} (h0 : EvW e t0 σ W ρ0 w0) (h1 : EvW e t1 σ W ρ1 w1) (h2 : EvW e t2 σ W ρ2 w2) (h3 : EvW e t3 σ W ρ3 w3)
    (hm : ∀ W2 a0 a1 a2 a3 x0 x1 x2 x3, Good e W2 → ρ0.post W2 W2 a0 x0 → ρ1.post W2 W2 a1 x1 → ρ2.post W2 W2 a2 x2 → ρ3.post W2 W2 a3 x3 → ∀ Q : VK, (m a0 a1 a2 a3).run W2.n (fun n b => ∀ v W3, Gw e W2 W3 → W3.n = n → ρ.post W2 W3 b v → Q v W3.H) → ∀ E, sp [x0, x1, x2, x3] W2.H Q E)
    (n0 : ∀ {W1 W2 a x}, ρ0.post W1 W2 a x → ρ0.post W2 W2 a x := by intros; assumption) (n1 : ∀ {W1 W2 a x}, ρ1.post W1 W2 a x → ρ1.post W2 W2 a x := by intros; assumption) (n2 : ∀ {W1 W2 a x}, ρ2.post W1 W2 a x → ρ2.post W2 W2 a x := by intros; assumption) (n3 : ∀ {W1 W2 a x}, ρ3.post W1 W2 a x → ρ3.post W2 W2 a x := by intros; assumption)
    : EvW e (tCall sp [] E (tCons t0 (tCons t1 (tCons t2 (tCons t3 tNil))))) σ W ρ (WP.b4 w0 w1 w2 w3 m) := fun W1 g Q q => by
  refine h0 W1 g _ (w0.mono (fun n a0 q x0 V0 g0 hn r0 => ?_) q)
  subst hn
  have gg1 := g0
  refine h1 V0 (g.trans gg1) _ (w1.mono (fun n a1 q x1 V1 g1 hn r1 => ?_) q)
  subst hn
  have gg2 := gg1.trans g1
  have r0 := ρ0.stay g1 r0
  refine h2 V1 (g.trans gg2) _ (w2.mono (fun n a2 q x2 V2 g2 hn r2 => ?_) q)
  subst hn
  have gg3 := gg2.trans g2
  have r0 := ρ0.stay g2 r0
  have r1 := ρ1.stay g2 r1
  refine h3 V2 (g.trans gg3) _ (w3.mono (fun n a3 q x3 V3 g3 hn r3 => ?_) q)
  subst hn
  have gg4 := gg3.trans g3
  have r0 := ρ0.stay g3 r0
  have r1 := ρ1.stay g3 r1
  have r2 := ρ2.stay g3 r2
  exact hm V3 a0 a1 a2 a3 x0 x1 x2 x3 gg4.ok (n0 r0) (n1 r1) (n2 r2) (n3 r3) Q ((m a0 a1 a2 a3).mono (fun n b h v W5 g5 hn r5 => h v W5 (gg4.trans g5) hn (ρ.back gg4 r5)) q) E
theorem ew_call6N {α0 α1 α2 α3 α4 α5 γ : Type} {e : Ef} {σ : L2.St} {W : Wo} {t0 t1 t2 t3 t4 t5 : TE} {sp : Sp} {E : XK} {ρ0 : Rs e α0} {ρ1 : Rs e α1} {ρ2 : Rs e α2} {ρ3 : Rs e α3} {ρ4 : Rs e α4} {ρ5 : Rs e α5} {ρ : Rs e γ} {w0 : WP α0} {w1 : WP α1} {w2 : WP α2} {w3 : WP α3} {w4 : WP α4} {w5 : WP α5} {m : α0 → α1 → α2 → α3 → α4 → α5 → WP γ} (h0 : EvW e t0 σ W ρ0 w0) (h1 : EvW e t1 σ W ρ1 w1) (h2 : EvW e t2 σ W ρ2 w2) (h3 : EvW e t3 σ W ρ3 w3) (h4 : EvW e t4 σ W ρ4 w4) (h5 : EvW e t5 σ W ρ5 w5)
    (hm : ∀ W2 a0 a1 a2 a3 a4 a5 x0 x1 x2 x3 x4 x5, Good e W2 → ρ0.post W2 W2 a0 x0 → ρ1.post W2 W2 a1 x1 → ρ2.post W2 W2 a2 x2 → ρ3.post W2 W2 a3 x3 → ρ4.post W2 W2 a4 x4 → ρ5.post W2 W2 a5 x5 → ∀ Q : VK, (m a0 a1 a2 a3 a4 a5).run W2.n (fun n b => ∀ v W3, Gw e W2 W3 → W3.n = n → ρ.post W2 W3 b v → Q v W3.H) → ∀ E, sp [x0, x1, x2, x3, x4, x5] W2.H Q E)
    (n0 : ∀ {W1 W2 a x}, ρ0.post W1 W2 a x → ρ0.post W2 W2 a x := by intros; assumption) (n1 : ∀ {W1 W2 a x}, ρ1.post W1 W2 a x → ρ1.post W2 W2 a x := by intros; assumption) (n2 : ∀ {W1 W2 a x}, ρ2.post W1 W2 a x → ρ2.post W2 W2 a x := by intros; assumption) (n3 : ∀ {W1 W2 a x}, ρ3.post W1 W2 a x → ρ3.post W2 W2 a x := by intros; assumption) (n4 : ∀ {W1 W2 a x}, ρ4.post W1 W2 a x → ρ4.post W2 W2 a x := by intros; assumption) (n5 : ∀ {W1 W2 a x}, ρ5.post W1 W2 a x → ρ5.post W2 W2 a x := by intros; assumption)
    : EvW e (tCall sp [] E (tCons t0 (tCons t1 (tCons t2 (tCons t3 (tCons t4 (tCons t5 tNil))))))) σ W ρ (WP.b6 w0 w1 w2 w3 w4 w5 m) := fun W1 g Q q => by
  refine h0 W1 g _ (w0.mono (fun n a0 q x0 V0 g0 hn r0 => ?_) q)
  subst hn
  have gg1 := g0
  refine h1 V0 (g.trans gg1) _ (w1.mono (fun n a1 q x1 V1 g1 hn r1 => ?_) q)
  subst hn
  have gg2 := gg1.trans g1
  have r0 := ρ0.stay g1 r0
  refine h2 V1 (g.trans gg2) _ (w2.mono (fun n a2 q x2 V2 g2 hn r2 => ?_) q)
  subst hn
  have gg3 := gg2.trans g2
  have r0 := ρ0.stay g2 r0
  have r1 := ρ1.stay g2 r1
  refine h3 V2 (g.trans gg3) _ (w3.mono (fun n a3 q x3 V3 g3 hn r3 => ?_) q)
  subst hn
  have gg4 := gg3.trans g3
  have r0 := ρ0.stay g3 r0
  have r1 := ρ1.stay g3 r1
  have r2 := ρ2.stay g3 r2
  refine h4 V3 (g.trans gg4) _ (w4.mono (fun n a4 q x4 V4 g4 hn r4 => ?_) q)
  subst hn
  have gg5 := gg4.trans g4
  have r0 := ρ0.stay g4 r0
  have r1 := ρ1.stay g4 r1
  have r2 := ρ2.stay g4 r2
  have r3 := ρ3.stay g4 r3
  refine h5 V4 (g.trans gg5) _ (w5.mono (fun n a5 q x5 V5 g5 hn r5 => ?_) q)
  subst hn
  have gg6 := gg5.trans g5
  have r0 := ρ0.stay g5 r0
  have r1 := ρ1.stay g5 r1
  have r2 := ρ2.stay g5 r2
  have r3 := ρ3.stay g5 r3
  have r4 := ρ4.stay g5 r4
  exact hm V5 a0 a1 a2 a3 a4 a5 x0 x1 x2 x3 x4 x5 gg6.ok (n0 r0) (n1 r1) (n2 r2) (n3 r3) (n4 r4) (n5 r5) Q ((m a0 a1 a2 a3 a4 a5).mono (fun n b h v W5 g5 hn r5 => h v W5 (gg6.trans g5) hn (ρ.back gg6 r5)) q) E
theorem ew_call7N {α0 α1 α2 α3 α4 α5 α6 γ : Type} {e : Ef} {σ : L2.St} {W : Wo} {t0 t1 t2 t3 t4 t5 t6 : TE} {sp : Sp} {E : XK} {ρ0 : Rs e α0} {ρ1 : Rs e α1} {ρ2 : Rs e α2} {ρ3 : Rs e α3} {ρ4 : Rs e α4} {ρ5 : Rs e α5} {ρ6 : Rs e α6} {ρ : Rs e γ} {w0 : WP α0} {w1 : WP α1} {w2 : WP α2} {w3 : WP α3} {w4 : WP α4} {w5 : WP α5} {w6 : WP α6} {m : α0 → α1 → α2 → α3 → α4 → α5 → α6 → WP γ} (h0 : EvW e t0 σ W ρ0 w0) (h1 : EvW e t1 σ W ρ1 w1) (h2 : EvW e t2 σ W ρ2 w2) (h3 : EvW e t3 σ W ρ3 w3) (h4 : EvW e t4 σ W ρ4 w4) (h5 : EvW e t5 σ W ρ5 w5) (h6 : EvW e t6 σ W ρ6 w6)
    (hm : ∀ W2 a0 a1 a2 a3 a4 a5 a6 x0 x1 x2 x3 x4 x5 x6, Good e W2 → ρ0.post W2 W2 a0 x0 → ρ1.post W2 W2 a1 x1 → ρ2.post W2 W2 a2 x2 → ρ3.post W2 W2 a3 x3 → ρ4.post W2 W2 a4 x4 → ρ5.post W2 W2 a5 x5 → ρ6.post W2 W2 a6 x6 → ∀ Q : VK, (m a0 a1 a2 a3 a4 a5 a6).run W2.n (fun n b => ∀ v W3, Gw e W2 W3 → W3.n = n → ρ.post W2 W3 b v → Q v W3.H) → ∀ E, sp [x0, x1, x2, x3, x4, x5, x6] W2.H Q E)
    (n0 : ∀ {W1 W2 a x}, ρ0.post W1 W2 a x → ρ0.post W2 W2 a x := by intros; assumption) (n1 : ∀ {W1 W2 a x}, ρ1.post W1 W2 a x → ρ1.post W2 W2 a x := by intros; assumption) (n2 : ∀ {W1 W2 a x}, ρ2.post W1 W2 a x → ρ2.post W2 W2 a x := by intros; assumption) (n3 : ∀ {W1 W2 a x}, ρ3.post W1 W2 a x → ρ3.post W2 W2 a x := by intros; assumption) (n4 : ∀ {W1 W2 a x}, ρ4.post W1 W2 a x → ρ4.post W2 W2 a x := by intros; assumption) (n5 : ∀ {W1 W2 a x}, ρ5.post W1 W2 a x → ρ5.post W2 W2 a x := by intros; assumption) (n6 : ∀ {W1 W2 a x}, ρ6.post W1 W2 a x → ρ6.post W2 W2 a x := by intros; assumption)
    : EvW e (tCall sp [] E (tCons t0 (tCons t1 (tCons t2 (tCons t3 (tCons t4 (tCons t5 (tCons t6 tNil)))))))) σ W ρ (WP.b7 w0 w1 w2 w3 w4 w5 w6 m) := fun W1 g Q q => by
  refine h0 W1 g _ (w0.mono (fun n a0 q x0 V0 g0 hn r0 => ?_) q)
  subst hn
  have gg1 := g0
  refine h1 V0 (g.trans gg1) _ (w1.mono (fun n a1 q x1 V1 g1 hn r1 => ?_) q)
  subst hn
  have gg2 := gg1.trans g1
  have r0 := ρ0.stay g1 r0
  refine h2 V1 (g.trans gg2) _ (w2.mono (fun n a2 q x2 V2 g2 hn r2 => ?_) q)
  subst hn
  have gg3 := gg2.trans g2
  have r0 := ρ0.stay g2 r0
  have r1 := ρ1.stay g2 r1
  refine h3 V2 (g.trans gg3) _ (w3.mono (fun n a3 q x3 V3 g3 hn r3 => ?_) q)
  subst hn
  have gg4 := gg3.trans g3
  have r0 := ρ0.stay g3 r0
  have r1 := ρ1.stay g3 r1
  have r2 := ρ2.stay g3 r2
  refine h4 V3 (g.trans gg4) _ (w4.mono (fun n a4 q x4 V4 g4 hn r4 => ?_) q)
  subst hn
  have gg5 := gg4.trans g4
  have r0 := ρ0.stay g4 r0
  have r1 := ρ1.stay g4 r1
  have r2 := ρ2.stay g4 r2
  have r3 := ρ3.stay g4 r3
  refine h5 V4 (g.trans gg5) _ (w5.mono (fun n a5 q x5 V5 g5 hn r5 => ?_) q)
  subst hn
  have gg6 := gg5.trans g5
  have r0 := ρ0.stay g5 r0
  have r1 := ρ1.stay g5 r1
  have r2 := ρ2.stay g5 r2
  have r3 := ρ3.stay g5 r3
  have r4 := ρ4.stay g5 r4
  refine h6 V5 (g.trans gg6) _ (w6.mono (fun n a6 q x6 V6 g6 hn r6 => ?_) q)
  subst hn
  have gg7 := gg6.trans g6
  have r0 := ρ0.stay g6 r0
  have r1 := ρ1.stay g6 r1
  have r2 := ρ2.stay g6 r2
  have r3 := ρ3.stay g6 r3
  have r4 := ρ4.stay g6 r4
  have r5 := ρ5.stay g6 r5
  exact hm V6 a0 a1 a2 a3 a4 a5 a6 x0 x1 x2 x3 x4 x5 x6 gg7.ok (n0 r0) (n1 r1) (n2 r2) (n3 r3) (n4 r4) (n5 r5) (n6 r6) Q ((m a0 a1 a2 a3 a4 a5 a6).mono (fun n b h v W5 g5 hn r5 => h v W5 (gg7.trans g5) hn (ρ.back gg7 r5)) q) E
theorem Var.nS {κ : Type} {k : Kd κ} {e : Ef} {W0 W : Wo} {fp : List Addr} {x : κ} {v : V} (g : Good e W0) (h : Var k W0 W fp x v) : ∀ a ∈ fp, ¬ e.S a := fun a m s => g.S a s (h.fr a m)
/-- the result of a pure def, told where more may happen -/
theorem sN_up {κ : Type} {k : Kd κ} {e : Ef} {W W' : Wo} {x : κ} {v : V} (g : Good e W) (h : (sN (e := ef0) k).post W W' x v) : (sN (e := e) k).post W W' x v := by
  obtain ⟨fp, h1, h2⟩ := h
  exact ⟨fp, h1, fun a m => ⟨(h2 a m).1, fun s => g.S a s (h2 a m).1, (h2 a m).2.2⟩⟩
end Y

namespace Y
open PySem PySem.Spec PyProof.Rows L2
section
variable {α β γ δ s ρ' : Type} {K : PySem.W.Frag} {e : Ef} {σ : L2.St} {W : Wo} {ta tb te tc tl : TE} {t u : TT} {i j k m n : Nat} {v : V} {D : Ends} {tu tw tz : TS} {ρ : Rs e α} {w : WP α} {R : Nat → β → Prop}
theorem q_forV [PyI α] {g : TG} {T : α → Wo → L2.St → L2.St → Prop} (ht : Tk g T) {xs : List α} {body : α → s → WP (Ctl s γ)} {f : s → WP β} {r : γ → WP β} {x0 : s} {p : Addr} {vs : List V} (hv : σ[i]? = some (some (.ref p))) (hp : W.H p = some (.lst vs)) (hr : Rps W xs vs) (hm : (WP.after (WP.loop body xs x0) f r).run W.n R)
    (INV : s → L2.St → Wo → Prop) (h0 : INV x0 σ W) (keep : ∀ y σ' W', INV y σ' W' → St W W' ∧ W'.H p = some (.lst vs)) (step : Turn INV body r R { D with nx := tz D } tu T) (hd : ∀ y σ' W', INV y σ' W' → (f y).run W'.n R → tz D σ' W'.H) : tSeq (tFor (iList K (tVar i)) g tu) tz D σ W.H := st_forV (D := { D with nx := tz D }) ht hv hp hr hm INV h0 keep step hd
theorem q_forN [PyI α] {gt : TG} {T : α → Wo → L2.St → L2.St → Prop} (ht : Tk gt T) {w : WP (List α)} {body : α → s → WP (Ctl s γ)} {f : s → WP β} {r : γ → WP β} {x0 : s} (h : EvW e tl σ W (sN (kL α)) w) (g : Good e W) (hm : (w.bind fun xs => WP.after (WP.loop body xs x0) f r).run W.n R)
    (q : ∀ (xs : List α) p vs W1, Gw e W W1 → W.H p = none → ¬ W1.F p → W1.H p = some (.lst vs) → Rps W1 xs vs → ∃ INV : s → L2.St → Wo → Prop, INV x0 σ W1 ∧ (∀ y σ' W', INV y σ' W' → St W1 W' ∧ W'.H p = some (.lst vs)) ∧ Turn INV body r R { D with nx := tz D } tu T ∧ ∀ y σ' W', INV y σ' W' → (f y).run W'.n R → tz D σ' W'.H) : tSeq (tFor (iList K tl) gt tu) tz D σ W.H := st_forN (D := { D with nx := tz D }) ht h g hm q
theorem q_forR1 {w : WP Int} {body : Int → s → WP (Ctl s γ)} {f : s → WP β} {r : γ → WP β} {x0 : s} (h : EvW e te σ W sI w) (g : Good e W) (hm : ((WP.range1 w).bind fun xs => WP.after (WP.loop body xs x0) f r).run W.n R)
    (q : ∀ W1, Gw e W W1 → ∃ INV : s → L2.St → Wo → Prop, INV x0 σ W1 ∧ Turn INV body r R { D with nx := tz D } tu (TkN j) ∧ ∀ y σ' W', INV y σ' W' → (f y).run W'.n R → tz D σ' W'.H) : tSeq (tFor (iRng1 (tCons te tNil)) (gName j) tu) tz D σ W.H := st_forR1 (D := { D with nx := tz D }) h g hm q
theorem own_list [PyI α] {fp : List Addr} {xs : List α} (h : (kL α).own W fp xs v) : ∃ p vs, fp = [p] ∧ v = .ref p ∧ W.H p = some (.lst vs) ∧ Rps W xs vs := h
theorem mem_one {a p : Addr} (h : a ∈ [p]) : a = p := List.mem_singleton.mp h
end
end Y
/-! lists of lists, texts joined, more things built in -/
namespace Y
open PySem PySem.Spec PyProof.Rows L2
def VRow {α : Type} [PyI α] (e : Ef) (W : Wo) (xs : List α) (x : V) : Prop := ∃ fp, (kL α).own W fp xs x ∧ ∀ b ∈ fp, ¬ e.S b
def TgR {α : Type} [PyI α] (e : Ef) (σ : L2.St) (vs0 : List Nat) (j : Nat) : List α → Wo → L2.St → Prop := fun a W s2 => ∃ x fp, s2 = (wipe σ vs0).set j (some x) ∧ (kL α).own W fp a x ∧ ∀ b ∈ fp, ¬ e.S b
/-- a list of lists changed by place -/
def setL {α : Type} (xs : List α) (r : Int) (v : α) : List α := match ixN xs.length r with | some i => xs.set i v | none => xs
def setG {α : Type} (xss : List (List α)) (r c : Int) (v : α) : List (List α) := setL xss r (setL (ixD xss r) c v)
theorem ixN_ok {n : Nat} {x : Int} (h : okI n x) : ∃ i, ixN n x = some i ∧ i < n := by
  unfold ixN
  obtain ⟨h1, h2⟩ := h
  by_cases h0 : 0 ≤ x
  · rw [if_pos h0, if_pos h2]; exact ⟨_, rfl, by omega⟩
  · rw [if_neg h0, if_pos h1]; exact ⟨_, rfl, by omega⟩
theorem setL_ok {α : Type} {xs : List α} {r : Int} {i : Nat} {v : α} (h : ixN xs.length r = some i) : setL xs r v = xs.set i v := by unfold setL; rw [h]
theorem ixD_ok {α : Type} [Inhabited α] {xs : List α} {r : Int} {i : Nat} (h : ixN xs.length r = some i) (hl : i < xs.length) : ixD xs r = xs[i] := by
  unfold ixD atI
  rw [h]
  show xs[i]?.getD default = _
  rw [List.getElem?_eq_getElem hl]; rfl
theorem paired_get {α β : Type} {F : α → β → Prop} : ∀ {l1 : List α} {l2 : List β}, l1.length = l2.length → (∀ (i : Nat) a b, l1[i]? = some a → l2[i]? = some b → F a b) → Paired F l1 l2
  | [], [], _, _ => .nil
  | [], _ :: _, h, _ => by simp at h
  | _ :: _, [], h, _ => by simp at h
  | a :: as, b :: bs, h, f => .cons (f 0 a b rfl rfl) (paired_get (by simpa using h) fun i x y hx hy => f (i + 1) x y hx hy)
namespace WP
variable {α β γ : Type}
def none {β : Type} {b : β} : WP α := ⟨fun _ _ => False, fun _ h => h⟩
abbrev join (s : WP Str) (xs : WP (List Str)) : WP Str := b2 s xs fun a ys => req ((ys.map (·.length)).sum + ys.length * a.length ≤ 1000000) (Txt.join a ys)
abbrev gset [Inhabited α] (xss : List (List α)) (a : WP α) (b c : WP Int) : WP (List (List α)) := a.bind fun v => b.bind fun r => (req (okI xss.length r) r).bind fun r => c.bind fun k => req (okI (ixD xss r).length k) (setG xss r k v)
abbrev min4 (a b c d : WP Int) : WP Int := b4 a b c d fun x y z w => pure (min (min x y) (min z w))
end WP
section
variable {α β γ δ : Type} {K : PySem.W.Frag} {e : Ef} {σ : L2.St} {W : Wo} {ta tb te tc td tl to : TE} {t u : TT} {i j k m n : Nat} {v : V} {vs0 : List Nat} {D : Ends} {tz : TS} {R : Nat → γ → Prop} {g : TG}
theorem takes_R [PyI α] : Takes (fun W (a : List α) x => VRow e W a x) (gName j) σ vs0 (TgR e σ vs0 j) := fun a x W' Q ⟨fp, h1, h2⟩ q => q _ ⟨x, fp, rfl, h1, h2⟩
theorem row_at [PyI α] {W' : Wo} {xss : List (List α)} {ps : List Addr} {x : V} {i : Nat} (h : Paired (Row W) xss ps) (hi : (ps.map V.ref)[i]? = some x) (hS : ∀ b ∈ ps, ¬ e.S b) : ∃ xs, xss[i]? = some xs ∧ VRow e W xs x := by
  rw [List.getElem?_map] at hi
  obtain ⟨a, ha, rfl⟩ := Option.map_eq_some_iff.mp hi
  obtain ⟨xs, hxs, vs, r1, r2⟩ := h.getV ha
  exact ⟨xs, hxs, [a], ⟨a, vs, rfl, rfl, r1, r2⟩, fun b m => by cases List.mem_singleton.mp m; exact hS a (List.mem_of_getElem? ha)⟩
theorem VRow.go [PyI α] {W W' : Wo} {xs : List α} {x : V} (g : Gw e W W') (h : VRow e W xs x) : VRow e W' xs x := by
  obtain ⟨fp, h1, h2⟩ := h
  exact ⟨fp, Kd.go g h2 h1, h2⟩
/-- a comprehension over a list of lists -/
theorem ew_lcG [PyI α] [PyI β] {w : WP (List (List α))} {T : List α → Wo → L2.St → Prop} {c : List α → WP Bool} {f : List α → WP β} (h : EvW e tl σ W (sR (kG α)) w) (ht : Takes (fun W (a : List α) x => VRow e W a x) g σ vs0 T) (hw : ∀ a W' s2, T a W' s2 → wipe s2 vs0 = wipe σ vs0)
    (hc : ∀ a W1 s2, Gw e W W1 → T a W1 s2 → EvT e t s2 W1 (c a)) (he : ∀ a W1 s2, Gw e W W1 → T a W1 s2 → EvW e te s2 W1 sI (f a)) : EvW e (tLc (iList K tl) g t te vs0) σ W (sN (kL β)) (WP.lc w c f) := fun W1 g1 Q q =>
  h W1 g1 _ (w.mono (fun n xs hq v W2 g2 hn ⟨fp, ⟨p, ps, e1, nd, e2, hp, hr⟩, hS⟩ => by
    subst hn; subst e1; subst e2
    refine ⟨p, rfl, ⟨_, SqL.of hp⟩, fun Dl hD => ?_⟩
    have hSp := hS p List.mem_cons_self
    have hSr : ∀ b ∈ ps, ¬ e.S b := fun b m => hS b (List.mem_cons_of_mem _ m)
    obtain ⟨Pv, p0, pk, pst, pd⟩ := pv_comp (val := fun W (a : List α) x => VRow e W a x) (T := T) (t := t) (te := te) (g := g) (σ := σ) (vs0 := vs0) (Qd := fun H => Q (.ref Dl) H) g2.ok hD hq.1 ht hw (fun a W3 s2 g3 => hc a W3 s2 ((g1.trans g2).trans g3)) (fun a W3 s2 g3 => he a W3 s2 ((g1.trans g2).trans g3)) hq.2 fun W' ys vs' gw hl hF hr' hqq => hqq _ W' (g2.trans gw) rfl ⟨[Dl], ⟨Dl, vs', rfl, rfl, hl, hr'⟩, fun b mb => by
      cases List.mem_singleton.mp mb
      exact ⟨g2.live _ hD, fun s => g2.ok.S _ s hD, hF⟩⟩
    exact lc_list (xs := ps.map V.ref) Pv p0 (fun i H _ pp => by
      obtain ⟨W', e1, gw⟩ := pk i H pp
      subst e1
      exact SqL.of (gw.keep _ _ hp hSp)) (fun i x H hi pp => by
      obtain ⟨a, ha, ra⟩ := row_at (W' := W2) hr hi hSr
      exact pst i x H a ha (fun W' gw => VRow.go gw ra) pp) (by rw [List.length_map, ← Paired.length hr]; exact pd)) q)
abbrev rJoin (K : PySem.W.Frag) : V → List V → Hp → VK → Prop := fun x xs H Q => ∃ a p, ∃ ys : List Str, x = .str a ∧ xs = [.ref p] ∧ (SqL K H p (ys.map V.str) ∨ SqT K H p (ys.map V.str)) ∧
      (ys.map (·.length)).sum + ys.length * a.length ≤ 16777216 ∧ Q (.str (Txt.join a ys)) H
theorem ew_join {w1 : WP Str} {w2 : WP (List Str)} (ho : EvW e to σ W sI w1) (h : EvW e te σ W (sR (kL Str)) w2) : EvW e (tM1 (rJoin K) to te) σ W sI (WP.join w1 w2) := fun W1 g Q q =>
  ho W1 g _ (w1.mono (fun n a hq x W2 g2 hn r1 => by
    subst hn; cases r1
    refine ⟨⟨a, rfl⟩, h W2 (g.trans g2) _ (w2.mono (fun n ys hq y W3 g3 hn ⟨fp, ⟨p, vs, _, h1, h2, h3⟩, _⟩ => ?_) hq)⟩
    subst h1
    cases rps_strs h3
    exact ⟨a, p, ys, rfl, rfl, .inl (SqL.of h2), Nat.le_trans hq.1 (by decide), hq.2 _ W3 (g2.trans g3) hn rfl⟩) q)
abbrev rMin4 : List V → Hp → VK → Prop := fun xs H Q => ∃ i j k l, xs = [.int i, .int j, .int k, .int l] ∧ Q (.int (min (min i j) (min k l))) H
theorem ew_min4 {w1 w2 w3 w4 : WP Int} (h1 : EvW e ta σ W sI w1) (h2 : EvW e tb σ W sI w2) (h3 : EvW e tc σ W sI w3) (h4 : EvW e td σ W sI w4) : EvW e (tCB rMin4 (tCons ta (tCons tb (tCons tc (tCons td tNil))))) σ W sI (WP.min4 w1 w2 w3 w4) := fun W1 g Q q =>
  h1 W1 g _ (w1.mono (fun n a q x V1 g1 hn r1 => by
    subst hn
    refine h2 V1 (g.trans g1) _ (w2.mono (fun n b q y V2 g2 hn r2 => ?_) q)
    subst hn
    have gg2 := g1.trans g2
    refine h3 V2 (g.trans gg2) _ (w3.mono (fun n c q z V3 g3 hn r3 => ?_) q)
    subst hn
    have gg3 := gg2.trans g3
    refine h4 V3 (g.trans gg3) _ (w4.mono (fun n d q w V4 g4 hn r4 => ?_) q)
    cases r1; cases r2; cases r3; cases r4
    exact ⟨a, b, c, d, rfl, q _ V4 (gg3.trans g4) hn rfl⟩) q)
/-- grid.append(row) -/
theorem st_gapp [PyI α] {W0 : Wo} {fg fr : List Addr} {xss : List (List α)} {xs : List α} {vg vr : V} {ig ir : Nat} {f : List (List α) → WP γ} (g00 : Good e W0) (g0 : Gw e W0 W) (hg : σ[ig]? = some (some vg)) (hr : σ[ir]? = some (some vr)) (og : Var (kG α) W0 W fg xss vg) (or : Var (kL α) W0 W fr xs vr) (dj : ∀ b ∈ fg, b ∉ fr)
    (hm : ((WP.req (xss.length < 100000) (xss ++ [xs])).bind f).run W.n R)
    (q : ∀ ys W2 f2, (∀ b ∈ f2, b ∈ fg ∨ b ∈ fr) → St W W2 → Gw e W0 W2 → (∀ fp' W9, Kp fp' W9 W → (∀ b ∈ fp', b ∉ fg) → Kp fp' W9 W2) → (∀ b, W2.F b → W.F b) → Var (kG α) W0 W2 f2 ys vg → (f ys).run W2.n R → D.nx σ W2.H) : tDrop (tBM K "list" rAppend (tVar ig) (tCons (tVar ir) tNil)) D σ W.H := by
  obtain ⟨⟨p, ps, e1, nd, e2, hp, hrow⟩, frg, nFg⟩ := og
  obtain ⟨⟨r, vs, e3, e4, hrr, hrs⟩, frr, nFr⟩ := or
  subst e1; subst e2; subst e3; subst e4
  have mp : p ∈ p :: ps := List.mem_cons_self
  have mr : r ∈ [r] := List.mem_singleton.mpr rfl
  have s12 := St.mut (u := .lst (ps.map V.ref ++ [V.ref r])) hp (fun _ z => by cases z) (nFg p mp)
  refine ⟨_, hg, .inl ⟨rfl, _, SqL.of hp⟩, .ref r, hr, p, _, .ref r, rfl, rfl, hp, by rw [List.length_map, ← Paired.length hrow]; exact sz_lt hm.1, ?_⟩
  have npr : p ≠ r := fun z => dj p mp (by rw [z]; exact mr)
  refine q (xss ++ [xs]) (W.set p (.lst (ps.map V.ref ++ [V.ref r]))) (p :: (ps ++ [r])) (fun b m => ?_) s12 (Gw.mut g00 g0 (frg p mp) hp (fun _ z => by cases z) (nFg p mp)) (fun fp' W9 kk d => kk.upd fun b m z => d b m (by rw [z]; exact mp)) (fun _ f => f) ⟨⟨p, ps ++ [r], rfl, ?_, rfl, ?_, ?_⟩, fun b m => ?_, fun b m => ?_⟩ hm.2
  · rcases List.mem_cons.mp m with m | m
    · exact .inl (by rw [m]; exact mp)
    · rcases List.mem_append.mp m with m | m
      · exact .inl (List.mem_cons_of_mem _ m)
      · exact .inr m
  · have h1 := List.nodup_cons.mp nd
    refine List.nodup_cons.mpr ⟨fun m => ?_, ?_⟩
    · rcases List.mem_append.mp m with m | m
      · exact h1.1 m
      · exact npr (List.mem_singleton.mp m)
    · rw [List.nodup_append]
      exact ⟨h1.2, by simp, fun a ma b mb z => dj a (List.mem_cons_of_mem _ ma) (by rw [z]; exact mb)⟩
  · show (upd W.H p _) p = _
    rw [upd_same, List.map_append]; rfl
  · have k : ∀ a ∈ ps, ∀ o, W.H a = some o → (W.set p (.lst (ps.map V.ref ++ [V.ref r]))).H a = some o := fun a m o h => by
      show (upd W.H p _) a = _
      rw [upd_ne (fun z => (List.nodup_cons.mp nd).1 (by rw [← z]; exact m))]; exact h
    refine (rows_st s12 k hrow).appA (.cons ⟨vs, ?_, Rps.st s12 hrs⟩ .nil)
    show (upd W.H p _) r = _
    rw [upd_ne npr.symm]; exact hrr
  · rcases List.mem_cons.mp m with m | m
    · rw [m]; exact frg p mp
    · rcases List.mem_append.mp m with m | m
      · exact frg b (List.mem_cons_of_mem _ m)
      · exact frr b m
  · rcases List.mem_cons.mp m with m | m
    · rw [m]; exact nFg p mp
    · rcases List.mem_append.mp m with m | m
      · exact nFg b (List.mem_cons_of_mem _ m)
      · exact nFr b m
/-- grid[r][c] = e -/
theorem st_gset [PyI α] [Inhabited α] {W0 : Wo} {fg : List Addr} {xss : List (List α)} {vg : V} {ig : Nat} {w1 : WP α} {w2 w3 : WP Int} {f : List (List α) → WP γ} (g00 : Good e W0) (g0 : Gw e W0 W) (hg : σ[ig]? = some (some vg)) (og : Var (kG α) W0 W fg xss vg) (hv : EvW e tc σ W sI w1) (ha : EvW e ta σ W sI w2) (hb : EvW e tb σ W sI w3)
    (hm : ((WP.gset xss w1 w2 w3).bind f).run W.n R)
    (q : ∀ ys W1 W2, Gw e W W1 → St W1 W2 → Gw e W0 W2 → (∀ fp' W9, Kp fp' W9 W1 → (∀ b ∈ fp', b ∉ fg) → Kp fp' W9 W2) → (∀ b, W2.F b → W1.F b) → Var (kG α) W0 W2 fg ys vg → (f ys).run W2.n R → D.nx σ W2.H) : tAsg tc (gSub (tOp (rIxL K) (tVar ig) ta) tb rSetL) D σ W.H := by
  refine hv W (Gw.refl g0.ok) _ (w1.mono (fun n v hq x W1 g1 hn r1 => ?_) hm)
  subst hn
  refine ⟨_, hg, ha W1 g1 _ (w2.mono (fun n r hq y W2 g2 hn r2 => ?_) hq)⟩
  subst hn
  cases r2
  obtain ⟨⟨p, ps, e1, nd, e2, hp, hrow⟩, frg, nFg⟩ := og.go g00 (g1.trans g2)
  subst e1; subst e2
  have hSg : ∀ b ∈ p :: ps, ¬ e.S b := fun b m s => g00.S b s (frg b m)
  have key : ∀ {i : Nat} {a : Addr}, ps[i]? = some a → (ps.map V.ref)[i]? = some (.ref a) := fun h => by rw [List.getElem?_map, h]; rfl
  obtain ⟨hr, hq⟩ := hq
  · obtain ⟨i, hi, hil⟩ := ixN_ok hr
    have hlp := Paired.length hrow
    have hip : i < ps.length := by omega
    have hpi : ps[i]? = some ps[i] := List.getElem?_eq_getElem hip
    have hat : atI (ps.map V.ref) r = some (.ref ps[i]) := by
      unfold atI
      rw [List.length_map, ← hlp, hi]
      exact key hpi
    refine ⟨p, _, r, _, rfl, rfl, SqL.of hp, hat, hb W2 (g1.trans g2) _ (w3.mono (fun n c hq z W3 g3 hn r3 => ?_) hq)⟩
    subst hn
    cases r3
    obtain ⟨hc, hq⟩ := hq
    obtain ⟨j, hj, hjl⟩ := ixN_ok hc
    have hxi : ixD xss r = xss[i] := ixD_ok hi hil
    have mi : ps[i] ∈ p :: ps := List.mem_cons_of_mem _ (List.getElem_mem hip)
    have g13 := g1.trans (g2.trans g3)
    have hrow3 : Paired (Row W3) xss ps := rows_st g3.st (fun a m o h => g3.keep a o h (hSg a (List.mem_cons_of_mem _ m))) hrow
    have hp3 := g3.keep _ _ hp (hSg p List.mem_cons_self)
    obtain ⟨a, ha', vs, ra, rv⟩ := hrow3.getA (List.getElem?_eq_getElem hil)
    rw [hpi] at ha'
    cases ha'
    have hF : ¬ W3.F ps[i] := fun z => (g3.new _ z).elim (nFg _ mi) (fun n => by
      obtain ⟨a, ha', vs, ra, rv⟩ := hrow.getA (List.getElem?_eq_getElem hil)
      rw [hpi] at ha'
      cases ha'
      exact some_ne ra n)
    have s34 := St.mut (u := .lst (vs.set j x)) ra (fun _ z => by cases z) hF
    rw [hxi] at hj hc
    have hjv : ixN vs.length c = some j := by rw [← Paired.length rv]; exact hj
    have npi : ps[i] ≠ p := fun z => (List.nodup_cons.mp nd).1 (by rw [← z]; exact List.getElem_mem hip)
    refine ⟨ps[i], vs, c, j, rfl, rfl, ra, hjv, q (setG xss r c v) W3 (W3.set ps[i] (.lst (vs.set j x))) g13 s34 (Gw.mut g00 (g0.trans g13) (frg _ mi) ra (fun _ z => by cases z) hF) (fun fp' W9 kk d => kk.upd fun b m z => d b m (by rw [z]; exact mi)) (fun _ f => f) ⟨⟨p, ps, rfl, nd, rfl, ?_, ?_⟩, frg, fun b m z => ?_⟩ hq⟩
    · show (upd W3.H ps[i] _) p = _
      rw [upd_ne npi.symm]; exact hp3
    · have es : setG xss r c v = xss.set i (xss[i].set j v) := by
        unfold setG
        rw [hxi, setL_ok hi, setL_ok hj]
      rw [es]
      refine paired_get (by rw [List.length_set]; exact hlp) fun k a b hka hkb => ?_
      by_cases hki : k = i
      · subst hki
        rw [List.getElem?_set_self hil] at hka
        rw [hpi] at hkb
        cases hka; cases hkb
        exact ⟨_, upd_same, (Rps.st s34 rv).setA j (PyI.st ((g2.trans g3).st.trans s34) r1)⟩
      · rw [List.getElem?_set_ne (fun z => hki z.symm)] at hka
        obtain ⟨b', hb', vs', r1', r2'⟩ := hrow3.getA hka
        rw [hkb] at hb'
        cases hb'
        refine ⟨vs', ?_, Rps.st s34 r2'⟩
        show (upd W3.H ps[i] _) b = _
        have : b ≠ ps[i] := fun z => hki (by
          have hk : k < ps.length := (List.getElem?_eq_some_iff.mp hkb).1
          have e5 : ps[k] = b := (List.getElem?_eq_some_iff.mp hkb).2
          exact (List.getElem_inj (List.nodup_cons.mp nd).2).mp (e5.trans z))
        rw [upd_ne this]; exact r1'
    · have : W3.F b := z
      exact (g3.new b this).elim (nFg b m) (fun n => (kG α).live (W := W2) ⟨p, ps, rfl, nd, rfl, hp, hrow⟩ b m n)
/-- [] for a list of lists -/
theorem ew_gnil [PyI α] : EvW e (tLst tNil) σ W (sN (kG α)) (WP.row (WP.pure ([] : List (List α)))) := fun W1 g Q q => ⟨sz_le (n := 0) (by decide), fun p hp => q.2 _ _ (Gw.alloc g.ok hp) rfl ⟨[p], ⟨p, [], rfl, by simp, rfl, upd_same, .nil⟩, fun a m => by
  cases List.mem_singleton.mp m
  exact ⟨hp, fun s => g.ok.S p s hp, fun f => (g.ok.F p f).2 hp⟩⟩⟩
end
section
variable {X : Cx} {K : PySem.W.Frag}
theorem pe_joinK {o e : Expr} {to te : TE} {apos pos : Pos} (hK : X.K = K) (ho : PE X o to) (he : PE X e te) (hs : starEach [e] X.env = [(false, eval e X.env)] := by rfl) (hbase : attributeBase o "join" X.env (eval o X.env) = eval o X.env := by rfl) (hline : (apos.endLine == pos.line) = true := by rfl) :
    PE X (.Call (.Attribute o "join" apos) [e] [] pos) (tM1 (rJoin K) to te) := hK ▸ pe_join ho he hs hbase hline
end
open Sem (wp)
section
variable {prog : Program} {w : World} {A : Around} {E : Value → Shared → Prop} {s : Shared}
theorem args_min4 (a b c d : Value) : argsOk "min" ⟨[a, b, c, d], []⟩ := by unfold argsOk; kernel_rfl
theorem call_min_four {a b c d : Value} {Q : Value → Shared → Prop}
    (h : wpAny (model prog w) A.in1 (pyIter (.ref s.heap.objs.size)) (fun it s₂ => ∃ I fp wr n P St bt, it = .ref I ∧ Walks prog w A.in1 I fp wr n P St ∧ St 0 s₂.heap ∧ (∀ b ∈ fp, b < s₂.heap.objs.size) ∧ 0 < n ∧ CmpOf prog w A.in1 .Lt P bt ∧
      ∀ v h' tk, P (argBest bt (n - 1)) v → (∀ b o, b ∉ wr → s₂.heap.get? b = some o → h'.get? b = some o) → Q v { s₂ with heap := h', toks := tk }) E
      { s with heap := s.heap.push { cls := .type "tuple", data := .seq #[a, b, c, d] } }) :
    wpAny (model prog w) A (call (.builtin "min") [a, b, c, d]) Q E s := by
  have hname : (toString "min" ++ toString ".loop" : String) = "min.loop" := by decide
  refine call_function_tree F.kind_min F.plain_min F.entry_min (args_min4 _ _ _ _) ?_
  show wpAny _ A.in1 (Builtin.Builtins.bindParams "min" ["key", "default"] 0 ⟨[], []⟩ >>= _) _ _ s
  refine wpAny_bind (wpAny_of_eq (show Builtin.Builtins.bindParams "min" ["key", "default"] 0 ⟨[], []⟩ = pure [none, none] from rfl) ?_)
  show wpAny _ A.in1 (newTuple [a, b, c, d] >>= _) _ _ s
  refine wpAny_bind (wpAny_newObj_type ?_)
  refine wpAny_bind (wpAny_mono h (fun it s₂ h₂ => ?_) fun _ _ e => e)
  obtain ⟨I, fp, wr, n, P, St, bt, rfl, W, hst, hfp, hn, hcmp, hQ⟩ := h₂
  refine wpAny_bind (wpAny_newObj_type ?_)
  have hSf : s₂.heap.objs.size ∉ fp := fun hm => Nat.lt_irrefl _ (hfp _ hm)
  rw [hname]
  refine wpAny_pure ⟨plainId_quiet F.plain_min_loop _, codeAny_min_loop_first W bt hcmp s₂.heap.objs.size hSf hn (W.frame _ _ _ hst fun b _ o e => Heap.get?_push_of_some _ e) (Heap.get?_push_size _ rfl) fun v h' tk hP hk => ?_⟩
  exact hQ v h' tk hP fun b o hbw e => hk b o hbw (Nat.ne_of_lt (Heap.lt_size e)) (Heap.get?_push_of_some _ e)
def pick4 (a b c d : Int) (t u x y : Tok) : Value := if b < a then (if c < b then (if d < c then .int d y else .int c x) else (if d < b then .int d y else .int b u)) else (if c < a then (if d < c then .int d y else .int c x) else (if d < a then .int d y else .int a t))
theorem pick4_min (a b c d : Int) (t u x y : Tok) : ∃ z, pick4 a b c d t u x y = .int (min (min a b) (min c d)) z := by
  unfold pick4
  have m : ∀ p q : Int, min p q = if p ≤ q then p else q := fun p q => rfl
  simp only [m]
  split <;> (split <;> (split <;> (first
    | exact ⟨_, congrArg (fun z => Value.int z _) (by repeat' split <;> omega)⟩
    | omega)))
theorem min_four_ints {a b c d : Int} {t u x y : Tok} {Q : Value → Shared → Prop} (hh : A.handled = none)
    (h : ∀ h' tk, (∀ d o, s.heap.get? d = some o → h'.get? d = some o) → Q (pick4 a b c d t u x y) { s with heap := h', toks := tk }) :
    wpAny (model prog w) A (call (.builtin "min") [.int a t, .int b u, .int c x, .int d y]) Q E s := by
  have hT : (s.heap.push { cls := .type "tuple", data := .seq #[.int a t, .int b u, .int c x, .int d y] }).IsTuple s.heap.objs.size (intItems #[(a, t), (b, u), (c, x), (d, y)]) := ⟨_, Heap.get?_push_size _ rfl, rfl, 0, by simp [intItems]⟩
  refine call_min_four (wpAny_pyIter_tuple hT ?_)
  have hsz : (s.heap.push { cls := .type "tuple", data := .seq #[.int a t, .int b u, .int c x, .int d y] }).objs.size = s.heap.objs.size + 1 := Heap.size_push ..
  refine ⟨_, [_, s.heap.objs.size], [_], _, _, _, _, rfl, Walks.tuple (A := A.in1) hh _ s.heap.objs.size (by rw [hsz]; exact Nat.ne_of_lt (Nat.lt_succ_self _)) (intItems #[(a, t), (b, u), (c, x), (d, y)]),
    ⟨⟨_, Heap.get?_push_size _ rfl, rfl, rfl⟩, hT.push _⟩, fun d hd => ?_, by simp [intItems], CmpOf.ints_lt (numAt #[(a, t), (b, u), (c, x), (d, y)]) (fun _ _ => intItems_at), fun v h' tk hP hk => ?_⟩
  · show d < ((s.heap.push _).push _).objs.size
    rw [Heap.size_push, hsz]
    rcases List.mem_cons.mp hd with rfl | hd
    · rw [hsz]; exact Nat.lt_succ_self _
    · rcases List.mem_cons.mp hd with rfl | hd
      · exact Nat.lt_succ_of_lt (Nat.lt_succ_self _)
      · cases hd
  · have hold : ∀ d o, s.heap.get? d = some o → h'.get? d = some o := fun d o e => by
      refine hk d o (fun hm => ?_) (Heap.get?_push_of_some _ (Heap.get?_push_of_some _ e))
      rcases List.mem_cons.mp hm with e1 | hm
      · have := Heap.lt_size e; rw [e1, hsz] at this; exact Nat.lt_irrefl _ (Nat.lt_of_succ_lt this)
      · cases hm
    have := h h' tk hold
    have hv : v = pick4 a b c d t u x y := by
      have hP' : (intItems #[(a, t), (b, u), (c, x), (d, y)])[argBest (fun i j => decide (numAt #[(a, t), (b, u), (c, x), (d, y)] i < numAt #[(a, t), (b, u), (c, x), (d, y)] j)) 3]? = some v := by
        have hsz2 : (intItems #[(a, t), (b, u), (c, x), (d, y)]).size - 1 = 3 := by simp [intItems]
        rw [← hsz2]; exact hP
      unfold pick4
      by_cases h1 : b < a
      · by_cases h2 : c < b
        · by_cases h3 : d < c
          · have e : argBest (fun i j => decide (numAt #[(a, t), (b, u), (c, x), (d, y)] i < numAt #[(a, t), (b, u), (c, x), (d, y)] j)) 3 = 3 := by simp [argBest, numAt, h1, h2, h3]
            rw [e] at hP'
            simpa [intItems, h1, h2, h3] using hP'.symm
          · have e : argBest (fun i j => decide (numAt #[(a, t), (b, u), (c, x), (d, y)] i < numAt #[(a, t), (b, u), (c, x), (d, y)] j)) 3 = 2 := by simp [argBest, numAt, h1, h2, h3]
            rw [e] at hP'
            simpa [intItems, h1, h2, h3] using hP'.symm
        · by_cases h3 : d < b
          · have e : argBest (fun i j => decide (numAt #[(a, t), (b, u), (c, x), (d, y)] i < numAt #[(a, t), (b, u), (c, x), (d, y)] j)) 3 = 3 := by simp [argBest, numAt, h1, h2, h3]
            rw [e] at hP'
            simpa [intItems, h1, h2, h3] using hP'.symm
          · have e : argBest (fun i j => decide (numAt #[(a, t), (b, u), (c, x), (d, y)] i < numAt #[(a, t), (b, u), (c, x), (d, y)] j)) 3 = 1 := by simp [argBest, numAt, h1, h2, h3]
            rw [e] at hP'
            simpa [intItems, h1, h2, h3] using hP'.symm
      · by_cases h2 : c < a
        · by_cases h3 : d < c
          · have e : argBest (fun i j => decide (numAt #[(a, t), (b, u), (c, x), (d, y)] i < numAt #[(a, t), (b, u), (c, x), (d, y)] j)) 3 = 3 := by simp [argBest, numAt, h1, h2, h3]
            rw [e] at hP'
            simpa [intItems, h1, h2, h3] using hP'.symm
          · have e : argBest (fun i j => decide (numAt #[(a, t), (b, u), (c, x), (d, y)] i < numAt #[(a, t), (b, u), (c, x), (d, y)] j)) 3 = 2 := by simp [argBest, numAt, h1, h2, h3]
            rw [e] at hP'
            simpa [intItems, h1, h2, h3] using hP'.symm
        · by_cases h3 : d < a
          · have e : argBest (fun i j => decide (numAt #[(a, t), (b, u), (c, x), (d, y)] i < numAt #[(a, t), (b, u), (c, x), (d, y)] j)) 3 = 3 := by simp [argBest, numAt, h1, h2, h3]
            rw [e] at hP'
            simpa [intItems, h1, h2, h3] using hP'.symm
          · have e : argBest (fun i j => decide (numAt #[(a, t), (b, u), (c, x), (d, y)] i < numAt #[(a, t), (b, u), (c, x), (d, y)] j)) 3 = 0 := by simp [argBest, numAt, h1, h2, h3]
            rw [e] at hP'
            simpa [intItems, h1, h2, h3] using hP'.symm
    rw [hv]; exact this
end
theorem call_min4 {X : Cx} (hc : X.calm = true) : CallR X (.builtin "min") rMin4 := by
  intro pins s σ H xs us Q I r h
  obtain ⟨i, j, k, l, rfl, q⟩ := h
  cases r with
  | cons r1 r => cases r with
    | cons r2 r => cases r with
      | cons r3 r => cases r with
        | cons r4 r =>
          cases r
          obtain ⟨t1, rfl⟩ := r1
          obtain ⟨t2, rfl⟩ := r2
          obtain ⟨t3, rfl⟩ := r3
          obtain ⟨t4, rfl⟩ := r4
          exact min_four_ints (I.ok.hd hc) fun h1 tk k1 => ⟨.int (min (min i j) (min k l)), H, I.kept k1, pick4_min _ _ _ _ _ _ _ _, q⟩
end Y

/-! the script, a new deal, the law itself -/
namespace Y
open PySem PySem.Spec PyProof.Rows L2
section
variable {α β γ : Type} {K : PySem.W.Frag} {σ : L2.St} {W W0 : Wo} {ta tb te : TE} {i j k n : Nat} {v : V} {D : Ends} {R : Nat → β → Prop}
theorem sqL_g {a : Addr} {xs : List V} (g : Gw ef0 W0 W) (h : SqL K W0.H a xs) : SqL K W.H a xs := Same.seq (fun b o q => g.keep b o q id) h
theorem ew_lenQ {a : Addr} {ns : List Int} (hv : σ[i]? = some (some (.ref a))) (h : SqL K W.H a (ns.map V.int)) : EvW ef0 (tCB (rLenS K) (tCons (tVar i) tNil)) σ W sI (WP.len (WP.pure ns)) := fun W1 g Q q =>
  ⟨_, hv, a, _, rfl, .inl (sqL_g g h), q _ W1 (Gw.refl g.ok) rfl (by rw [List.length_map]; exact rfl)⟩
theorem ew_ixQ {a : Addr} {ns : List Int} {w : WP Int} (hv : σ[i]? = some (some (.ref a))) (h : SqL K W.H a (ns.map V.int)) (hb : EvW ef0 tb σ W sI w) : EvW ef0 (tOp (rIxL K) (tVar i) tb) σ W sI (WP.ix (WP.pure ns) w) := fun W1 g Q q =>
  ⟨_, hv, hb W1 g _ (w.mono (fun n x hq y W2 g2 hn r => by
    cases r
    obtain ⟨v, hv', rv⟩ := atI_pair (rps_ints' W2 ns) (atI_ok hq.1)
    exact ⟨a, _, x, v, rfl, rfl, sqL_g (g.trans g2) h, hv', hq.2 _ W2 g2 hn rv⟩) q)⟩
/-- a new deal -/
def NewDeal (W W' : Wo) (v : V) : Prop := ∃ d : Dl, v = .ref d.p ∧ W.H d.p = none ∧ W.H d.l1 = none ∧ W.H d.l2 = none ∧ ¬ W'.F d.l2 ∧ d.At W'.H 0
theorem NewDeal.good {W W' : Wo} (h : NewDeal W W' v) (g : Good ef0 W') (hn : W'.n = 0) : ∃ d : Dl, v = .ref d.p ∧ Good (efD d) W' := by
  obtain ⟨d, e1, _, _, _, hF, hA⟩ := h
  refine ⟨d, e1, ⟨fun a f => ⟨fun (s : a = d.l2) => hF (s ▸ f), (g.F a f).2⟩, fun a (s : a = d.l2) => ?_, ?_⟩⟩
  · rw [s]; exact some_ne hA.n
  · show d.At W'.H W'.n
    rw [hn]; exact hA
/-- return [row, [0], total] -/
theorem st_retdeal {fp : List Addr} {ns : List Int} {vx : V} {w : WP Int} {f : Int → WP β} (g00 : Good ef0 W0) (g0 : Gw ef0 W0 W) (hv : σ[i]? = some (some vx)) (ho : Var (kL Int) W0 W fp ns vx) (ht : EvW ef0 tb σ W sI w) (hm : (w.bind f).run W.n R)
    (q : ∀ t v W1, Gw ef0 W0 W1 → W1.n = W0.n → NewDeal W0 W1 v → (f t).run W1.n R → D.rt v W1.H) : tRet (tLst (tCons (tVar i) (tCons (tLst (tCons (tC (.int 0)) tNil)) (tCons tb tNil)))) D σ W.H := by
  obtain ⟨⟨p, vs, e1, e2, hp, hr⟩, fr, nF⟩ := ho
  subst e1; subst e2
  have mp : p ∈ [p] := List.mem_singleton.mpr rfl
  refine ⟨_, hv, ⟨sz_le (n := 1) (by decide), fun l2 hl2 => ?_⟩⟩
  have ga := Gw.alloc (o := .lst [.int 0]) g0.ok hl2
  refine ht ⟨upd W.H l2 (.lst [.int 0]), W.F, W.n⟩ ga _ (w.mono (fun n t hq x W2 g2 hn r => ?_) hm)
  subst hn; cases r
  refine ⟨sz_le (n := 3) (by decide), fun p0 hp0 => ?_⟩
  have gb := Gw.alloc (o := .lst [.ref p, .ref l2, .int t]) g2.ok hp0
  have h2 : W2.H l2 = some (.lst [.int 0]) := g2.keep _ _ upd_same id
  have hp2 : W2.H p = some (.lst vs) := (ga.trans g2).keep _ _ hp id
  have n1 : p ≠ l2 := ne_of hp hl2
  have m1 : l2 ≠ p0 := ne_of h2 hp0
  have m2 : p ≠ p0 := ne_of hp2 hp0
  have h0 : W.H p0 = none := ga.live p0 (g2.live p0 hp0)
  have gg := g0.trans ((ga.trans g2).trans gb)
  refine q t (.ref p0) _ gg (show W0.n = _ from gg.n).symm ⟨⟨p0, p, l2, ns, t⟩, rfl, g0.live _ h0, fr p mp, g0.live _ hl2, fun z => ?_, ⟨upd_same, ?_, ?_, m1.symm, n1⟩⟩ hq
  · rcases g2.new l2 z with f | e5
    · exact (g0.ok.F l2 f).2 hl2
    · have : (upd W.H l2 (.lst [.int 0])) l2 = none := e5
      rw [upd_same] at this
      cases this
  · show (upd W2.H p0 _) p = _
    rw [upd_ne m2, hp2, rps_ints hr]
  · show (upd W2.H p0 _) l2 = _
    rw [upd_ne m1]; exact h2
end
def sp_deal (K : PySem.W.Frag) : Sp := fun vs H Q _ => ∃ (a : Addr) (ns : List Int) (W : Wo), vs = [.ref a] ∧ W.H = H ∧ Good ef0 W ∧ SqL K H a (ns.map V.int) ∧ ns.length ≤ 63 ∧ ∀ v W', Gw ef0 W W' → W'.n = W.n → NewDeal W W' v → Q v W'.H
def sp_law (K : PySem.W.Frag) : Sp := fun vs H Q _ => ∃ (a : Addr) (ns : List Int), vs = [.ref a] ∧ SqL K H a (ns.map V.int) ∧ ns.length ≤ 63 ∧ ∀ H', Q (.bl true) H'
theorem cast_n {α : Type} {w : WP α} {n : Nat} {Q : Nat → α → Prop} (e : n = 0) (h : w.run 0 Q) : w.run n Q := e ▸ h
/-- deal = _law_deal(script) -/
theorem q_deal {K : PySem.W.Frag} {σ : L2.St} {W : Wo} {E : XK} {i j : Nat} {a : Addr} {ns : List Int} {D : Ends} {tz : TS} (hv : σ[i]? = some (some (.ref a))) (h : SqL K W.H a (ns.map V.int)) (hl : ns.length ≤ 63) (g : Good ef0 W) (hn : W.n = 0)
    (q : ∀ d W1, Good (efD d) W1 → W1.n = 0 → tz D (σ.set j (some (.ref d.p))) W1.H) : tSeq (tAsg (tCall (sp_deal K) [] E (tCons (tVar i) tNil)) (gName j)) tz D σ W.H :=
  ⟨_, hv, a, ns, W, rfl, rfl, g, h, hl, fun v W' g' hn' nd => by
    obtain ⟨d, e1, gd⟩ := nd.good g'.ok (hn'.trans hn)
    subst e1
    exact q d W' gd (hn'.trans hn)⟩
end Y

/-! lists and tuples of things of different kinds; freezing -/
namespace Y
open PySem PySem.Spec PyProof.Rows L2
@[ext] structure HL2 (α0 α1 : Type) where
  a : α0
  b : α1
instance {α0 α1 : Type} [PyI α0] [PyI α1] : PyI (HL2 α0 α1) := ⟨fun W c v => ∃ p x0 x1, v = .ref p ∧ W.F p ∧ W.H p = some (.lst [x0, x1]) ∧ Rp W c.a x0 ∧ Rp W c.b x1, fun t ⟨p, x0, x1, e1, f, e2, h0, h1⟩ => ⟨p, x0, x1, e1, t.f _ f, t.c _ _ f e2, PyI.st t h0, PyI.st t h1⟩⟩
instance {α0 α1 : Type} [Inhabited α0] [Inhabited α1] : Inhabited (HL2 α0 α1) := ⟨⟨default, default⟩⟩
@[ext] structure HL3 (α0 α1 α2 : Type) where
  a : α0
  b : α1
  c : α2
instance {α0 α1 α2 : Type} [PyI α0] [PyI α1] [PyI α2] : PyI (HL3 α0 α1 α2) := ⟨fun W c v => ∃ p x0 x1 x2, v = .ref p ∧ W.F p ∧ W.H p = some (.lst [x0, x1, x2]) ∧ Rp W c.a x0 ∧ Rp W c.b x1 ∧ Rp W c.c x2, fun t ⟨p, x0, x1, x2, e1, f, e2, h0, h1, h2⟩ => ⟨p, x0, x1, x2, e1, t.f _ f, t.c _ _ f e2, PyI.st t h0, PyI.st t h1, PyI.st t h2⟩⟩
instance {α0 α1 α2 : Type} [Inhabited α0] [Inhabited α1] [Inhabited α2] : Inhabited (HL3 α0 α1 α2) := ⟨⟨default, default, default⟩⟩
@[ext] structure HL4 (α0 α1 α2 α3 : Type) where
  a : α0
  b : α1
  c : α2
  d : α3
instance {α0 α1 α2 α3 : Type} [PyI α0] [PyI α1] [PyI α2] [PyI α3] : PyI (HL4 α0 α1 α2 α3) := ⟨fun W c v => ∃ p x0 x1 x2 x3, v = .ref p ∧ W.F p ∧ W.H p = some (.lst [x0, x1, x2, x3]) ∧ Rp W c.a x0 ∧ Rp W c.b x1 ∧ Rp W c.c x2 ∧ Rp W c.d x3, fun t ⟨p, x0, x1, x2, x3, e1, f, e2, h0, h1, h2, h3⟩ => ⟨p, x0, x1, x2, x3, e1, t.f _ f, t.c _ _ f e2, PyI.st t h0, PyI.st t h1, PyI.st t h2, PyI.st t h3⟩⟩
instance {α0 α1 α2 α3 : Type} [Inhabited α0] [Inhabited α1] [Inhabited α2] [Inhabited α3] : Inhabited (HL4 α0 α1 α2 α3) := ⟨⟨default, default, default, default⟩⟩
@[ext] structure T4 (α0 α1 α2 α3 : Type) where
  a : α0
  b : α1
  c : α2
  d : α3
instance {α0 α1 α2 α3 : Type} [PyI α0] [PyI α1] [PyI α2] [PyI α3] : PyI (T4 α0 α1 α2 α3) := ⟨fun W c v => ∃ p x0 x1 x2 x3, v = .ref p ∧ W.H p = some (.tup [x0, x1, x2, x3]) ∧ Rp W c.a x0 ∧ Rp W c.b x1 ∧ Rp W c.c x2 ∧ Rp W c.d x3, fun t ⟨p, x0, x1, x2, x3, e1, e2, h0, h1, h2, h3⟩ => ⟨p, x0, x1, x2, x3, e1, t.t _ _ e2, PyI.st t h0, PyI.st t h1, PyI.st t h2, PyI.st t h3⟩⟩
instance {α0 α1 α2 α3 : Type} [Inhabited α0] [Inhabited α1] [Inhabited α2] [Inhabited α3] : Inhabited (T4 α0 α1 α2 α3) := ⟨⟨default, default, default, default⟩⟩
@[ext] structure T5 (α0 α1 α2 α3 α4 : Type) where
  a : α0
  b : α1
  c : α2
  d : α3
  e : α4
instance {α0 α1 α2 α3 α4 : Type} [PyI α0] [PyI α1] [PyI α2] [PyI α3] [PyI α4] : PyI (T5 α0 α1 α2 α3 α4) := ⟨fun W c v => ∃ p x0 x1 x2 x3 x4, v = .ref p ∧ W.H p = some (.tup [x0, x1, x2, x3, x4]) ∧ Rp W c.a x0 ∧ Rp W c.b x1 ∧ Rp W c.c x2 ∧ Rp W c.d x3 ∧ Rp W c.e x4, fun t ⟨p, x0, x1, x2, x3, x4, e1, e2, h0, h1, h2, h3, h4⟩ => ⟨p, x0, x1, x2, x3, x4, e1, t.t _ _ e2, PyI.st t h0, PyI.st t h1, PyI.st t h2, PyI.st t h3, PyI.st t h4⟩⟩
instance {α0 α1 α2 α3 α4 : Type} [Inhabited α0] [Inhabited α1] [Inhabited α2] [Inhabited α3] [Inhabited α4] : Inhabited (T5 α0 α1 α2 α3 α4) := ⟨⟨default, default, default, default, default⟩⟩
/-- a new list frozen at once -/
theorem ew_frz {α : Type} [PyI α] {e : Ef} {σ : L2.St} {W : Wo} {te : TE} {w : WP (List α)} (h : EvW e te σ W (sN (kL α)) w) : EvW e te σ W sI (w.bind fun xs => WP.pure (⟨xs⟩ : Ls α)) := fun W1 g Q q => h W1 g Q (w.mono (fun n xs hq v W2 g2 hn ⟨fp, ⟨p, vs, e1, e2, hp, hr⟩, hf⟩ => by
  subst e1
  have m := hf p (List.mem_singleton.mpr rfl)
  have gf := Gw.frz (fp := [p]) g.ok g2 (fun a ma => by cases mem_one ma; exact m.1) (fun a ma => by cases mem_one ma; exact some_ne hp)
  exact hq v (W2.frz [p]) gf hn ⟨p, vs, e2, .inr (List.mem_singleton.mpr rfl), hp, Rps.st St.frz hr⟩) q)
theorem Var.frzd {κ : Type} {k : Kd κ} {W0 W : Wo} {fp fq : List Addr} {x : κ} {v : V} (h : Var k W0 W fq x v) (d : ∀ b ∈ fq, b ∉ fp) : Var k W0 (W.frz fp) fq x v :=
  ⟨k.st St.frz (fun _ _ _ q => q) h.own, h.fr, fun a m f => f.elim (h.nF a m) (d a m)⟩
end Y

/-! None or a value; dicts asked; isinstance -/
namespace Y
open PySem PySem.Spec PyProof.Rows L2
/-- never None -/
class NN (α : Type) [PyI α] : Prop where
  nn : ∀ {W : Wo} {a : α} {v : V}, Rp W a v → v ≠ .non
instance : NN Int := ⟨fun h z => by cases h; cases z⟩
instance : NN Bool := ⟨fun h z => by cases h; cases z⟩
instance : NN Str := ⟨fun h z => by cases h; cases z⟩
instance {α β : Type} [PyI α] [PyI β] : NN (α × β) := ⟨fun ⟨p, x, y, h1, _⟩ z => by rw [h1] at z; cases z⟩
instance {α : Type} [PyI α] : NN (List α) := ⟨fun ⟨p, vs, h1, _⟩ z => by rw [h1] at z; cases z⟩
instance {α : Type} [PyI α] : NN (Ls α) := ⟨fun ⟨p, vs, h1, _⟩ z => by rw [h1] at z; cases z⟩
instance {α β γ : Type} [PyI α] [PyI β] [PyI γ] : NN (Tri α β γ) := ⟨fun ⟨p, x, y, w, h1, _⟩ z => by rw [h1] at z; cases z⟩
instance {α β : Type} [PyI α] [PyI β] : NN (HL2 α β) := ⟨fun ⟨p, x, y, h1, _⟩ z => by rw [h1] at z; cases z⟩
namespace WP
variable {α β γ : Type}
abbrev isN (w : WP (Option α)) : WP Bool := w.bind fun o => pure o.isNone
abbrev the (w : WP (Option α)) [Inhabited α] : WP α := w.bind fun o => req (o.isSome = true) (o.getD default)
abbrev look (d : WP (List (Sq × β))) (q : WP Sq) : WP (Option β) := b2 d q fun d x => pure (lookK d x)
abbrev keys (d : WP (List (Sq × β))) : WP (List Sq) := d.bind fun d => pure (d.map (·.1))
end WP
section
variable {α β γ : Type} {K : PySem.W.Frag} {e : Ef} {σ : L2.St} {W : Wo} {ta tb te tc td ty tx : TE} {t u : TT} {i j k m n : Nat} {v : V}
theorem ew_isib_bool {w : WP Bool} (h : EvW e te σ W sI w) : EvW e (tCB (rIsi K) (tCons te (tCons (tC (.ty "bool")) tNil))) σ W sI (w.bind fun _ => WP.pure true) := fun W1 g Q q => h W1 g _ (w.mono (fun n z hq v W2 g2 hn r => by
  cases r
  exact ⟨_, _, _, _, true, rfl, .ty _, .base (.bl z), kit_ty (by decide +kernel), hq _ W2 g2 hn rfl⟩) q)
end
end Y

/-! texts gone through, written and read numbers, all and any, least and greatest of a list, copies -/
namespace Y
open PySem PySem.Spec PyProof.Rows L2
def signs (z : Str) : List Str := z.cps.toList.map fun c => ⟨#[c]⟩
namespace WP
variable {α β γ : Type}
abbrev int' (w : WP Str) : WP Int := w.bind fun a => req ((PySem.intText? a).isSome = true ∧ a.length ≤ 640) ((PySem.intText? a).getD 0)
abbrev str' (w : WP Int) : WP Str := w.bind fun i => req (i.natAbs.log2 < 1920) (toString i : Str)
abbrev index (w z : WP Str) : WP Int := b2 w z fun a b => req ((Txt.index0 a b).isSome = true) (((Txt.index0 a b).getD 0 : Nat) : Int)
abbrev all (w : WP (List Bool)) : WP Bool := w.bind fun bs => pure (bs.all id)
abbrev signs (w : WP Str) : WP (List Str) := w.bind fun z => pure (Y.signs z)
end WP
section
variable {α β γ s : Type} {X : Cx} {K : PySem.W.Frag} {e : Ef} {σ : L2.St} {W : Wo} {ta tb te tc tl to : TE} {t u : TT} {i j k m n : Nat} {v : V} {vs0 : List Nat} {g : TG} {D : Ends} {tu tz : TS} {R : Nat → β → Prop}
theorem ew_int' {w : WP Str} (ha : EvW e ta σ W sI w) : EvW e (tCB (fun xs H Q => ∃ a n, xs = [.str a] ∧ PySem.intText? a = some n ∧ a.length ≤ 640 ∧ Q (.int n) H) (tCons ta tNil)) σ W sI (WP.int' w) := ew_cb1 ha fun W1 W2 z x g r Q q => by
  cases r
  obtain ⟨⟨h1, h2⟩, q⟩ := q
  obtain ⟨n, hn⟩ := Option.isSome_iff_exists.mp h1
  exact ⟨z, n, rfl, hn, h2, q _ W2 (Gw.refl g.ok) rfl (by rw [hn]; exact rfl)⟩
theorem ew_str' {w : WP Int} (ha : EvW e ta σ W sI w) : EvW e (tCB (fun xs H Q => ∃ i, xs = [.int i] ∧ i.natAbs.log2 < 1920 ∧ Q (.str (toString i)) H) (tCons ta tNil)) σ W sI (WP.str' w) := ew_cb1 ha fun W1 W2 z x g r Q q => by
  cases r
  exact ⟨z, rfl, q.1, q.2 _ W2 (Gw.refl g.ok) rfl rfl⟩
/-- list(xs) -/
abbrev rListOf (K : PySem.W.Frag) : List V → Hp → VK → Prop := fun xs H Q => ∃ p ys, xs = [.ref p] ∧ (SqL K H p ys ∨ SqT K H p ys) ∧ ∀ l, H l = none → Q (.ref l) (upd H l (.lst ys))
theorem ew_copy [PyI α] {w : WP (List α)} (ha : EvW e ta σ W (sR (kL α)) w) : EvW e (tCB (rListOf K) (tCons ta tNil)) σ W (sN (kL α)) (w.bind fun xs => WP.pure (α := List α) xs) := ew_cb1 ha fun W1 W2 xs x g ⟨_, ⟨p, vs, _, h1, h2, h3⟩, _⟩ Q q => by
  subst h1
  exact ⟨p, vs, rfl, .inl (SqL.of h2), fun l hl => q _ _ (Gw.alloc g.ok hl) rfl (new_L (Gw.refl g.ok) hl h3)⟩
/-- xs[::-1] -/
theorem ew_revL [PyI α] {w : WP (List α)} (ha : EvW e ta σ W (sR (kL α)) w) : EvW e (tRevL K ta) σ W (sN (kL α)) (w.bind fun xs => WP.pure xs.reverse) := fun W1 g Q q => ha W1 g _ (w.mono (fun n xs hq v W2 g2 hn ⟨_, ⟨p, vs, _, h1, h2, h3⟩, _⟩ => by
  subst h1; subst hn
  exact ⟨p, vs, rfl, SqL.of h2, fun l hl => hq _ _ (g2.al hl) rfl (new_L g2 hl h3.revA)⟩) q)
/-- s.index(y) -/
abbrev rIndex0 : V → List V → Hp → VK → Prop := fun x xs H Q => ∃ (a b : Str) (k : Nat), x = .str a ∧ xs = [.str b] ∧ Txt.index0 a b = some k ∧ Q (.int (k : Nat)) H
theorem mt_index : MtR X "str.index" rIndex0 := by
  intro pins s σ H x xs v us Q I rx rs h
  obtain ⟨a, b, k, rfl, rfl, hk, hq⟩ := h
  obtain ⟨t, rfl⟩ := rx
  cases rs with
  | cons r1 rs =>
    cases rs
    obtain ⟨u, rfl⟩ := r1
    cases q : Builtin.Str.occurrences a b 0 a.length 1 with
    | nil =>
      unfold Txt.index0 at hk
      rw [q] at hk
      cases hk
    | cons k' rest =>
      have e1 : k' = k := by
        unfold Txt.index0 at hk
        rw [q] at hk
        exact Option.some.inj hk
      subst e1
      exact PySem.SC.index q ⟨.int (k' : Nat), H, I.tok _, ⟨_, rfl⟩, hq⟩
theorem ew_index {w1 w2 : WP Str} (ho : EvW e to σ W sI w1) (h : EvW e te σ W sI w2) : EvW e (tM1 rIndex0 to te) σ W sI (WP.index w1 w2) := fun W1 g Q q =>
  ho W1 g _ (w1.mono (fun n a hq x W2 g2 hn r1 => by
    subst hn; cases r1
    refine ⟨⟨a, rfl⟩, h W2 (g.trans g2) _ (w2.mono (fun n b hq y W3 g3 hn r => ?_) hq)⟩
    cases r
    obtain ⟨k, hk⟩ := Option.isSome_iff_exists.mp hq.1
    exact ⟨a, b, k, rfl, rfl, hk, hq.2 _ W3 (g2.trans g3) hn (by rw [hk]; exact rfl)⟩) q)
end
end Y

/-! defs handed over as arguments -/
namespace Y
open PySem PySem.Spec PyProof.Rows L2
/-- a def at its address that keeps its promise -/
structure CalAt (P : Program) (w : World) (K : PySem.W.Frag) (mg : Str → Option Value) (base : Heap) (k : Nat) (f : Addr) (sp : Sp) : Prop where
  ex : ∃ (fd : FuncData) (ps : List Str), FnOk P w K mg base CX0 k f fd ps sp ∧ PySem.W.keepIn K (.ref f) = true ∧ Binds K fd ps []
section
variable {α β γ φ : Type} {K : PySem.W.Frag} {e : Ef} {σ : L2.St} {W : Wo} {E : XK} {t0 t1 : TE} {ta : TA} {i : Nat} {f : Addr} {sp : Sp}
end
section
variable {α β γ s : Type} {K : PySem.W.Frag} {e : Ef} {σ : L2.St} {W : Wo} {tl : TE} {D : Ends} {tu tz : TS} {R : Nat → β → Prop}
theorem st_forF [PyI α] {gt : TG} {T : α → Wo → L2.St → L2.St → Prop} (ht : Tk gt T) {w : WP (Ls α)} {body : α → s → WP (Ctl s γ)} {f : s → WP β} {r : γ → WP β} {x0 : s} (h : EvW e tl σ W sI w) (g : Good e W) (hm : ((w.bind fun x => WP.pure x.l).bind fun xs => WP.after (WP.loop body xs x0) f r).run W.n R)
    (q : ∀ (xs : List α) W1, Gw e W W1 → ∃ INV : s → L2.St → Wo → Prop, INV x0 σ W1 ∧ (∀ y σ' W', INV y σ' W' → St W1 W') ∧ Turn INV body r R D tu T ∧ ∀ y σ' W', INV y σ' W' → (f y).run W'.n R → D.nx σ' W'.H) : tFor (iList K tl) gt tu D σ W.H :=
  h W (Gw.refl g) _ (w.mono (fun n xs hm v W1 g1 hn ⟨p, vs, e2, hF, hp, hr⟩ => by
    subst hn; subst e2
    obtain ⟨INV, h0, keep, step, hd⟩ := q xs.l W1 g1
    obtain ⟨Pv, p0, pk, ps, pd⟩ := pv_loop (D := D) INV h0 hm hd
    refine ⟨p, rfl, ⟨vs, SqL.of hp⟩, for_list (xs := vs) Pv p0 (fun i σ' H' _ q => ?_) (fun i x σ' H' hi q => ?_) (by rw [← Paired.length hr]; exact pd)⟩
    · obtain ⟨y, W', e1, q'⟩ := pk i σ' H' q
      subst e1
      exact SqL.of ((keep y σ' W' q').c _ _ hF hp)
    · obtain ⟨a, ha, ra⟩ := hr.getV hi
      obtain ⟨y, W', R', e1, q1, q2, q3, q4, q5⟩ := ps i σ' H' a ha q
      subst e1
      exact ht a x W' σ' _ (PyI.st (keep y σ' W' q1) ra) fun s2 h2 => step a y σ' s2 W' R' _ h2 q1 q2 q3 q4 q5) hm)
theorem q_forF [PyI α] {gt : TG} {T : α → Wo → L2.St → L2.St → Prop} (ht : Tk gt T) {w : WP (Ls α)} {body : α → s → WP (Ctl s γ)} {f : s → WP β} {r : γ → WP β} {x0 : s} (h : EvW e tl σ W sI w) (g : Good e W) (hm : ((w.bind fun x => WP.pure x.l).bind fun xs => WP.after (WP.loop body xs x0) f r).run W.n R)
    (q : ∀ (xs : List α) W1, Gw e W W1 → ∃ INV : s → L2.St → Wo → Prop, INV x0 σ W1 ∧ (∀ y σ' W', INV y σ' W' → St W1 W') ∧ Turn INV body r R { D with nx := tz D } tu T ∧ ∀ y σ' W', INV y σ' W' → (f y).run W'.n R → tz D σ' W'.H) : tSeq (tFor (iList K tl) gt tu) tz D σ W.H := st_forF (D := { D with nx := tz D }) ht h g hm q
end
end Y

/-! rules that name the written part, for blocks of comprehensions -/
namespace Y
open PySem PySem.Spec PyProof.Rows L2
section
variable {X : Cx} {K : PySem.W.Frag}
theorem ix_tupK (h : X.K = K) : IxR X (rIxT K) := h ▸ ix_tup
theorem sl_tupAK (h : X.K = K) : SlR X (rSlA K) := h ▸ sl_tupA
theorem pi_listK {tg l : Expr} {tl : TE} (h : X.K = K) (hl : PE X l tl) : PI X tg l (iList K tl) := h ▸ pi_list hl
end
end Y

/-! == of data of any depth -/
namespace Y
open PySem PySem.Spec PyProof.Rows L2
class Dat (α : Type) [PyI α] where
  dat : α → PyData
  dp : ∀ {K : PySem.W.Frag} {W : Wo} {a : α} {v : V}, Rp W a v → Dp K W.H v (dat a)
open Dat (dat)
instance : Dat Int := ⟨fun i => .int i, fun h => by cases h; exact .int _⟩
instance : Dat Bool := ⟨fun i => .bool i, fun h => by cases h; exact .bl _⟩
instance : Dat Str := ⟨fun i => .str i, fun h => by cases h; exact .str _⟩
instance : Dat Unit := ⟨fun _ => .none, fun h => by cases h; exact .non⟩
instance {α : Type} [PyI α] [Dat α] : Dat (Option α) := ⟨fun o => match o with | none => .none | some a => dat a, fun {K W o v} h => by
  cases o with
  | none => cases h; exact .non
  | some a => exact Dat.dp h.2⟩
instance {α β : Type} [PyI α] [PyI β] [Dat α] [Dat β] : Dat (α × β) := ⟨fun c => .tuple [dat c.1, dat c.2], fun ⟨p, x, y, h1, h2, h3, h4⟩ => by subst h1; exact .tup (SqT.of h2) (.cons (Dat.dp h3) (.cons (Dat.dp h4) .nil))⟩
theorem dpAll {α : Type} [PyI α] [Dat α] {K : PySem.W.Frag} {W : Wo} {xs : List α} {vs : List V} (h : Rps W xs vs) : DpAll K W.H vs (xs.map dat) := by
  induction h with
  | nil => exact .nil
  | cons r t ih => exact .cons (Dat.dp r) ih
instance {α : Type} [PyI α] [Dat α] : Dat (List α) := ⟨fun xs => .tuple (xs.map dat), fun ⟨p, vs, h1, h2, h3⟩ => by subst h1; exact .tup (SqT.of h2) (dpAll h3)⟩
instance {α : Type} [PyI α] [Dat α] : Dat (Ls α) := ⟨fun xs => .list (xs.l.map dat), fun ⟨p, vs, h1, _, h2, h3⟩ => by subst h1; exact .lst (SqL.of h2) (dpAll h3)⟩
namespace WP
variable {α β : Type}
abbrev eqD [PyI α] [PyI β] [Dat α] [Dat β] (a : WP α) (b : WP β) : WP Bool := b2 a b fun x y => req (SeqAt.shaped (dat x) = true ∧ SeqAt.shaped (dat y) = true) (PyData.eqv (dat x) (dat y))
abbrev neD [PyI α] [PyI β] [Dat α] [Dat β] (a : WP α) (b : WP β) : WP Bool := b2 a b fun x y => req (SeqAt.shaped (dat x) = true ∧ SeqAt.shaped (dat y) = true) (!PyData.eqv (dat x) (dat y))
abbrev eqLD [PyI α] [PyI β] [Dat α] [Dat β] (a : WP (List α)) (b : WP (List β)) : WP Bool := b2 a b fun x y => req (SeqAt.shaped (.list (x.map dat)) = true ∧ SeqAt.shaped (.list (y.map dat)) = true) (PyData.eqv (.list (x.map dat)) (.list (y.map dat)))
end WP
section
variable {α β : Type} [PyI α] [PyI β] [Dat α] [Dat β] {K : PySem.W.Frag} {e : Ef} {σ : L2.St} {W : Wo} {ta tb : TE}
theorem ew_eqD {w1 : WP α} {w2 : WP β} (ha : EvW e ta σ W sI w1) (hb : EvW e tb σ W sI w2) : EvW e (tOp (rEqD K) ta tb) σ W sI (WP.eqD w1 w2) :=
  ew_op2 ha hb fun W2 a b x y r1 r2 hc Q q => ⟨_, _, Dat.dp r1, Dat.dp r2, hc.1, hc.2, q _ _ (Same.refl _) rfl⟩
theorem ew_neD {w1 : WP α} {w2 : WP β} (ha : EvW e ta σ W sI w1) (hb : EvW e tb σ W sI w2) : EvW e (tOp (rNeD K) ta tb) σ W sI (WP.neD w1 w2) :=
  ew_op2 ha hb fun W2 a b x y r1 r2 hc Q q => ⟨_, _, Dat.dp r1, Dat.dp r2, hc.1, hc.2, q _ _ (Same.refl _) rfl⟩
/-- of lists that may be read -/
theorem ew_eqLD {w1 : WP (List α)} {w2 : WP (List β)} (ha : EvW e ta σ W (sR (kL α)) w1) (hb : EvW e tb σ W (sR (kL β)) w2) : EvW e (tOp (rEqD K) ta tb) σ W sI (WP.eqLD w1 w2) :=
  ew_op ha hb fun W1 W2 xs ys x y g ⟨_, ⟨p, vs, _, h1, h2, h3⟩, _⟩ ⟨_, ⟨p', ws, _, q1, q2, q3⟩, _⟩ Q q => by
    subst h1; subst q1
    exact ⟨_, _, .lst (SqL.of h2) (dpAll h3), .lst (SqL.of q2) (dpAll q3), q.1.1, q.1.2, q.2 _ W2 (Gw.refl g.ok) rfl rfl⟩
end
section
variable {X : Cx} {K : PySem.W.Frag}
theorem op_eqDK (h : X.K = K) (hu : X.A.units + 64 < cLine) : OpR X (compareOp .Eq) (rEqD K) := h ▸ op_eqD hu
theorem op_neDK (h : X.K = K) (hu : X.A.units + 64 < cLine) : OpR X (compareOp .NotEq) (rNeD K) := h ▸ op_neD hu
end
end Y

/-! sources of items, and comprehensions of two clauses -/
namespace Y
open PySem PySem.Spec PyProof.Rows L2
section
variable {α β γ : Type} {K : PySem.W.Frag} {e : Ef} {σ : L2.St} {W W2 : Wo} {Bs : Addr → Prop} {ta tb te tl : TE} {t u : TT} {i j k m n : Nat} {v : V} {g g1 : TG} {vs0 vs1 : List Nat}
end
namespace WP
variable {α β γ : Type}
end WP
/-- the new list at Dl holds ys, all else has grown since W2 -/
structure Acc {γ : Type} [PyI γ] (e : Ef) (Dl : Addr) (W2 W' : Wo) (ys : List γ) : Prop where
  g : Gw e W2 W'
  h : ∃ vs', W'.H Dl = some (.lst vs') ∧ Rps W' ys vs'
  f : ¬ W'.F Dl
theorem Acc.go {γ : Type} [PyI γ] {e : Ef} {Dl : Addr} {W2 W' W3 : Wo} {ys : List γ} (o : Acc e Dl W2 W' ys) (nS : ¬ e.S Dl) (g : Gw e W' W3) : Acc e Dl W2 W3 ys := by
  obtain ⟨vs', h1, h2⟩ := o.h
  exact ⟨o.g.trans g, ⟨vs', g.keep _ _ h1 nS, Rps.st g.st h2⟩, fun z => (g.new Dl z).elim o.f (some_ne h1)⟩
theorem Acc.snoc {γ : Type} [PyI γ] {e : Ef} {Dl : Addr} {W2 W' : Wo} {ys : List γ} {y : γ} {v : V} (o : Acc e Dl W2 W' ys) (hg : Good e W2) (hD : W2.H Dl = none) (r : Rp W' y v) : ∃ vs', W'.H Dl = some (.lst vs') ∧ vs'.length = ys.length ∧ Acc e Dl W2 (W'.set Dl (.lst (vs' ++ [v]))) (ys ++ [y]) ∧ St W' (W'.set Dl (.lst (vs' ++ [v]))) := by
  obtain ⟨vs', h1, h2⟩ := o.h
  have s := St.mut (u := .lst (vs' ++ [v])) h1 (fun _ z => by cases z) o.f
  exact ⟨vs', h1, (Paired.length h2).symm, ⟨Gw.mut hg o.g hD h1 (fun _ z => by cases z) o.f, ⟨_, upd_same, Paired.snoc (Rps.st s h2) (PyI.st s r)⟩, o.f⟩, s⟩
section
variable {α β γ : Type} [PyI γ] {K : PySem.W.Frag} {e : Ef} {σ : L2.St} {W W2 : Wo} {ta tb te tl : TE} {t t1 : TT} {i j k m n : Nat} {v : V} {g g1 : TG} {vs0 vs1 : List Nat} {wi wi1 : TI}
end
end Y

/-! comprehensions whose items are new lists -/
namespace Y
open PySem PySem.Spec PyProof.Rows L2
section
variable {α β γ : Type} {K : PySem.W.Frag} {e : Ef} {σ : L2.St} {W W2 : Wo} {ta tb te tc tl : TE} {t u : TT} {i j k m n : Nat} {v : V} {g : TG} {vs0 : List Nat} {wi : TI}
end
end Y

/-! data in lists; lists and tuples repeated -/
namespace Y
open PySem PySem.Spec PyProof.Rows L2
open Dat (dat)
theorem hu65 {A : Around} {k : Nat} (hr : Room k A) : A.units + 65 < cLine := by have := hr.un; omega
namespace WP
variable {α β : Type}
abbrev rep (a : WP (List α)) (b : WP Int) : WP (List α) := b2 a b fun xs k => req (-1000000 ≤ k ∧ k ≤ 1000000 ∧ xs.length * k.toNat ≤ 100000) (List.replicate k.toNat xs).flatten
end WP
section
variable {α β : Type} [PyI α] [PyI β] {K : PySem.W.Frag} {e : Ef} {σ : L2.St} {W : Wo} {ta tb : TE}
end
section
variable {X : Cx} {K : PySem.W.Frag}
end
end Y

namespace Y
open PySem PySem.Spec PyProof.Rows L2
open Sem (wp)
section
variable {prog : Program} {w : World} {A : Around} {E : Value → Shared → Prop} {s : Shared}
end
section
variable {X : Cx}
end
end Y

/-! range(a, b) -/
namespace Y
open PySem PySem.Spec PyProof.Rows L2
section
variable {α β γ s : Type} {K : PySem.W.Frag} {e : Ef} {σ : L2.St} {W : Wo} {ta tb : TE} {j : Nat} {D : Ends} {tu tz : TS} {R : Nat → β → Prop} {Bs : Addr → Prop}
end
end Y

/-! texts repeated, a sign in a text, isinstance of any data, defs of no argument -/
namespace Y
open PySem PySem.Spec PyProof.Rows L2
namespace WP
abbrev b0 {γ : Type} (m : WP γ) : WP γ := m
end WP
section
variable {α β γ s : Type} {K : PySem.W.Frag} {e : Ef} {σ : L2.St} {W : Wo} {ta tb te : TE}
/-- the class of data -/
class TyN (α : Type) [PyI α] where
  nm : String
  ty : ∀ {K : PySem.W.Frag} {W : Wo} {a : α} {v : V}, Rp W a v → TyX K W.H v (.type nm)
instance : TyN Int := ⟨"int", fun h => by cases h; exact .base (.int _)⟩
instance : TyN Bool := ⟨"bool", fun h => by cases h; exact .base (.bl _)⟩
instance : TyN Str := ⟨"str", fun h => by cases h; exact .base (.str _)⟩
instance : TyN Unit := ⟨"NoneType", fun h => by cases h; exact .base .non⟩
instance {α β : Type} [PyI α] [PyI β] : TyN (α × β) := ⟨"tuple", fun ⟨p, x, y, h1, h2, _⟩ => by subst h1; exact .base (.tup h2)⟩
instance {α β γ : Type} [PyI α] [PyI β] [PyI γ] : TyN (Tri α β γ) := ⟨"tuple", fun ⟨p, x, y, z, h1, h2, _⟩ => by subst h1; exact .base (.tup h2)⟩
instance {α : Type} [PyI α] : TyN (List α) := ⟨"tuple", fun ⟨p, vs, h1, h2, _⟩ => by subst h1; exact .base (.tup h2)⟩
instance {α : Type} [PyI α] : TyN (Ls α) := ⟨"list", fun ⟨p, vs, h1, _, h2, _⟩ => by subst h1; exact .base (.lst h2)⟩
end
section
variable {X : Cx}
end
end Y

/-! dicts gone through: they are frozen for good; defs that return a dict or None; comprehensions of one clause over any source -/
namespace Y
open PySem PySem.Spec PyProof.Rows L2
/-- a frozen dict, as data -/
structure Fd (β : Type) where
  kvs : List (Sq × β)
instance {β : Type} [PyI β] : PyI (Fd β) := ⟨fun W d v => ∃ p ks od, v = .ref p ∧ W.F p ∧ W.H p = some (.frz od (.dT ks)) ∧ Paired (Kv W) d.kvs ks, fun t ⟨p, ks, od, h1, h2, h3, h4⟩ => ⟨p, ks, od, h1, t.f p h2, t.c p _ h2 h3, Paired.imp (fun a b h => ⟨h.1, PyI.st t h.2⟩) h4⟩⟩
instance {β : Type} [PyI β] : NN (Fd β) := ⟨fun ⟨p, ks, od, h1, _⟩ z => by rw [h1] at z; cases z⟩
def tFrz (t : TS) : TS := fun D σ H => ∃ d u, H d = some u ∧ Mut (some u) ∧ ∀ od, t D σ (upd H d (.frz od u))
theorem ps_frz {X : Cx} {st : Stmt} {t : TS} (h : PS X st t) : PS X st (tFrz t) := by
  refine ⟨fun pins s σ H D I hw => ?_⟩
  obtain ⟨d, u, hd, mu, hw⟩ := hw
  obtain ⟨od, I1⟩ := I.lock hd mu
  exact h.run pins s σ _ _ I1 (hw od)
section
variable {α β γ s : Type} [PyI β] {K : PySem.W.Frag} {e : Ef} {σ : L2.St} {W W0 : Wo} {ta tb te tl td : TE} {t : TS} {tt : TT} {i j k m n : Nat} {v : V} {D : Ends} {tz tu : TS} {R : Nat → γ → Prop} {g : TG} {vs0 : List Nat} {wi : TI} {fp : List Addr} {Bs : Addr → Prop}
namespace WP
end WP
end
section
variable {α β γ : Type} {K : PySem.W.Frag} {e : Ef} {σ : L2.St} {W W2 : Wo} {ta tb te tc tl : TE} {t u : TT} {i j k m n : Nat} {v : V} {g : TG} {vs0 : List Nat} {wi : TI}
end
end Y

/-! list of a text, extend, xs[i] = v, len of a pair -/
namespace Y
open PySem PySem.Spec PyProof.Rows L2
section
variable {α β γ s : Type} {K : PySem.W.Frag} {e : Ef} {σ : L2.St} {W W0 : Wo} {ta tb te tc tl : TE} {i j k m n : Nat} {v : V} {D : Ends} {tz : TS} {R : Nat → γ → Prop} {fp : List Addr}
namespace WP
end WP
namespace WP
end WP
end
end Y

namespace Y
open PySem PySem.Spec L2
section
variable {α β γ δ s ρ' : Type} {K : PySem.W.Frag} {e : Ef} {σ : L2.St} {W : Wo} {ta tb te tc tl : TE} {t u : TT} {i j k m n : Nat} {v : V} {D : Ends} {tu tw tz : TS} {ρ : Rs e α} {w : WP α} {R : Nat → β → Prop}
/-- the names' values, told plainly -/
theorem norm_st {t : TS} {D : Ends} {σ σ' : L2.St} {H : Hp} (h : σ = σ') (g : t D σ' H) : t D σ H := h ▸ g
end
end Y

/-! data of any kind (one type for all of it), code that is never reached -/
namespace Y
open PySem PySem.Spec PyProof.Rows L2
open Dat (dat)
mutual
inductive RD (W : Wo) : PyData → V → Prop where
  | int (i : Int) : RD W (.int i) (.int i)
  | bl (b : Bool) : RD W (.bool b) (.bl b)
  | str (s : Str) : RD W (.str s) (.str s)
  | non : RD W .none .non
  | tup {p : Addr} {vs : List V} {xs : List PyData} (h : W.H p = some (.tup vs)) (r : RDs W xs vs) : RD W (.tuple xs) (.ref p)
  | lst {p : Addr} {vs : List V} {xs : List PyData} (f : W.F p) (h : W.H p = some (.lst vs)) (r : RDs W xs vs) : RD W (.list xs) (.ref p)
inductive RDs (W : Wo) : List PyData → List V → Prop where
  | nil : RDs W [] []
  | cons {d : PyData} {v : V} {ds : List PyData} {vs : List V} (h : RD W d v) (t : RDs W ds vs) : RDs W (d :: ds) (v :: vs)
end
mutual
theorem RD.st {W W' : Wo} (s : St W W') : ∀ {d : PyData} {v : V}, RD W d v → RD W' d v
  | _, _, .int i => .int i
  | _, _, .bl b => .bl b
  | _, _, .str z => .str z
  | _, _, .non => .non
  | _, _, .tup h r => .tup (s.t _ _ h) (RDs.st s r)
  | _, _, .lst f h r => .lst (s.f _ f) (s.c _ _ f h) (RDs.st s r)
theorem RDs.st {W W' : Wo} (s : St W W') : ∀ {ds : List PyData} {vs : List V}, RDs W ds vs → RDs W' ds vs
  | _, _, .nil => .nil
  | _, _, .cons h t => .cons (RD.st s h) (RDs.st s t)
end
mutual
theorem RD.dp {W : Wo} {K : PySem.W.Frag} : ∀ {d : PyData} {v : V}, RD W d v → Dp K W.H v d
  | _, _, .int i => .int i
  | _, _, .bl b => .bl b
  | _, _, .str z => .str z
  | _, _, .non => .non
  | _, _, .tup h r => .tup (SqT.of h) (RDs.dp r)
  | _, _, .lst _ h r => .lst (SqL.of h) (RDs.dp r)
theorem RDs.dp {W : Wo} {K : PySem.W.Frag} : ∀ {ds : List PyData} {vs : List V}, RDs W ds vs → DpAll K W.H vs ds
  | _, _, .nil => .nil
  | _, _, .cons h t => .cons (RD.dp h) (RDs.dp t)
end
instance : PyI PyData := ⟨RD, fun s h => RD.st s h⟩
instance : Dat PyData := ⟨id, fun h => RD.dp h⟩
instance : Inhabited PyData := ⟨.none⟩
class DR (α : Type) [PyI α] [Dat α] where
  dr : ∀ {W : Wo} {a : α} {v : V}, Rp W a v → RD W (dat a) v
instance : DR PyData := ⟨fun h => h⟩
instance : DR Int := ⟨fun h => by cases h; exact .int _⟩
instance : DR Bool := ⟨fun h => by cases h; exact .bl _⟩
instance : DR Str := ⟨fun h => by cases h; exact .str _⟩
instance : DR Unit := ⟨fun h => by cases h; exact .non⟩
instance {α : Type} [PyI α] [Dat α] [DR α] : DR (Option α) := ⟨fun {W o v} h => by
  cases o with
  | none => cases h; exact .non
  | some a => exact (DR.dr (a := a) h.2 : RD W (dat a) v)⟩
instance {α β : Type} [PyI α] [PyI β] [Dat α] [Dat β] [DR α] [DR β] : DR (α × β) := ⟨fun ⟨p, x, y, h1, h2, h3, h4⟩ => by subst h1; exact .tup h2 (.cons (DR.dr h3) (.cons (DR.dr h4) .nil))⟩
theorem drs {α : Type} [PyI α] [Dat α] [DR α] {W : Wo} {xs : List α} {vs : List V} (h : Rps W xs vs) : RDs W (xs.map dat) vs := by
  induction h with
  | nil => exact .nil
  | cons r t ih => exact .cons (DR.dr r) ih
instance {α : Type} [PyI α] [Dat α] [DR α] : DR (List α) := ⟨fun ⟨p, vs, h1, h2, h3⟩ => by subst h1; exact .tup h2 (drs h3)⟩
instance {α : Type} [PyI α] [Dat α] [DR α] : DR (Ls α) := ⟨fun ⟨p, vs, h1, f, h2, h3⟩ => by subst h1; exact .lst f h2 (drs h3)⟩
instance {α β γ : Type} [PyI α] [PyI β] [PyI γ] [Dat α] [Dat β] [Dat γ] : Dat (Tri α β γ) := ⟨fun c => .tuple [dat c.a, dat c.b, dat c.c], fun ⟨p, x, y, z, h1, h2, h3, h4, h5⟩ => by subst h1; exact .tup (SqT.of h2) (.cons (Dat.dp h3) (.cons (Dat.dp h4) (.cons (Dat.dp h5) .nil)))⟩
instance {α β γ : Type} [PyI α] [PyI β] [PyI γ] [Dat α] [Dat β] [Dat γ] [DR α] [DR β] [DR γ] : DR (Tri α β γ) := ⟨fun ⟨p, x, y, z, h1, h2, h3, h4, h5⟩ => by subst h1; exact .tup h2 (.cons (DR.dr h3) (.cons (DR.dr h4) (.cons (DR.dr h5) .nil)))⟩
namespace WP
end WP
section
variable {α : Type} {K : PySem.W.Frag} {e : Ef} {σ : L2.St} {W : Wo} {ta tb te : TE}
end
end Y

/-! sorted -/
namespace Y
open PySem PySem.Spec PyProof.Rows L2
namespace WP
end WP
section
variable {K : PySem.W.Frag} {e : Ef} {σ : L2.St} {W : Wo} {ta : TE}
end
end Y

/-! parts of a law: defs of the script that return True; a def handed on -/
namespace Y
open PySem PySem.Spec PyProof.Rows L2
open Dat (dat)
section
variable {X : Cx}
end
section
variable {α β : Type} [PyI α] [PyI β] {K : PySem.W.Frag} {e : Ef} {σ : L2.St} {W : Wo} {ta tb : TE}
end
end Y

/-! min and max of two alike data (two squares) -/
namespace Y
open PySem PySem.Spec PyProof.Rows L2
open PySem.W (dataLt AlikeAll iter_tupleW moved_old cmpIn_lt cmpIn_gt reads_keeps)
section
variable {prog : Program} {w : World} {A : Around} {E : Value → Shared → Prop} {s : Shared}
end
section
variable {X : Cx}
end
namespace WP
end WP
section
variable {K : PySem.W.Frag} {e : Ef} {σ : L2.St} {W : Wo} {ta tb : TE}
end
section
def TkT3 {α0 α1 α2 : Type} [PyI α0] [PyI α1] [PyI α2] (i0 i1 i2 : Nat) : (Tri α0 α1 α2) → Wo → L2.St → L2.St → Prop := fun a W σ s2 => ∃ x0 x1 x2, s2 = (((σ.set i0 (some x0)).set i1 (some x1)).set i2 (some x2)) ∧ Rp W a.a x0 ∧ Rp W a.b x1 ∧ Rp W a.c x2
theorem tk_T3 {α0 α1 α2 : Type} [PyI α0] [PyI α1] [PyI α2] {K : PySem.W.Frag} {i0 i1 i2 : Nat} : Tk (gTup K 3 (gCons (gName i0) (gCons (gName i1) (gCons (gName i2) gNil)))) (TkT3 (α0 := α0) (α1 := α1) (α2 := α2) i0 i1 i2) := fun a x W' σ' Q ⟨p, x0, x1, x2, h1, h2, h00, h01, h02⟩ q =>
  ⟨p, [x0, x1, x2], h1, SqT.of h2, rfl, x0, [x1, x2], rfl, x1, [x2], rfl, x2, [], rfl, rfl, q _ ⟨x0, x1, x2, rfl, h00, h01, h02⟩⟩
def TgT3 {α0 α1 α2 : Type} [PyI α0] [PyI α1] [PyI α2] (σ : L2.St) (vs0 : List Nat) (i0 i1 i2 : Nat) : (Tri α0 α1 α2) → Wo → L2.St → Prop := fun a W s2 => ∃ x0 x1 x2, s2 = ((((wipe σ vs0).set i0 (some x0)).set i1 (some x1)).set i2 (some x2)) ∧ Rp W a.a x0 ∧ Rp W a.b x1 ∧ Rp W a.c x2
theorem takes_T3 {α0 α1 α2 : Type} [PyI α0] [PyI α1] [PyI α2] {K : PySem.W.Frag} {σ : L2.St} {vs0 : List Nat} {i0 i1 i2 : Nat} : Takes (fun W a x => Rp W a x) (gTup K 3 (gCons (gName i0) (gCons (gName i1) (gCons (gName i2) gNil)))) σ vs0 (TgT3 (α0 := α0) (α1 := α1) (α2 := α2) σ vs0 i0 i1 i2) := fun a x W' Q ⟨p, x0, x1, x2, h1, h2, h00, h01, h02⟩ q =>
  ⟨p, [x0, x1, x2], h1, SqT.of h2, rfl, x0, [x1, x2], rfl, x1, [x2], rfl, x2, [], rfl, rfl, q _ ⟨x0, x1, x2, rfl, h00, h01, h02⟩⟩
end
section
variable {α : Type} [PyI α] {K : PySem.W.Frag} {e : Ef} {σ : L2.St} {W : Wo} {ta : TE}
end
instance {α : Type} : Inhabited (Ls α) := ⟨⟨[]⟩⟩
end Y

/-! a list that may be changed, or None -/
namespace Y
open PySem PySem.Spec PyProof.Rows L2
namespace WP
end WP
section
variable {α β γ s : Type} [PyI α] {K : PySem.W.Frag} {e : Ef} {σ : L2.St} {W W0 : Wo} {te : TE} {n : Nat} {v : V} {R : Nat → γ → Prop} {fp : List Addr}
end
end Y

/-! range(a, b, -1) -/
namespace Y
open PySem PySem.Spec PyProof.Rows L2
namespace WP
end WP
section
variable {α β γ s : Type} {K : PySem.W.Frag} {e : Ef} {σ : L2.St} {W : Wo} {ta tb tc : TE} {j : Nat} {D : Ends} {tu tz : TS} {R : Nat → β → Prop} {Bs : Addr → Prop}
end
end Y

/-! dicts whose keys are pairs of pairs: what the machine does with them -/
namespace Y
open PySem PySem.Spec PyProof.Rows L2
abbrev NRow := NestedKey × Addr × V
/-- what a value is, as a key -/
inductive NV (H : Hp) : NestedKey → V → Prop
  | non : NV H .none .non
  | int (i : Int) : NV H (.num i) (.int i)
  | str (s : Str) : NV H (.text s) (.str s)
  | pair {b : Addr} {k1 k2 : NestedKey} {y1 y2 : V} : H b = some (.tup [y1, y2]) → NV H k1 y1 → NV H k2 y2 → NV H (.tup [k1, k2]) (.ref b)
def NRel (p : NRow) (q : NestedKey × Addr × Value) : Prop := p.1 = q.1 ∧ p.2.1 = q.2.1 ∧ RelV p.2.2 q.2.2
def NdP (P : Program) (w : World) (a : Addr) (ks : List NRow) (h : Heap) : Prop :=
  ks.length ≤ sizeLine ∧ (a == sysModules) = false ∧ ∃ xs, Paired NRel ks xs ∧ ∃ o es ep, h.get? a = some o ∧ o.ExactDict ∧ o.data = .dict es ep ∧ es.toList = xs.map (entryOfKey (nestedKind P w)) ∧ (xs.map (·.1)).Nodup
def NdO (P : Program) (w : World) (a : Addr) (ks : List NRow) : HO := .ext (NdP P w a ks)
def KeysN (H : Hp) (ks : List NRow) : Prop := ∀ x ∈ ks, NV H x.1 (.ref x.2.1) ∧ x.1.depth ≤ 8
def valN (ks : List NRow) (k : NestedKey) : Option V := (ks.find? fun x => decide (x.1 = k)).map (·.2.2)
def putN (ks : List NRow) (k : NestedKey) (b : Addr) (v : V) : List NRow := if (valN ks k).isSome then ks.map fun x => if x.1 = k then (x.1, x.2.1, v) else x else ks ++ [(k, b, v)]
section
variable {P : Program} {w : World} {H : Hp} {h : Heap} {a : Addr}
theorem NV.is (ok : HOk P w H h) {k : NestedKey} {y : V} (n : NV H k y) : ∀ {u : Value}, RelV y u → NestedIs h k u := by
  induction n with
  | non => intro u r; cases (show u = Value.none from r); exact .none
  | int i => intro u r; obtain ⟨t, e⟩ := (show ∃ t, u = Value.int i t from r); rw [e]; exact .int i t
  | str s => intro u r; obtain ⟨t, e⟩ := (show ∃ t, u = Value.str s t from r); rw [e]; exact .text s t
  | @pair b k1 k2 y1 y2 hb _ _ ih1 ih2 =>
    intro u r
    cases (show u = Value.ref b from r)
    obtain ⟨_, its, rv, o, g1, g2, n, g3⟩ := (show ObjOk P w H h b (.tup [y1, y2]) from ok b _ hb)
    cases rv with
    | cons r1 t =>
      cases t with
      | cons r2 t2 =>
        cases t2
        exact .tup g1 g2 g3 (.cons (ih1 r1) (.cons (ih2 r2) .nil))
theorem NV.at {H' : Hp} (c : ∀ b xs, H b = some (.tup xs) → H' b = some (.tup xs)) {k : NestedKey} {y : V} (n : NV H k y) : NV H' k y := by
  induction n with
  | non => exact .non
  | int i => exact .int i
  | str s => exact .str s
  | pair hb _ _ ih1 ih2 => exact .pair (c _ _ hb) ih1 ih2
theorem ext_of (e : Rd H a (NdO P w a ks)) (ok : HOk P w H h) : NdP P w a ks h := (show ObjOk P w H h a (.ext (NdP P w a ks)) from e.ok ok).1
theorem nd_rd {ks : List NRow} (ok : HOk P w H h) (e : Rd H a (NdO P w a ks)) (hk : KeysN H ks) : ks.length ≤ sizeLine ∧ (a == sysModules) = false ∧ ∃ xs, Paired NRel ks xs ∧ h.DictOfH (nestedKind P w) a xs := by
  obtain ⟨z, y, xs, r, o, es, ep, h1, h2, h3, h4, h5⟩ := ext_of e ok
  refine ⟨z, y, xs, r, o, es, ep, h1, h2, h3, h4, ?_, h5⟩
  clear h4 h5 z e
  revert hk
  induction r with
  | nil => intro _ x hx; cases hx
  | @cons p q ps qs hq t ih =>
    intro hk x hx
    rcases List.mem_cons.mp hx with e2 | hx
    · subst e2
      have := hk p List.mem_cons_self
      rw [hq.1, hq.2.1] at this
      exact ⟨this.1.is ok rfl, this.2⟩
    · exact ih (fun x m => hk x (List.mem_cons_of_mem _ m)) x hx
theorem nd_new {h' : Heap} {ks : List NRow} {xs : List (NestedKey × Addr × Value)} (z : ks.length ≤ sizeLine) (hd : (a == sysModules) = false) (r : Paired NRel ks xs) (dd : h'.DictOfH (nestedKind P w) a xs) : ObjOk P w H h' a (NdO P w a ks) := by
  obtain ⟨o, es, ep, h1, h2, h3, h4, _, h5⟩ := dd
  refine ⟨⟨z, hd, xs, r, o, es, ep, h1, h2, h3, h4, h5⟩, ⟨o, h1⟩, ?_⟩
  rintro g1 g2 ⟨z, hd, xs, r, o, es, ep, h1, h2⟩ k
  exact ⟨z, hd, xs, r, o, es, ep, k _ h1, h2⟩
end
theorem NRel.val {ks : List NRow} {xs : List (NestedKey × Addr × Value)} (r : Paired NRel ks xs) (k : NestedKey) : RelO (valN ks k) ((atKey xs k).map (·.2)) := by
  induction r with
  | nil => exact True.intro
  | @cons p q ps qs h t ih =>
    obtain ⟨h1, h2, h3⟩ := h
    by_cases e : p.1 = k
    · have e' : q.1 = k := h1.symm.trans e
      have b1 : valN (p :: ps) k = some p.2.2 := by simp [valN, List.find?_cons, e]
      have b2 : atKey (q :: qs) k = some q.2 := by simp [atKey, List.find?_cons, e']
      rw [b1, b2]; exact h3
    · have e' : ¬ q.1 = k := fun z => e (h1.trans z)
      have b1 : valN (p :: ps) k = valN ps k := by simp [valN, List.find?_cons, e]
      have b2 : atKey (q :: qs) k = atKey qs k := by simp [atKey, List.find?_cons, e']
      rw [b1, b2]; exact ih
theorem NRel.put {ks : List NRow} {xs : List (NestedKey × Addr × Value)} (r : Paired NRel ks xs) (k : NestedKey) (b : Addr) {v : V} {u : Value} (rv : RelV v u) : Paired NRel (putN ks k b v) (storedH xs k b u) := by
  have e : (valN ks k).isSome = (atKey xs k).isSome := by rw [(NRel.val r k).isSome_eq, Option.isSome_map]
  unfold putN storedH
  rw [e]
  by_cases q : (atKey xs k).isSome = true
  · rw [if_pos q, if_pos q]
    clear e q
    induction r with
    | nil => exact .nil
    | @cons p q ps qs h t ih =>
      rw [List.map_cons, List.map_cons]
      refine .cons ?_ ih
      obtain ⟨h1, h2, h3⟩ := h
      unfold putAt
      by_cases e : p.1 = k
      · rw [if_pos e, if_pos (h1.symm.trans e)]; exact ⟨h1, h2, rv⟩
      · rw [if_neg e, if_neg (fun z => e (h1.trans z))]; exact ⟨h1, h2, h3⟩
  · rw [if_neg q, if_neg q]; exact Paired.snoc r ⟨rfl, rfl, rv⟩
theorem putN_len (ks : List NRow) (k : NestedKey) (b : Addr) (v : V) : (putN ks k b v).length ≤ ks.length + 1 := by
  unfold putN
  split
  · rw [List.length_map]; omega
  · rw [List.length_append, List.length_singleton]; omega
/-- reading and writing at a key -/
def NGet (P : Program) (w : World) (H : Hp) (a : Addr) (y : V) (r : Option V) : Prop := ∃ ks k b, Rd H a (NdO P w a ks) ∧ KeysN H ks ∧ y = .ref b ∧ NV H k (.ref b) ∧ k.depth ≤ 8 ∧ r = valN ks k
def NPut (P : Program) (w : World) (H : Hp) (a : Addr) (y v : V) (H' : Hp) : Prop := ∃ ks k b, H a = some (NdO P w a ks) ∧ KeysN H ks ∧ y = .ref b ∧ NV H k (.ref b) ∧ k.depth ≤ 8 ∧ ks.length < sizeLine ∧ H' = upd H a (NdO P w a (putN ks k b v))
section
variable {X : Cx} {pins : List (Addr × Obj)} {σ : L2.St} {H : Hp} {s : Shared} {a : Addr} {y v : V} {u r : Value} {o : Option V} {A : Around} {E : Value → Shared → Prop}
theorem nroom {A : Around} {P : Program} {w : World} (hu : A.units + 10 < cLine) : (nestedKind P w).room A.in1 := by
  show A.in1.units + 8 < cLine
  have : A.in1.units ≤ A.units + 1 := by simp [Around.in1]
  omega
theorem n_getItem {Q : Value → Shared → Prop} (hu : A.units + 10 < cLine) (I : Inv X pins σ H s) (g : NGet X.prog X.w H a y (some v)) (ry : RelV y u) (h : ∀ w' s', Inv X pins σ H s' → RelV v w' → Q w' s') : wpAny (model X.prog X.w) A (getItem (.ref a) u) Q E s := by
  obtain ⟨ks, k, b, e, hk, ey, nv, dp, l⟩ := g
  subst ey
  cases (show u = Value.ref b from ry)
  obtain ⟨z, hd, xs, rel, dd⟩ := nd_rd I.hok e hk
  obtain ⟨w', hw, rw'⟩ := RelO.some_of (v := v) (o := (atKey xs k).map (·.2)) (by rw [l]; exact NRel.val rel k)
  obtain ⟨p, hp, hp2⟩ := Option.map_eq_some_iff.mp hw
  refine wpAny_getItem_heap (nroom hu) ⟨nv.is I.hok rfl, dp⟩ dd hp ?_
  rw [hp2]; exact h w' _ (I.tok _) rw'
theorem n_in {Q : Value → Shared → Prop} (hu : A.units + 10 < cLine) (I : Inv X pins σ H s) (g : NGet X.prog X.w H a y o) (ry : RelV y u) (h : ∀ s', Inv X pins σ H s' → Q (.bool o.isSome) s') : wpAny (model X.prog X.w) A (compareOp .In u (.ref a)) Q E s := by
  obtain ⟨ks, k, b, e, hk, ey, nv, dp, l⟩ := g
  subst ey
  cases (show u = Value.ref b from ry)
  obtain ⟨z, hd, xs, rel, dd⟩ := nd_rd I.hok e hk
  refine wpAny_in_heap (nroom hu) ⟨nv.is I.hok rfl, dp⟩ hd dd ?_
  have q := (NRel.val rel k).isSome_eq
  rw [Option.isSome_map] at q
  rw [← q, ← l]; exact h _ (I.tok _)
theorem n_setItem {H' : Hp} {Q : Unit → Shared → Prop} (hu : A.units + 10 < cLine) (I : Inv X pins σ H s) (g : NPut X.prog X.w H a y v H') (ry : RelV y u) (rv : RelV v r) (h : ∀ s', Inv X pins σ H' s' → Q () s') : wpAny (model X.prog X.w) A (setItem (.ref a) u r) Q E s := by
  obtain ⟨ks, k, b, e, hk, ey, nv, dp, l, eH⟩ := g
  subst ey eH
  cases (show u = Value.ref b from ry)
  obtain ⟨z, hd, xs, rel, dd⟩ := nd_rd I.hok (.inl e) hk
  have hz : xs.length ≤ sizeLine := by rw [← Paired.length rel]; exact z
  refine wpAny_setItem_heap (hsz := hz) (nroom hu) ⟨nv.is I.hok rfl, dp⟩ dd fun h' dd' hs => h _ ?_
  have he : ∃ q, h'.get? a = some q := let ⟨q, _, _, hq, _⟩ := dd'; ⟨q, hq⟩
  exact d_write I (by rw [e]; exact True.intro) hs he (nd_new (by have := putN_len ks k b v; omega) hd (NRel.put rel k b rv) dd')
end
/-! rules -/
def tNGet (P : Program) (w : World) (td ty : TE) : TE := fun σ H Q => td σ H fun x H1 => ty σ H1 fun y H2 => ∃ a v, x = .ref a ∧ NGet P w H2 a y (some v) ∧ Q v H2
def tNIn (P : Program) (w : World) (ty td : TE) : TE := fun σ H Q => ty σ H fun y H1 => td σ H1 fun x H2 => ∃ a o, x = .ref a ∧ NGet P w H2 a y o ∧ Q (.bl o.isSome) H2
def tNPut (P : Program) (w : World) (td ty tv : TE) : TS := fun D σ H => tv σ H fun v H1 => td σ H1 fun x H2 => ty σ H2 fun y H3 => ∃ a H4, x = .ref a ∧ NPut P w H3 a y v H4 ∧ D.nx σ H4
def tNNew (P : Program) (w : World) : TE := fun _ H Q => ∀ p, H p = none → Q (.ref p) (upd H p (NdO P w p []))
/-- d.get(y, z) -/
def tNGet2 (P : Program) (w : World) (td ty tx : TE) : TE := fun σ H Q => td σ H fun x H1 => ∃ a, x = .ref a ∧ (∃ ks, Rd H1 a (NdO P w a ks)) ∧ ty σ H1 fun y H2 => tx σ H2 fun z H3 => ∃ o, NGet P w H3 a y o ∧ Q (o.getD z) H3
section
variable {X : Cx} {o i e f value : Expr} {pos pos' apos cpos : Pos} {td ty tv tx : TE}
theorem n_typeIs {pins : List (Addr × Obj)} {σ : L2.St} {H : Hp} {s : Shared} {a : Addr} {ks : List NRow} (I : Inv X pins σ H s) (e : Rd H a (NdO X.prog X.w a ks)) : ∃ ob, s.heap.get? a = some ob ∧ ob.ExactDict ∧ (a == sysModules) = false := by
  obtain ⟨_, y, xs, _, ob, es, ep, h1, h2, _⟩ := ext_of e I.hok
  exact ⟨ob, h1, h2, y⟩
theorem pe_nget (hu : X.A.units + 10 < cLine) (ho : PE X o td) (hi : PE X i ty) (hs : NoSl i) : PE X (.Subscript o i pos) (tNGet X.prog X.w td ty) := by
  refine ⟨fun pins s σ H Q I h => subD_of PySem.F.slot_dict_getitem.lookup hs (thn (ho.run pins s σ H _ I h) fun u s1 ⟨x, H1, I1, rx, q1⟩ => thn (hi.run pins s1 σ H1 _ I1 q1) fun iv s2 ⟨y, H2, I2, ry, a, v, ex, g, q2⟩ => ?_)⟩
  subst ex
  cases (show u = Value.ref a from rx)
  have ti : s2.TypeIs (.ref a) "dict" := by
    obtain ⟨ks, _, _, e, _⟩ := g
    obtain ⟨ob, h1, h2, _⟩ := n_typeIs I2 e
    exact ⟨ob, h1, h2.1⟩
  exact ⟨ti, n_getItem hu I2 g ry fun w' s3 I3 rw' => ⟨v, H2, I3, rw', q2⟩⟩
theorem pc_nin (hu : X.A.units + 10 < cLine) (hi : PE X i ty) (ho : PE X o td) : PC X .In i o (tNIn X.prog X.w ty td) := by
  refine ⟨fun pins s σ H Q I h => thn (hi.run pins s σ H _ I h) fun iv s1 ⟨y, H1, I1, ry, q1⟩ => thn (ho.run pins s1 σ H1 _ I1 q1) fun u s2 ⟨x, H2, I2, rx, a, ov, ex, g, q2⟩ => ?_⟩
  subst ex
  cases (show u = Value.ref a from rx)
  exact n_in hu I2 g ry fun s3 I3 => ⟨.bl ov.isSome, H2, I3, rfl, q2⟩
theorem ps_nput (hu : X.A.units + 10 < cLine) (ho : PE X o td) (hi : PE X i ty) (hv : PE X value tv) (hs : swapsWith value (some (.Subscript o i pos')) pos.line X.env = pure false) : PS X (.Assign [.Subscript o i pos'] value pos) (tNPut X.prog X.w td ty tv) := by
  refine ⟨fun pins s σ H D I h => wpAny_Assign_Subscript (thn (hv.run pins s σ H _ I h) fun r s1 ⟨v, H1, I1, rv, q1⟩ => thn (ho.run pins s1 σ H1 _ I1 q1) fun u s2 ⟨x, H2, I2, rx, q2⟩ => thn (hi.run pins s2 σ H2 _ I2 q2) fun iv s3 ⟨y, H3, I3, ry, a, H4, ex, g, q3⟩ => ?_) hs⟩
  subst ex
  cases (show u = Value.ref a from rx)
  exact n_setItem hu I3 g ry rv fun s4 I4 => ⟨σ, H4, I4, q3⟩
theorem nd_empty {P : Program} {w : World} {H : Hp} (h : Heap) (hb : sysModules < h.objs.size) : ObjOk P w H (h.push { cls := .type "dict", data := .dict #[] }) h.objs.size (NdO P w h.objs.size []) :=
  nd_new (Nat.zero_le _) (beq_eq_false_iff_ne.mpr (Ne.symm (Nat.ne_of_lt hb))) .nil (Heap.DictOfH.new (knd := nestedKind P w) h)
theorem pe_nnew : PE X (.Dict [] [] pos) (tNNew X.prog X.w) := ⟨fun pins s σ H Q I h => wpAny_Dict_empty ⟨.ref s.heap.objs.size, _, I.laid (a := s.heap.objs.size) (o := NdO X.prog X.w s.heap.objs.size []) (t' := s.toks) (fun _ _ q => Heap.get?_push_of_some _ q) (Nat.le_refl _) (nd_empty s.heap I.big), rfl, h _ (I.hok.fresh (Nat.le_refl _))⟩⟩
theorem pe_nget2 (hu : X.A.units + 10 < cLine) (ho : PE X o td) (he : PE X e ty) (hf : PE X f tx) (m : M2 X o "get" apos e f cpos) : PE X (.Call (.Attribute o "get" apos) [e, f] [] cpos) (tNGet2 X.prog X.w td ty tx) := by
  refine ⟨fun pins s σ H Q I h => wpAny_Call_method m.base m.few m.line PySem.F.plainAttrs_dict PySem.F.slot_dict_get PySem.F.type_dict_get (thn (ho.run pins s σ H _ I h) fun u s1 ⟨x, H1, I1, rx, a, ex, ⟨ks0, d⟩, q1⟩ => ?_)⟩
  subst ex
  cases (show u = Value.ref a from rx)
  obtain ⟨ob, t1, t2, _⟩ := n_typeIs I1 d
  refine ⟨⟨ob, t1, t2.1⟩, fun a1 e1 => by cases e1; exact ⟨ob, t1, t2.2.1⟩, ?_⟩
  rw [m.trees]
  refine Calls.callWith_builtin rfl (Calls.evalArgs_plain (Calls.spliced_cons (thn (he.run pins s1 σ H1 _ I1 q1) fun iv s2 ⟨y, H2, I2, ry, q2⟩ => Calls.spliced_cons (thn (hf.run pins s2 σ H2 _ I2 q2) fun fv s3 ⟨z, H3, I3, rz, ov, ⟨ks, k, b, e, hk, ey, nv, dp, l⟩, q3⟩ => Calls.spliced_nil ?_))))
  subst ey
  cases (show iv = Value.ref b from ry)
  obtain ⟨z1, hd, xs, rel, dd⟩ := nd_rd I3.hok e hk
  refine call_meetsIn PySem.F.slot_dict_get dd.typeIs PySem.F.entry_dict_get (PySem.F.args_dict_get_3 _ _ _) (meetsH_dict_get_default (nestedKind X.prog X.w) a b hd fv) ⟨nroom hu, k, xs, ⟨nv.is I3.hok rfl, dp⟩, dd, ⟨_, H3, I3.tok _, ?_, q3⟩⟩
  rw [l]
  exact (NRel.val rel k).getD rz
end
end Y

/-! dicts whose keys are (square, number) or (square, text) -/
namespace Y
open PySem PySem.Spec PyProof.Rows L2
/-- what may be a nested key -/
class NKey (κ : Type) [PyI κ] where
  toN : κ → NestedKey
  inj : ∀ a b, toN a = toN b → a = b
  dep : ∀ a, (toN a).depth ≤ 8
  rp : ∀ {W : Wo} {a : κ} {v : V}, Rp W a v → ∃ b, v = .ref b ∧ NV W.H (toN a) (.ref b)
theorem sqN {W : Wo} {q : Sq} {v : V} (h : Rp W q v) : NV W.H (.tup [.num q.1, .num q.2]) v := by
  obtain ⟨p, a, b, h1, h2, h3, h4⟩ := h
  cases h3; cases h4
  rw [h1]; exact .pair h2 (.int _) (.int _)
instance : NKey (Sq × Int) where
  toN := fun a => .tup [.tup [.num a.1.1, .num a.1.2], .num a.2]
  inj := fun a b h => by
    injection h with h; injection h with h1 h2; injection h1 with h1; injection h1 with h3 h4; injection h4 with h4; injection h2 with h2
    injection h3 with h3; injection h4 with h4; injection h2 with h2
    exact Prod.ext (Prod.ext h3 h4) h2
  dep := fun a => by simp [NestedKey.depth, NestedKey.depthAll]
  rp := fun {W a v} h => by
    obtain ⟨p, x, y, h1, h2, h3, h4⟩ := h
    cases h4
    exact ⟨p, h1, .pair h2 (sqN h3) (.int _)⟩
instance : NKey (Sq × Str) where
  toN := fun a => .tup [.tup [.num a.1.1, .num a.1.2], .text a.2]
  inj := fun a b h => by
    injection h with h; injection h with h1 h2; injection h1 with h1; injection h1 with h3 h4; injection h4 with h4; injection h2 with h2
    injection h3 with h3; injection h4 with h4; injection h2 with h2
    exact Prod.ext (Prod.ext h3 h4) h2
  dep := fun a => by simp [NestedKey.depth, NestedKey.depthAll]
  rp := fun {W a v} h => by
    obtain ⟨p, x, y, h1, h2, h3, h4⟩ := h
    cases h4
    exact ⟨p, h1, .pair h2 (sqN h3) (.str _)⟩
section
variable {κ β : Type} [DecidableEq κ]
def lookN (kvs : List (κ × β)) (q : κ) : Option β := (kvs.find? fun p => decide (p.1 = q)).map (·.2)
def hasN (kvs : List (κ × β)) (q : κ) : Bool := (lookN kvs q).isSome
def getN [Inhabited β] (kvs : List (κ × β)) (q : κ) : β := (lookN kvs q).getD default
def putD (kvs : List (κ × β)) (q : κ) (b : β) : List (κ × β) := if hasN kvs q then kvs.map (fun p => if p.1 = q then (p.1, b) else p) else kvs ++ [(q, b)]
end
open NKey (toN)
variable {P : Program} {w : World}
section
variable {κ β : Type} [PyI κ] [NKey κ] [PyI β]
def NKv (W : Wo) (kv : κ × β) (k : NRow) : Prop := k.1 = toN kv.1 ∧ Rp W kv.1 (.ref k.2.1) ∧ Rp W kv.2 k.2.2
theorem NKv.st {W W' : Wo} (s : St W W') {kv : κ × β} {k : NRow} (h : NKv W kv k) : NKv W' kv k := ⟨h.1, PyI.st s h.2.1, PyI.st s h.2.2⟩
theorem NKv.keys {W : Wo} {kvs : List (κ × β)} {ks : List NRow} (h : Paired (NKv W) kvs ks) : KeysN W.H ks := by
  induction h with
  | nil => intro x hx; cases hx
  | @cons a b as bs r t ih =>
    intro x hx
    rcases List.mem_cons.mp hx with e | hx
    · subst e
      obtain ⟨b, e1, e2⟩ := NKey.rp r.2.1
      injection e1 with e1
      rw [r.1, e1]
      exact ⟨e2, NKey.dep _⟩
    · exact ih x hx
theorem nv_key {W : Wo} {q : κ} {x : V} (h : Rp W q x) : ∃ b, x = .ref b ∧ NV W.H (toN q) (.ref b) := NKey.rp h
theorem toN_inj {a b : κ} : toN a = toN b ↔ a = b := ⟨NKey.inj a b, fun h => by rw [h]⟩
end
/-- a dict with such keys; one that is read alone -/
def kN (P : Program) (w : World) (κ β : Type) [PyI κ] [NKey κ] [PyI β] : Kd (List (κ × β)) where
  own := fun W fp kvs v => ∃ p ks, fp = [p] ∧ v = .ref p ∧ W.H p = some (NdO P w p ks) ∧ Paired (NKv W) kvs ks
  st := fun s c ⟨p, ks, h1, h2, h3, h4⟩ => ⟨p, ks, h1, h2, c p (by rw [h1]; exact List.mem_singleton.mpr rfl) _ h3, Paired.imp (fun a b h => h.st s) h4⟩
  live := fun ⟨p, ks, h1, h2, h3, h4⟩ a ha => by
    rw [h1] at ha
    cases List.mem_singleton.mp ha
    exact some_ne h3
def kNr (P : Program) (w : World) (κ β : Type) [PyI κ] [NKey κ] [PyI β] : Kd (List (κ × β)) where
  own := fun W fp kvs v => ∃ p ks, fp = [p] ∧ v = .ref p ∧ Rd W.H p (NdO P w p ks) ∧ Paired (NKv W) kvs ks
  st := fun s c ⟨p, ks, h1, h2, h3, h4⟩ => ⟨p, ks, h1, h2, Rd.kp (c p (by rw [h1]; exact List.mem_singleton.mpr rfl)) h3, Paired.imp (fun a b h => h.st s) h4⟩
  live := fun ⟨p, ks, h1, h2, h3, h4⟩ a ha => by
    rw [h1] at ha
    cases List.mem_singleton.mp ha
    rcases h3 with h3 | ⟨_, h3⟩
    · exact some_ne h3
    · exact some_ne h3
section
variable {κ α β γ δ : Type} [PyI κ] [NKey κ] [DecidableEq κ] [PyI β] {K : PySem.W.Frag} {e : Ef} {σ : L2.St} {W : Wo} {ta tb te tc td ty tx tk tv : TE} {t u : TT} {i j k m n : Nat} {v : V} {D : Ends} {tz : TS} {R : Nat → γ → Prop}
theorem look_nkv {kvs : List (κ × β)} {ks : List NRow} (h : Paired (NKv W) kvs ks) (q : κ) : (lookN kvs q = none ∧ valN ks (toN q) = none) ∨ ∃ b v, lookN kvs q = some b ∧ valN ks (toN q) = some v ∧ Rp W b v := by
  unfold lookN valN
  induction h with
  | nil => exact .inl ⟨rfl, rfl⟩
  | @cons a b as bs r t ih =>
    obtain ⟨r1, _, r2⟩ := r
    by_cases hq : a.1 = q
    · refine .inr ⟨a.2, b.2.2, ?_, ?_, r2⟩
      · rw [List.find?_cons_of_pos (by simpa using hq)]; rfl
      · rw [List.find?_cons_of_pos (by rw [r1, hq]; simp)]; rfl
    · rw [List.find?_cons_of_neg (by simpa using hq), List.find?_cons_of_neg (by rw [r1]; simpa using fun z => hq (toN_inj.mp z))]
      exact ih
theorem put_nkv {kvs : List (κ × β)} {ks : List NRow} {b : β} {bk : Addr} (h : Paired (NKv W) kvs ks) (q : κ) (rk : Rp W q (.ref bk)) (r : Rp W b v) : Paired (NKv W) (putD kvs q b) (putN ks (toN q) bk v) := by
  have e1 : (valN ks (toN q)).isSome = hasN kvs q := by
    unfold hasN
    rcases look_nkv h q with ⟨a1, a2⟩ | ⟨b1, v1, a1, a2, _⟩
    · rw [a1, a2]; rfl
    · rw [a1, a2]; rfl
  unfold putD putN
  rw [e1]
  clear e1
  cases hasN kvs q with
  | true =>
    rw [if_pos rfl, if_pos rfl]
    induction h with
    | nil => exact .nil
    | @cons a c as cs r2 t ih =>
      refine .cons ?_ ih
      obtain ⟨r3, r5, r4⟩ := r2
      by_cases hq : a.1 = q
      · show NKv W (if a.1 = q then (a.1, b) else a) (if c.1 = toN q then (c.1, c.2.1, v) else c)
        rw [if_pos hq, if_pos (by rw [r3, hq])]
        exact ⟨r3, r5, r⟩
      · show NKv W (if a.1 = q then (a.1, b) else a) (if c.1 = toN q then (c.1, c.2.1, v) else c)
        rw [if_neg hq, if_neg (fun z => hq (toN_inj.mp (r3.symm.trans z)))]
        exact ⟨r3, r5, r4⟩
  | false =>
    rw [if_neg Bool.false_ne_true, if_neg Bool.false_ne_true]
    exact Paired.snoc h ⟨rfl, rk, r⟩
namespace WP
abbrev nin (q : WP κ) (kvs : WP (List (κ × β))) : WP Bool := b2 q kvs fun x d => pure (hasN d x)
abbrev nget [Inhabited β] (kvs : WP (List (κ × β))) (q : WP κ) : WP β := b2 kvs q fun d x => req (hasN d x = true) (getN d x)
abbrev ngetD (kvs : WP (List (κ × β))) (q : WP κ) (z : WP β) : WP β := b3 kvs q z fun d x z => pure ((lookN d x).getD z)
end WP
theorem ew_nr {w1 : WP (List (κ × β))} (h : EvW e te σ W (sR (kN P w κ β)) w1) : EvW e te σ W (sR (kNr P w κ β)) w1 := fun W1 g Q q => h W1 g Q (w1.mono (fun n d hq v W2 g2 hn ⟨fp, ⟨p, ks, h1, h2, h3, h4⟩, hS⟩ => hq v W2 g2 hn ⟨fp, ⟨p, ks, h1, h2, .inl h3, h4⟩, hS⟩) q)
theorem ngetR {kvs : List (κ × β)} {ks : List NRow} {p b : Addr} {q : κ} (h3 : Rd W.H p (NdO P w p ks)) (h4 : Paired (NKv W) kvs ks) (hb : NV W.H (toN q) (.ref b)) : NGet P w W.H p (.ref b) (valN ks (toN q)) := ⟨ks, toN q, b, h3, NKv.keys h4, rfl, hb, NKey.dep q, rfl⟩
theorem ew_nin {w1 : WP κ} {w2 : WP (List (κ × β))} (hk : EvW e ty σ W sI w1) (hd : EvW e td σ W (sR (kNr P w κ β)) w2) : EvW e (tNIn P w ty td) σ W sI (WP.nin w1 w2) := fun W1 g Q q =>
  hk W1 g _ (w1.mono (fun n x hq y W2 g2 hn r => by
    subst hn
    refine hd W2 (g.trans g2) _ (w2.mono (fun n d hq v W3 g3 hn r2 => ?_) hq)
    obtain ⟨fp, ⟨p, ks, _, h2, h3, h4⟩, _⟩ := r2
    obtain ⟨b, e1, e2⟩ := nv_key (PyI.st g3.st r)
    subst e1; subst h2
    refine ⟨p, _, rfl, ngetR h3 h4 e2, hq _ W3 (g2.trans g3) hn ?_⟩
    show V.bl _ = V.bl _
    unfold hasN
    rcases look_nkv h4 x with ⟨a1, a2⟩ | ⟨b1, v1, a1, a2, _⟩
    · rw [a1, a2]; rfl
    · rw [a1, a2]; rfl) q)
theorem ew_nget [Inhabited β] {w1 : WP κ} {w2 : WP (List (κ × β))} (hd : EvW e td σ W (sR (kNr P w κ β)) w2) (hk : EvW e ty σ W sI w1) : EvW e (tNGet P w td ty) σ W sI (WP.nget w2 w1) := fun W1 g Q q =>
  hd W1 g _ (w2.mono (fun n d hq v W2 g2 hn r2 => by
    subst hn
    refine hk W2 (g.trans g2) _ (w1.mono (fun n x hq y W3 g3 hn r => ?_) hq)
    obtain ⟨fp, ⟨p, ks, _, h2, h3, h4⟩, _⟩ := (sR (kNr P w κ β)).stay g3 r2
    obtain ⟨b, e1, e2⟩ := nv_key r
    subst e1; subst h2
    rcases look_nkv h4 x with ⟨a1, a2⟩ | ⟨b1, v1, a1, a2, rv⟩
    · have := hq.1
      unfold hasN at this
      rw [a1] at this
      cases this
    · have hg := ngetR (P := P) (w := w) h3 h4 e2
      rw [a2] at hg
      refine ⟨p, v1, rfl, hg, hq.2 _ W3 (g2.trans g3) hn ?_⟩
      unfold getN
      rw [a1]; exact rv) q)
theorem ew_ngetD {w1 : WP κ} {w2 : WP (List (κ × β))} {w3 : WP β} (hd : EvW e td σ W (sR (kNr P w κ β)) w2) (hk : EvW e ty σ W sI w1) (hz : EvW e tx σ W sI w3) : EvW e (tNGet2 P w td ty tx) σ W sI (WP.ngetD w2 w1 w3) := fun W1 g Q q =>
  hd W1 g _ (w2.mono (fun n d hq v W2 g2 hn r2 => by
    subst hn
    obtain ⟨fp0, ⟨p0, ks0, _, h20, h30, _⟩, _⟩ := id r2
    subst h20
    refine ⟨p0, rfl, ⟨ks0, h30⟩, hk W2 (g.trans g2) _ (w1.mono (fun n x hq y W3 g3 hn r => ?_) hq)⟩
    subst hn
    refine hz W3 ((g.trans g2).trans g3) _ (w3.mono (fun n z hq vz W4 g4 hn rz => ?_) hq)
    obtain ⟨fp, ⟨p, ks, _, h2, h3, h4⟩, _⟩ := (sR (kNr P w κ β)).stay g4 ((sR (kNr P w κ β)).stay g3 r2)
    injection h2 with h2
    subst h2
    obtain ⟨b, e1, e2⟩ := nv_key (PyI.st g4.st r)
    subst e1
    refine ⟨_, ngetR h3 h4 e2, hq _ W4 ((g2.trans g3).trans g4) hn ?_⟩
    rcases look_nkv h4 x with ⟨a1, a2⟩ | ⟨b1, v1, a1, a2, rv⟩
    · rw [a1, a2]; exact rz
    · rw [a1, a2]; exact rv) q)
theorem noTup {ks : List NRow} {l : Addr} {P : Program} {w : World} : ∀ xs, NdO P w l ks ≠ .tup xs := fun _ z => by cases z
/-- d[k] = v -/
theorem st_nput {W0 : Wo} {fp : List Addr} {kvs : List (κ × β)} {vx : V} {iv : Nat} {w1 : WP β} {w2 : WP κ} {f : List (κ × β) → WP γ} (g00 : Good e W0) (g0 : Gw e W0 W) (hv : σ[iv]? = some (some vx)) (ho : Var (kN P w κ β) W0 W fp kvs vx) (h1 : EvW e tv σ W sI w1) (h2 : EvW e ty σ W sI w2)
    (hm : ((WP.b2 w1 w2 fun b q => WP.req (kvs.length < 100000) (putD kvs q b)).bind f).run W.n R)
    (q : ∀ ys W1 W2 l, fp = [l] → Gw e W W1 → St W1 W2 → Gw e W0 W2 → (∀ fp' W9, Kp fp' W9 W1 → (∀ b ∈ fp', b ∉ fp) → Kp fp' W9 W2) → (∀ b, W2.F b → W1.F b) → Var (kN P w κ β) W0 W2 fp ys vx → (f ys).run W2.n R → D.nx σ W2.H) : tNPut P w (tVar iv) ty tv D σ W.H := by
  obtain ⟨⟨l, vs, e1, e2, h3, h4⟩, fr, nF⟩ := ho
  subst e1; subst e2
  have m0 : l ∈ [l] := List.mem_singleton.mpr rfl
  refine h1 W (Gw.refl g0.ok) _ (w1.mono (fun n b r x W1 g1 hn p1 => ?_) hm)
  subst hn
  refine ⟨_, hv, h2 W1 g1 _ (w2.mono (fun n k r y W2 g2 hn p2 => ?_) r)⟩
  subst hn
  have g12 := g1.trans g2
  have hl1 : W2.H l = some (NdO P w l vs) := g12.keep _ _ h3 fun s => g00.S l s (fr l m0)
  have hF1 : ¬ W2.F l := fun f => (g12.new l f).elim (nF l m0) (some_ne h3)
  obtain ⟨bk, f1, f2⟩ := nv_key p2
  subst f1
  have h40 : Paired (NKv W2) kvs vs := Paired.imp (fun a b h => h.st g12.st) h4
  have s12 := St.mut (u := NdO P w l (putN vs (toN k) bk x)) hl1 noTup hF1
  refine ⟨l, _, rfl, ⟨vs, toN k, bk, hl1, NKv.keys h40, rfl, f2, NKey.dep k, by rw [← Paired.length h4]; exact sz_lt r.1, rfl⟩, ?_⟩
  refine q (putD kvs k b) W2 (W2.set l (NdO P w l (putN vs (toN k) bk x))) l rfl g12 s12 (Gw.mut g00 (g0.trans g12) (fr l m0) hl1 noTup hF1) (fun fp' W9 kk d => kk.upd fun b m z => d b m (by rw [z]; exact m0)) (fun _ f => f) ⟨⟨l, _, rfl, rfl, upd_same, ?_⟩, fr, fun b m => by cases List.mem_singleton.mp m; exact hF1⟩ r.2
  exact put_nkv (Paired.imp (fun a b h => h.st s12) h40) k (PyI.st s12 p2) (PyI.st (g2.st.trans s12) p1)
/-- {} -/
theorem ew_nnew : EvW e (tNNew P w) σ W (sN (kN P w κ β)) (WP.pure ([] : List (κ × β))) := fun W1 g Q q p hp =>
  q _ _ (Gw.alloc g.ok hp) rfl ⟨[p], ⟨p, [], rfl, rfl, upd_same, .nil⟩, fun a m => by
    cases List.mem_singleton.mp m
    exact ⟨hp, fun s => g.ok.S p s hp, fun f => (g.ok.F p f).2 hp⟩⟩
end
end Y

/-! going through a dict with nested keys, which is locked -/
namespace Y
open PySem PySem.Spec PyProof.Rows L2
section
variable {X : Cx} {pins : List (Addr × Obj)} {σ : L2.St} {H : Hp} {s : Shared} {d : Addr} {o : Obj} {ks : List NRow} {es : Array DictEntry} {ep : Nat}
theorem pairN_get {ks : List NRow} {xs : List (NestedKey × Addr × Value)} (h : Paired NRel ks xs) : ∀ {i : Nat} {r : NRow}, ks[i]? = some r → ∃ q, xs[i]? = some q ∧ NRel r q := by
  induction h with
  | nil => intro i r e; simp at e
  | @cons a b as bs hr t ih =>
    intro i r e
    cases i with
    | zero => simp at e; subst e; exact ⟨b, rfl, hr⟩
    | succ i => simp only [List.getElem?_cons_succ] at e ⊢; exact ih e
end
/-! a locked dict with nested keys, as the layer sees it -/
open NKey (toN)
def kNf (P : Program) (w : World) (κ β : Type) [PyI κ] [NKey κ] [PyI β] : Kd (List (κ × β)) where
  own := fun W fp kvs v => fp = [] ∧ ∃ p ks od, v = .ref p ∧ W.F p ∧ W.H p = some (.frz od (NdO P w p ks)) ∧ Paired (NKv W) kvs ks
  st := fun s c ⟨h0, p, ks, od, h1, h2, h3, h4⟩ => ⟨h0, p, ks, od, h1, s.f p h2, s.c p _ h2 h3, Paired.imp (fun a b h => h.st s) h4⟩
  live := fun ⟨h0, _⟩ a ha => by rw [h0] at ha; cases ha
section
variable {κ α β γ δ : Type} [PyI κ] [NKey κ] [DecidableEq κ] [PyI β] {P : Program} {w : World} {K : PySem.W.Frag} {e : Ef} {σ : L2.St} {W W0 : Wo} {td : TE} {t tz : TS} {i : Nat} {v : V} {D : Ends} {R : Nat → γ → Prop} {fp : List Addr}
theorem ew_nf {wd : WP (List (κ × β))} (h : EvW e td σ W (sR (kNf P w κ β)) wd) : EvW e td σ W (sR (kNr P w κ β)) wd := fun W1 g Q q => h W1 g Q (wd.mono (fun n d hq v W2 g2 hn ⟨fp, ⟨_, p, ks, od, h1, h2, h3, h4⟩, _⟩ => hq v W2 g2 hn ⟨[p], ⟨p, ks, rfl, h1, .inr ⟨od, h3⟩, h4⟩, fun a m => by
  cases List.mem_singleton.mp m
  exact (g2.ok.F p h2).1⟩) q)
theorem frz_nd {kvs : List (κ × β)} (g00 : Good e W0) (g0 : Gw e W0 W) (ho : Var (kN P w κ β) W0 W fp kvs v) : ∃ p ks, fp = [p] ∧ v = .ref p ∧ W.H p = some (NdO P w p ks) ∧ ∀ od, ∃ W1 : Wo, W1.H = upd W.H p (.frz od (NdO P w p ks)) ∧ W1.n = W.n ∧ St W W1 ∧ Gw e W0 W1 ∧ (∀ fp' W9, Kp fp' W9 W → (∀ b ∈ fp', b ∉ fp) → Kp fp' W9 W1) ∧
    (∀ {κ : Type} {k : Kd κ} {fq : List Addr} {y : κ} {vy : V}, Var k W0 W fq y vy → (∀ b ∈ fq, b ∉ fp) → Var k W0 W1 fq y vy) ∧ W1.F p ∧ Paired (NKv W1) kvs ks := by
  obtain ⟨⟨p, ks, e1, e2, h3, h4⟩, fr, nF⟩ := ho
  subst e1; subst e2
  have m0 : p ∈ [p] := List.mem_singleton.mpr rfl
  refine ⟨p, ks, rfl, rfl, h3, fun od => ⟨(W.set p (.frz od (NdO P w p ks))).frz [p], rfl, rfl, ?_, ?_, ?_, ?_, ?_⟩⟩
  · exact (St.mut h3 noTup (nF p m0)).trans St.frz
  · refine Gw.frz g00 (Gw.mut g00 g0 (fr p m0) h3 noTup (nF p m0)) fr fun a ma => ?_
    cases List.mem_singleton.mp ma
    show (upd W.H p _) p ≠ none
    rw [upd_same]; exact fun z => by cases z
  · exact fun fp' W9 kk d => kk.upd fun b m z => d b m (by rw [z]; exact m0)
  · intro κ k fq y vy hy d
    have s := St.mut (u := .frz od (NdO P w p ks)) h3 noTup (nF p m0)
    exact (hy.kept (fp := [p]) s (fun fp' W9 kk d => kk.upd fun b m z => d b m (by rw [z]; exact m0)) (fun _ f => f) d).frzd d
  · have s := (St.mut (u := .frz od (NdO P w p ks)) h3 noTup (nF p m0)).trans (St.frz (fp := [p]))
    exact ⟨.inr m0, Paired.imp (fun a b h => h.st s) h4⟩
theorem st_frzN {kvs : List (κ × β)} {f : List (κ × β) → WP γ} (g00 : Good e W0) (g0 : Gw e W0 W) (ho : Var (kN P w κ β) W0 W fp kvs v) (hm : ((WP.pure kvs).bind f).run W.n R)
    (q : ∀ a W1, St W W1 → Gw e W0 W1 → (∀ fp' W9, Kp fp' W9 W → (∀ b ∈ fp', b ∉ fp) → Kp fp' W9 W1) → (∀ {κ : Type} {k : Kd κ} {fq : List Addr} {y : κ} {vy : V}, Var k W0 W fq y vy → (∀ b ∈ fq, b ∉ fp) → Var k W0 W1 fq y vy) → (kNf P w κ β).own W1 [] a v → (f a).run W1.n R → t D σ W1.H) : tFrz t D σ W.H := by
  obtain ⟨p, ks, e1, e2, h3, hW⟩ := frz_nd g00 g0 ho
  refine ⟨p, _, h3, trivial, fun od => ?_⟩
  obtain ⟨W1, h1, hn, s, g1, kk, kv, rF, rP⟩ := hW od
  rw [← h1]
  exact q _ W1 s g1 kk kv ⟨rfl, p, ks, od, e2, rF, by rw [h1]; exact upd_same, rP⟩ (by rw [hn]; exact hm)
theorem q_frzN {kvs : List (κ × β)} {f : List (κ × β) → WP γ} (g00 : Good e W0) (g0 : Gw e W0 W) (ho : Var (kN P w κ β) W0 W fp kvs v) (hm : ((WP.pure kvs).bind f).run W.n R)
    (q : ∀ a W1, St W W1 → Gw e W0 W1 → (∀ fp' W9, Kp fp' W9 W → (∀ b ∈ fp', b ∉ fp) → Kp fp' W9 W1) → (∀ {κ : Type} {k : Kd κ} {fq : List Addr} {y : κ} {vy : V}, Var k W0 W fq y vy → (∀ b ∈ fq, b ∉ fp) → Var k W0 W1 fq y vy) → (kNf P w κ β).own W1 [] a v → (f a).run W1.n R → tSeq t tz D σ W1.H) : tSeq (tFrz t) tz D σ W.H :=
  st_frzN (D := { D with nx := tz D }) g00 g0 ho hm q
end
end Y

/-! list(d) of a dict with nested keys -/
namespace Y
open PySem PySem.Spec PyProof.Rows L2
section
variable {X : Cx}
theorem keysAcc {P : Program} {w : World} {xs : List (NestedKey × Addr × Value)} {es : Array DictEntry} {acc : Array Value} (he : es.toList = xs.map (entryOfKey (nestedKind P w))) (it : ItemsOf (fun i v => ∃ en : DictEntry, es[i]? = some en ∧ v = en.key) acc es.size) : acc.toList = xs.map fun x => Value.ref x.2.1 := by
  have l1 : es.size = xs.length := size_of_entries he
  refine List.ext_getElem? fun j => ?_
  by_cases hj : j < xs.length
  · have hja : j < acc.size := by rw [it.1]; omega
    obtain ⟨en, hen, hv⟩ := it.2 j acc[j] (Array.getElem?_eq_getElem hja)
    have z := entry_at he j
    rw [hen, List.getElem?_eq_getElem hj] at z
    have z : en = entryOfKey (nestedKind P w) xs[j] := Option.some.inj z
    rw [Array.getElem?_toList, Array.getElem?_eq_getElem hja, List.getElem?_map, List.getElem?_eq_getElem hj, hv, z]; rfl
  · rw [List.getElem?_eq_none (by rw [Array.length_toList, it.1]; omega), List.getElem?_eq_none (by rw [List.length_map]; omega)]
theorem relKeys {ks : List NRow} {xs : List (NestedKey × Addr × Value)} (r : Paired NRel ks xs) : ks.map (fun x => x.2.1) = xs.map fun x => x.2.1 := by
  induction r with
  | nil => rfl
  | cons h t ih => rw [List.map_cons, List.map_cons, ih, h.2.1]
theorem call_list_N (hc : X.calm = true) : CallR X (.type "list") (fun xs H Q => ∃ d ks, xs = [V.ref d] ∧ Rd H d (NdO X.prog X.w d ks) ∧ ∀ p, H p = none → Q (.ref p) (upd H p (.lst ((ks.map fun x => x.2.1).map V.ref)))) := by
  intro pins s σ H xs us Q I r h
  obtain ⟨d, ks, rfl, hd, q⟩ := h
  obtain ⟨u, rfl, rx⟩ := r.one
  cases rx
  obtain ⟨z, hs, ys, pr, o, es, ep, ho, hx, hdt, he, hn⟩ := ext_of hd I.hok
  have l1 : es.size = ys.length := size_of_entries he
  have l2 : ks.length = ys.length := Paired.length pr
  refine PySem.W.kdl_call (kdl_raw hs hx hdt) (I.ok.hd hc) ho (by omega) fun h' tk acc' c' kp e it => ?_
  have ea := keysAcc he it
  have eb : acc'.toList = (ks.map fun x => x.2.1).map Value.ref := by rw [ea, relKeys pr, List.map_map]; rfl
  have hz : ((ks.map fun x => x.2.1).map V.ref).length ≤ sizeLine := by rw [List.length_map, List.length_map]; exact z
  refine ⟨.ref s.heap.objs.size, _, I.laid (t' := tk) (o := .lst ((ks.map fun x => x.2.1).map V.ref)) kp (Nat.le_refl _) ⟨hz, acc'.toList, c', by rw [eb]; exact vals_refs _, by rw [Array.toArray_toList]; exact e⟩, rfl, q _ (I.hok.fresh (Nat.le_refl _))⟩
end
/-- the rule's word -/
def rListN (P : Program) (w : World) : List V → Hp → VK → Prop := fun xs H Q => ∃ d ks, xs = [V.ref d] ∧ Rd H d (NdO P w d ks) ∧ ∀ p, H p = none → Q (.ref p) (upd H p (.lst ((ks.map fun x => x.2.1).map V.ref)))
theorem call_list_N' {X : Cx} (hc : X.calm = true) : CallR X (.type "list") (rListN X.prog X.w) := call_list_N hc
open NKey (toN)
section
variable {κ β : Type} [PyI κ] [NKey κ] [DecidableEq κ] [PyI β] {P : Program} {w : World} {e : Ef} {σ : L2.St} {W : Wo} {td : TE}
theorem rps_nkeys {kvs : List (κ × β)} {ks : List NRow} (h : Paired (NKv W) kvs ks) : Rps W (kvs.map (·.1)) ((ks.map fun x => x.2.1).map V.ref) := by
  induction h with
  | nil => exact .nil
  | cons r t ih => exact .cons r.2.1 ih
namespace WP
abbrev nkeys (d : WP (List (κ × β))) : WP (List κ) := d.bind fun d => pure (d.map (·.1))
end WP
theorem ew_nkeys {wd : WP (List (κ × β))} (hd : EvW e td σ W (sR (kNr P w κ β)) wd) : EvW e (tCB (rListN P w) (tCons td tNil)) σ W (sN (kL κ)) (WP.nkeys wd) := ew_cb1 hd fun W1 W2 d x g ⟨fp, ⟨p, ks, _, h2, h3, h4⟩, _⟩ Q q => by
  subst h2
  exact ⟨p, ks, rfl, h3, fun l hl => q _ _ (Gw.alloc g.ok hl) rfl (new_L (Gw.refl g.ok) hl (rps_nkeys h4))⟩
end
end Y

/-! for k, v in d.items(), d locked, its keys nested -/
namespace Y
open PySem PySem.Spec PyProof.Rows L2
/-- its pairs, each a new tuple -/
def Itin (P : Program) (w : World) (d : Addr) (o : Obj) (ks : List NRow) : It :=
  ⟨fun i H => H d = some (.frz o (NdO P w d ks)) ∧ i < ks.length, fun i H x H' => ∃ (T : Addr) (r : NRow), ks[i]? = some r ∧ x = .ref T ∧ H T = none ∧ H' = upd H T (.tup [.ref r.2.1, r.2.2]), fun i H => H d = some (.frz o (NdO P w d ks)) ∧ ks.length ≤ i⟩
theorem frzNI {X : Cx} {pins : List (Addr × Obj)} {σ : L2.St} {H : Hp} {s : Shared} {d : Addr} {o : Obj} {ks : List NRow} (I : Inv X pins σ H s) (h : H d = some (.frz o (NdO X.prog X.w d ks))) : (d == sysModules) = false ∧ ∃ es ep, o.data = .dict es ep ∧ DT.Raw s.heap d es ep ∧ es.size = ks.length ∧ (∃ ob, s.heap.get? d = some ob ∧ ob.dict = none) ∧ ∀ (i : Nat) (r : NRow), ks[i]? = some r → ∃ en : DictEntry, es[i]? = some en ∧ en.key = .ref r.2.1 ∧ RelV r.2.2 en.val := by
  obtain ⟨hd, hq⟩ := (show ObjOk X.prog X.w H s.heap d (.frz o (NdO X.prog X.w d ks)) from I.hok d _ h)
  obtain ⟨_, hs, xs, pr, o', es, ep, ho, hx, hdt, he, _⟩ := (show ObjOk X.prog X.w H s.heap d (.ext (NdP X.prog X.w d ks)) from hq).1
  rw [hd] at ho
  cases ho
  have l2 : ks.length = xs.length := Paired.length pr
  have l1 : es.size = xs.length := size_of_entries he
  refine ⟨hs, es, ep, hdt, ⟨_, hd, hx, hdt⟩, by omega, ⟨_, hd, hx.2.1⟩, fun i r e => ?_⟩
  obtain ⟨q, hq1, hq2⟩ := pairN_get pr e
  have z := entry_at he i
  rw [hq1] at z
  exact ⟨_, z, by rw [hq2.2.1]; rfl, hq2.2.2⟩
theorem turn_itemsN {P : Program} {w : World} {K : PySem.W.Frag} {d : Addr} {o : Obj} {ks : List NRow} {es : Array DictEntry} {ep : Nat} {elts : List Expr} {kk : Nat} {tpos : Pos} (it : Addr) (hod : o.data = .dict es ep) :
    L2.Turn P w K (.Tuple elts kk tpos) (Itin P w d o ks) [it] it (fun i h => ∃ ok ov, IsItemIter h it d i ks.length ep ok ov) where
  mem := List.mem_singleton.mpr rfl
  obj := fun i h st b hb => by cases List.mem_singleton.mp hb; obtain ⟨ok, ov, e⟩ := st; exact ⟨_, e, fun v z => nomatch z⟩
  keep := fun i h h' st k => let ⟨ok, ov, e⟩ := st; ⟨ok, ov, k it (List.mem_singleton.mpr rfl) _ e⟩
  item := by
    intro X hP hw hK hc i pins s σ H E I hf st hg
    cases hP; cases hw; cases hK
    obtain ⟨hd, hi⟩ := hg
    obtain ⟨hs, es', ep', hdt, raw, hsz, _, ent⟩ := frzNI I hd
    obtain ⟨rfl, rfl⟩ := dict_ep hod hdt
    obtain ⟨r, hr⟩ : ∃ p, ks[i]? = some p := ⟨ks[i], List.getElem?_eq_getElem hi⟩
    obtain ⟨en, hen, hkey, hval⟩ := ent i r hr
    obtain ⟨ok, ov, he⟩ := st
    rw [← hsz] at he
    have hlt : it < s.heap.objs.size := Heap.lt_size he
    have hie : i < es'.size := by omega
    have ee : es'[i] = en := by rw [Array.getElem?_eq_getElem hie] at hen; exact Option.some.inj hen
    refine DT.nextI he raw hie fun h' ho hT hz hk => ?_
    rw [ee] at ho hT
    refine ⟨_, rfl, wpAny_letOwnedTupleGo_items (s := { s with heap := h' }) ho fun h'' he' sb => ?_⟩
    have hT2 : h''.get? s.heap.objs.size = some { cls := .type "tuple", data := .seq #[en.key, en.val] } := (sb.2 _ (Nat.ne_of_gt hlt)).trans hT
    have new : ObjOk X.prog X.w (upd H s.heap.objs.size (.tup [.ref r.2.1, r.2.2])) h'' s.heap.objs.size (.tup [.ref r.2.1, r.2.2]) := ⟨by show 2 ≤ sizeLine; decide, [en.key, en.val], .cons hkey (.cons hval .nil), ⟨_, hT2, rfl, _, rfl⟩⟩
    have I1 : Inv X pins σ (upd H s.heap.objs.size (.tup [.ref r.2.1, r.2.2])) { s with heap := h'' } := I.turnedNew (t' := s.toks) (ch := [it]) (fun b ob hb e => (sb.2 b (by simpa using hb)).trans (hk b ob (by simpa using hb) e)) hf (Nat.le_refl _) new
    refine ⟨.ref s.heap.objs.size, _, I1, rfl, ⟨_, r, hr, rfl, I.hok.fresh (Nat.le_refl _), rfl⟩, ⟨en.key, en.val, by rw [← hsz]; exact he'⟩, fun b hb => ?_⟩
    cases List.mem_singleton.mp hb
    rw [upd_ne (Nat.ne_of_lt hlt)]
    exact (hf it (List.mem_singleton.mpr rfl)).1
  done := by
    intro X hP hw hK hc i pins s σ H E I hf st hg
    cases hP; cases hw; cases hK
    obtain ⟨hd, hi⟩ := hg
    obtain ⟨f0, f1, f2, f3, f4, f5⟩ := hf it (List.mem_singleton.mpr rfl)
    obtain ⟨hs, es', ep', hdt, raw, hsz, _, ent⟩ := frzNI I hd
    obtain ⟨rfl, rfl⟩ := dict_ep hod hdt
    obtain ⟨ok, ov, he⟩ := st
    rw [← hsz] at he
    exact DT.endI (I.ok.hd hc) he raw (by omega) fun h' eb => ⟨rfl, I.turned (t' := s.toks) (fun b ob hb e => eb b ob hb e) f0 f1 f3 f4 f5⟩
  self := fun A i s Q E st h => let ⟨_, _, e⟩ := st; PySem.W.kcp_self e h
def iItemsN (P : Program) (w : World) (td : TE) : TI := fun σ H R => td σ H fun x H1 => ∃ d o ks, x = .ref d ∧ H1 d = some (.frz o (NdO P w d ks)) ∧ R (Itin P w d o ks) H1
theorem pi_itemsN {X : Cx} {e : Expr} {td : TE} {apos cpos : Pos} {elts : List Expr} {kk : Nat} {tpos : Pos} (he : PE X e td) (hbase : attributeBase e "items" X.env (eval e X.env) = eval e X.env := by rfl) (hline : (apos.endLine == cpos.line) = true := by rfl) :
    PI X (.Tuple elts kk tpos) (.Call (.Attribute e "items" apos) [] [] cpos) (iItemsN X.prog X.w td) := by
  refine ⟨fun pins s σ H R I h => wpAny_Call_method (T := "dict") (id := "dict.items") hbase rfl hline F.plainAttrs_dict F.slot_dict_items F.type_dict_items (thn (he.run pins s σ H _ I h) fun u s1 ⟨x, H1, I1, rx, d, o, ks, ex, hd, q⟩ => ?_)⟩
  subst ex
  cases (show u = Value.ref d from rx)
  obtain ⟨hs, es, ep, hdt, raw, hsz, ⟨ob, hob, hobd⟩, ent⟩ := frzNI I1 hd
  refine ⟨raw.typeIs, fun a1 e1 => by cases e1; exact ⟨ob, hob, hobd⟩, ?_⟩
  have I2 : Inv X pins σ H1 { s1 with heap := s1.heap.push { cls := .type "dict_items", data := .fields #[.ref d] } } := I1.kept (t' := s1.toks) fun b ob q => Heap.get?_push_of_some _ q
  have fin : wpAny (model X.prog X.w) X.A (pyIter (.ref s1.heap.objs.size)) (PIE X pins σ (.Tuple elts kk tpos) R) X.xe { s1 with heap := s1.heap.push { cls := .type "dict_items", data := .fields #[.ref d] } } := by
    refine DT.iterI (d := d) ⟨_, Heap.get?_push_size _ rfl, rfl, rfl⟩ (raw.push _) (pi_one (tk := s1.toks) I2 _ (turn_itemsN _ hdt) ⟨.none, .none, ?_⟩ q)
    rw [← hsz]
    exact Heap.get?_push_size _ rfl
  show wpAny _ _ (callWith cpos (.builtin "dict.items") [.ref d] [] []) _ X.xe s1
  exact method_meetsIn F.slot_dict_items F.entry_dict_items rfl (PySem.evalArgs_none ⟨rfl, raw.typeIs, F.args_dict_items_1 _, _, DT.meetsItems hs, raw, fin⟩)
end Y

/-! d.items() of a locked dict with nested keys in a for; such a dict or None; triples told by place; int of a bool -/
namespace Y
open PySem PySem.Spec PyProof.Rows L2
open NKey (toN)
theorem hn10 {n : Nat} {m : Nat} (h : n + 65 < m) : n + 10 < m := by omega
section
variable {κ α β γ δ s : Type} [PyI κ] [NKey κ] [DecidableEq κ] [PyI β] {P : Program} {w : World} {K : PySem.W.Frag} {e : Ef} {σ : L2.St} {W W0 : Wo} {td te : TE} {t tz tu : TS} {i n : Nat} {v : V} {D : Ends} {R : Nat → γ → Prop} {fp : List Addr}
abbrev TurnI {α β γ s : Type} (e : Ef) (INV : s → L2.St → Wo → Prop) (body : α → s → WP (Ctl s γ)) (r : γ → WP β) (R : Nat → β → Prop) (D : Ends) (tu : TS) (T : α → Wo → L2.St → L2.St → Prop) : Prop :=
  ∀ a y σ' s2 W' Wt R' (nx : L2.St → Hp → Prop), Gw e W' Wt → T a Wt σ' s2 → INV y σ' W' → (body a y).run Wt.n R' → (∀ y' σ'' W'', INV y' σ'' W'' → R' W''.n (.nx y') → nx σ'' W''.H) → (∀ y' σ'' W'', INV y' σ'' W'' → R' W''.n (.bk y') → D.nx σ'' W''.H) → (∀ n x, R' n (.rt x) → (r x).run n R) →
    tu { D with nx := nx, ct := nx, bk := D.nx } s2 Wt.H
/-- for k, v in d.items(), d locked -/
theorem st_forNI {gt : TG} {T : κ × β → Wo → L2.St → L2.St → Prop} (ht : Tk gt T) {kvs : List (κ × β)} {vd : V} {body : κ × β → s → WP (Ctl s δ)} {f : s → WP γ} {r : δ → WP γ} {x0 : s} (hv : σ[i]? = some (some vd)) (hb : (kNf P w κ β).own W fp kvs vd) (hm : (WP.after (WP.loop body kvs x0) f r).run W.n R)
    (INV : s → L2.St → Wo → Prop) (h0 : INV x0 σ W) (keep : ∀ y σ' W', INV y σ' W' → St W W' ∧ Good e W') (step : TurnI e INV body r R D tu T) (hd : ∀ y σ' W', INV y σ' W' → (f y).run W'.n R → D.nx σ' W'.H) : tFor (iItemsN P w (tVar i)) gt tu D σ W.H := by
  obtain ⟨_, p, ks, od, h1, h2, h3, h4⟩ := hb
  obtain ⟨Pv, p0, pk, ps, pd⟩ := pv_loop (D := D) INV h0 hm hd
  have el := Paired.length h4
  refine ⟨_, hv, p, od, ks, h1, h3, ?_⟩
  have wk : Walk (Itin P w p od ks) kvs.length (fun H => ∃ W', W'.H = H ∧ St W W') (fun i H x H' => ∃ (a : κ × β) (T : Addr), kvs[i]? = some a ∧ H T = none ∧ x = .ref T ∧ ∃ (b : Addr) (z : V), H' = upd H T (.tup [.ref b, z]) ∧ ∀ W', W'.H = H → St W W' → Rp W' a.1 (.ref b) ∧ Rp W' a.2 z) := by
    refine ⟨fun i H hi ⟨W', e1, s1⟩ => ?_, fun H ⟨W', e1, s1⟩ => ?_, fun i H x H' hi ⟨W', e1, s1⟩ y => ?_⟩
    · subst e1; exact ⟨s1.c p _ h2 h3, by omega⟩
    · subst e1; exact ⟨s1.c p _ h2 h3, by omega⟩
    · subst e1
      obtain ⟨T, q, hq, rfl, hT, rfl⟩ := y
      obtain ⟨kv, hkv, r1⟩ := h4.getV hq
      exact ⟨kv, T, hkv, hT, rfl, q.2.1, q.2.2, rfl, fun W'' e2 s2 => ⟨PyI.st s2 r1.2.1, PyI.st s2 r1.2.2⟩⟩
  refine for_it wk Pv p0 (fun i σ H _ q => ?_) (fun i x σ H H' hi' q y => ?_) pd
  · obtain ⟨y, W', e1, q'⟩ := pk i σ H q
    exact ⟨W', e1, (keep y σ W' q').1⟩
  · obtain ⟨a, T, ha, hT, rfl, b, z, rfl, rr⟩ := y
    obtain ⟨y, W', R', e1, q1, q2, q3, q4, q5⟩ := ps i σ _ a ha q
    subst e1
    obtain ⟨k1, k2⟩ := keep y σ W' q1
    obtain ⟨r1, r2⟩ := rr W' rfl k1
    have ga := Gw.alloc (o := .tup [.ref b, z]) k2 hT
    exact ht a (.ref T) ⟨upd W'.H T (.tup [.ref b, z]), W'.F, W'.n⟩ σ _ ⟨T, _, _, rfl, upd_same, PyI.st ga.st r1, PyI.st ga.st r2⟩ fun s2 h2 => step a y σ s2 W' _ R' _ ga h2 q1 q2 q3 q4 q5
theorem q_forNI {gt : TG} {T : κ × β → Wo → L2.St → L2.St → Prop} (ht : Tk gt T) {kvs : List (κ × β)} {vd : V} {body : κ × β → s → WP (Ctl s δ)} {f : s → WP γ} {r : δ → WP γ} {x0 : s} (hv : σ[i]? = some (some vd)) (hb : (kNf P w κ β).own W fp kvs vd) (hm : (WP.after (WP.loop body kvs x0) f r).run W.n R)
    (INV : s → L2.St → Wo → Prop) (h0 : INV x0 σ W) (keep : ∀ y σ' W', INV y σ' W' → St W W' ∧ Good e W') (step : TurnI e INV body r R { D with nx := tz D } tu T) (hd : ∀ y σ' W', INV y σ' W' → (f y).run W'.n R → tz D σ' W'.H) : tSeq (tFor (iItemsN P w (tVar i)) gt tu) tz D σ W.H :=
  st_forNI (D := { D with nx := tz D }) ht hv hb hm INV h0 keep step hd
/-! such a dict or None -/
def kON (P : Program) (w : World) (κ β : Type) [PyI κ] [NKey κ] [PyI β] : Kd (Option (List (κ × β))) where
  own := fun W fp o v => match o with | none => v = .non ∧ fp = [] | some x => (kN P w κ β).own W fp x v
  st := fun {W W' fp o v} s c h => by
    cases o with
    | none => exact h
    | some x => exact (kN P w κ β).st s c h
  live := fun {W fp o v} h => by
    cases o with
    | none => rw [h.2]; exact fun _ m => nomatch m
    | some x => exact (kN P w κ β).live h
theorem ew_nonN : EvW e (tC .non) σ W (sN (kON P w κ β)) (WP.pure (none : Option (List (κ × β)))) := fun W1 g Q q => q _ W1 (Gw.refl g.ok) rfl ⟨[], ⟨rfl, rfl⟩, fun _ m => nomatch m⟩
theorem ew_isNN {wd : WP (Option (List (κ × β)))} (h : EvW e te σ W (sR (kON P w κ β)) wd) : EvW e (tIsN te) σ W sI (WP.isN wd) := fun W1 g Q q => h W1 g _ (wd.mono (fun n o hq v W2 g2 hn ⟨fp, r, _⟩ => by
  cases o with
  | none =>
    cases r.1
    exact hq _ W2 g2 hn rfl
  | some a =>
    obtain ⟨p, ks, _, h2, _⟩ := r
    subst h2
    exact hq _ W2 g2 hn rfl) q)
theorem the_ownN {o : Option (List (κ × β))} {f : List (κ × β) → WP γ} (hm : ((WP.req (o.isSome = true) (o.getD [])).bind f).run n R) (ho : Var (kON P w κ β) W0 W fp o v) : ∃ a, Var (kN P w κ β) W0 W fp a v ∧ (f a).run n R := by
  cases o with
  | none => cases hm.1
  | some x => exact ⟨x, ⟨ho.own, ho.fr, ho.nF⟩, hm.2⟩
end
/-! triples -/
instance {α β γ : Type} [Inhabited α] [Inhabited β] [Inhabited γ] : Inhabited (Tri α β γ) := ⟨⟨default, default, default⟩⟩
section
variable {α0 α1 α2 β : Type} [PyI α0] [PyI α1] [PyI α2] {e : Ef} {σ : L2.St} {W : Wo} {K : PySem.W.Frag} {ta te : TE} {i0 i1 i2 : Nat} {D : Ends} {tz : TS} {R : Nat → β → Prop} {w : WP (Tri α0 α1 α2)}
theorem ew_R3_2 (ha : EvW e ta σ W sI w) : EvW e (tOp (rIxT K) ta (tC (.int 2))) σ W sI (w.bind fun c => WP.pure c.c) := fun W1 g Q q => ha W1 g _ (w.mono (fun n c h v W2 g2 hn ⟨p, x0, x1, x2, h1, h2, h00, h01, h02⟩ => ⟨p, _, 2, x2, h1, rfl, SqT.of h2, rfl, h _ W2 g2 hn h02⟩) q)
theorem st_unR3 {f : Tri α0 α1 α2 → WP β} (h : EvW e te σ W sI w) (g : Good e W) (hm : (w.bind f).run W.n R) (q : ∀ (c : Tri α0 α1 α2) x0 x1 x2 W1, Gw e W W1 → Rp W1 c.a x0 → Rp W1 c.b x1 → Rp W1 c.c x2 → (f c).run W1.n R → D.nx (((σ.set i0 (some x0)).set i1 (some x1)).set i2 (some x2)) W1.H) : tAsg te (gTup K 3 (gCons (gName i0) (gCons (gName i1) (gCons (gName i2) gNil)))) D σ W.H :=
  h W (Gw.refl g) _ (w.mono (fun n c r v W1 g1 hn ⟨p, x0, x1, x2, h1, h2, h00, h01, h02⟩ => ⟨p, [x0, x1, x2], h1, SqT.of h2, rfl, x0, [x1, x2], rfl, x1, [x2], rfl, x2, [], rfl, rfl, q c x0 x1 x2 W1 g1 h00 h01 h02 (hn ▸ r)⟩) hm)
theorem q_unR3 {f : Tri α0 α1 α2 → WP β} (h : EvW e te σ W sI w) (g : Good e W) (hm : (w.bind f).run W.n R) (q : ∀ (c : Tri α0 α1 α2) x0 x1 x2 W1, Gw e W W1 → Rp W1 c.a x0 → Rp W1 c.b x1 → Rp W1 c.c x2 → (f c).run W1.n R → tz D (((σ.set i0 (some x0)).set i1 (some x1)).set i2 (some x2)) W1.H) : tSeq (tAsg te (gTup K 3 (gCons (gName i0) (gCons (gName i1) (gCons (gName i2) gNil))))) tz D σ W.H :=
  st_unR3 (D := { D with nx := tz D }) h g hm q
/-- t[:2] of a triple -/
theorem ew_tri2 (ha : EvW e ta σ W sI w) : EvW e (tSl (rSlA K) ta tNoPart (tPart (tC (.int 2)))) σ W sI (w.bind fun c => WP.pure (c.a, c.b)) := fun W1 g Q q =>
  ha W1 g _ (w.mono (fun n c h v W2 g2 hn ⟨p, x0, x1, x2, h1, h2, h00, h01, h02⟩ => by
    subst hn
    refine ⟨2, rfl, p, [x0, x1, x2], h1, SqT.of h2, fun ⟨z1, z2⟩ => ?_, fun _ q' hq' => ?_⟩
    · exact absurd (show HT.sIx 3 3 (some 2) = 3 from z2) (by decide)
    · have ga := Gw.alloc (o := .tup [x0, x1]) (g.trans g2).ok hq'
      exact h _ _ (g2.trans ga) rfl ⟨q', x0, x1, rfl, upd_same, PyI.st ga.st h00, PyI.st ga.st h01⟩) q)
end
section
variable {e : Ef} {σ : L2.St} {W : Wo} {ta : TE}
theorem ew_int1b {w : WP Bool} (ha : EvW e ta σ W sI w) : EvW e (tCB rInt1 (tCons ta tNil)) σ W sI (w.bind fun b => WP.pure (if b then (1 : Int) else 0)) := ew_cb1 ha fun W1 W2 z x g r Q q => by
  cases r
  exact .inr ⟨z, rfl, q _ W2 (Gw.refl g.ok) rfl rfl⟩
end
/-! the rules with the program and the world told: within a comprehension's block -/
section
variable {X : Cx} {o i e f value : Expr} {pos pos' apos cpos : Pos} {td ty tv tx : TE} {P : Program} {w : World}
theorem pe_ngetK (hP : X.prog = P) (hw : X.w = w) (hu : X.A.units + 10 < cLine) (ho : PE X o td) (hi : PE X i ty) (hs : NoSl i) : PE X (.Subscript o i pos) (tNGet P w td ty) := by subst hP; subst hw; exact pe_nget hu ho hi hs
end
end Y

namespace W
open PySem PySem.Spec L2 Y
def top (i : Nat) : Stmt := PySem.Challenge.pw_landandwater_k60_judge_of_late_papers.main.body.getD i (.Pass ⟨0, 0, 0, 0⟩)
structure Glb (mg : Str → Option Value) : Prop where
  len : mg "len" = none
  range : mg "range" = none
  abs : mg "abs" = none
  int : mg "int" = none
  bool : mg "bool" = none
  sum : mg "sum" = none
  min : mg "min" = none
  max : mg "max" = none
  tuple : mg "tuple" = none
  isinstance : mg "isinstance" = none
  str : mg "str" = none
  list : mg "list" = none
  c_DIGITS : ∃ t, mg "DIGITS" = some (.str "0123456789" t)

section
variable {P : Program} {w : World} {K : PySem.W.Frag} {mg : Str → Option Value} {base : Heap}
abbrev s__law_take : Stmt := top 15
abbrev N__law_take : List Str := ["deal", "many", "at"]
abbrev P__law_take : List Str := ["deal", "many"]
theorem sc__law_take : FnScope N__law_take P__law_take (defScope s__law_take) := ⟨rfl, rfl, rfl, by decide +kernel, rfl, by decide +kernel, by decide +kernel⟩
theorem ok__law_take (F : At K mg "_law_take" s__law_take P__law_take) (G : Glb mg) : Has P w K mg base "_law_take" 1 P__law_take sp_take := by
  refine Has.of F sc__law_take (fun vs H Q E h => ?_) (fun f cdv A outer s H0 vs Q E hr h => ?_)
  · obtain ⟨d, W, many, rfl, _⟩ := h
    rfl
  · obtain ⟨d, W, many, rfl, rfl, hG, hlim, hpos, kk⟩ := h
    have sc := sc__law_take
    have hA := hG.ok
    have hn := hA.n
    have hp := hA.p
    have h1 := hA.l1
    have hb : (W.n : Int) ≤ 2 ^ 60 := by omega
    generalize hnn : W.n = n at *
    refine ⟨_, pss_cons (ps_set (i := 2) sc.nd rfl (Or.inl rfl) (pe_ix ix_list (pe_ix ix_list (pv 0) pe_int (fun _ _ => rfl)) pe_int (fun _ _ => rfl)))
      (pss_cons (ps_asg (pe_op op_add (pv 2) pe_int) (pg_sub (pe_ix ix_list (pv 0) pe_int (fun _ _ => rfl)) pe_int set_list))
      (pss_cons (ps_if (pt_cmpR op_lt (pv 2) (pe_callB call_len_seq (by rfl) G.len PySem.boot_len (pa_cons (pe_ix ix_list (pv 0) pe_int (fun _ _ => rfl)) pa_nil)) (nomark _))
        (pss_one (ps_ret (pe_op op_mod (pe_ix ix_list (pe_ix ix_list (pv 0) pe_int (fun _ _ => rfl)) (pv 2) (fun _ _ => rfl)) (pv 1)))) pss_nil)
      (pss_one (ps_ret (pe_op op_mod (pe_op op_fdiv (pe_op op_add (pe_op op_add (pe_op op_mul (pv 2) pe_int) (pe_op op_mul (pe_ix ix_list (pv 0) pe_int (fun _ _ => rfl)) pe_int)) (pe_op op_mul (pe_op op_mul (pv 2) (pv 2)) pe_int)) pe_int) (pv 1)))))), ?_⟩
    refine ⟨_, rfl, d.p, _, 1, .ref d.l2, rfl, rfl, SqL.of hp, rfl, d.l2, _, 0, .int (n : Int), rfl, rfl, SqL.of hn, rfl, ?_⟩
    refine ⟨_, rfl, (n : Int), 1, rfl, rfl, ?_⟩
    refine ⟨_, rfl, d.p, _, 1, .ref d.l2, rfl, rfl, SqL.of hp, rfl, d.l2, _, 0, 0, rfl, rfl, hn, rfl, ?_⟩
    have hp' : (upd W.H d.l2 (.lst [.int ((n : Int) + 1)])) d.p = some (.lst [.ref d.l1, .ref d.l2, .int d.tot]) := by rw [upd_ne hA.np]; exact hp
    have h1' : (upd W.H d.l2 (.lst [.int ((n : Int) + 1)])) d.l1 = some (.lst (d.row.map V.int)) := by rw [upd_ne hA.n1]; exact h1
    have gg := drawn hG
    rw [hnn] at gg
    have fin : ∀ x : Int, Q (.int (x % many)) (upd W.H d.l2 (.lst [.int ((n : Int) + 1)])) := fun x => kk (x % many) (Int.emod_nonneg _ (by omega)) (Int.emod_lt_of_pos _ hpos) _ ⟨upd W.H d.l2 (.lst [.int ((n : Int) + 1)]), W.F, n + 1⟩ gg rfl rfl
    refine ⟨_, rfl, _, rfl, d.p, _, 0, .ref d.l1, rfl, rfl, SqL.of hp', rfl, d.l1, _, rfl, .inl (SqL.of h1'), (n : Int), _, rfl, rfl, _, rfl, ?_⟩
    refine ite2 (fun hc => ?_) (fun hc => ?_)
    · have hlt : n < d.row.length := by
        have := of_decide_eq_true hc
        rw [List.length_map] at this
        omega
      have hx : atI (d.row.map V.int) (n : Int) = some (.int d.row[n]) := by
        refine atI_nat ?_
        rw [List.getElem?_map, List.getElem?_eq_getElem hlt]; rfl
      refine ⟨_, rfl, d.p, _, 0, .ref d.l1, rfl, rfl, SqL.of hp', rfl, _, rfl, d.l1, _, (n : Int), .int d.row[n], rfl, rfl, SqL.of h1', hx, _, rfl, d.row[n], many, rfl, rfl, hpos, ?_⟩
      exact fin _
    · have big : -(2 ^ 64 : Int) < (n : Int) ∧ (n : Int) < 2 ^ 64 := ⟨by omega, by omega⟩
      refine ⟨_, rfl, _, _, rfl, rfl, .inl big, ?_⟩
      refine ⟨_, rfl, d.p, _, 2, .int d.tot, rfl, rfl, SqL.of hp', rfl, _, _, rfl, rfl, .inr ⟨by decide, by decide⟩, _, _, rfl, rfl, ?_⟩
      refine ⟨_, rfl, _, rfl, _, _, rfl, rfl, .inl big, _, _, rfl, rfl, .inr ⟨by decide, by decide⟩, _, _, rfl, rfl, _, _, rfl, rfl, ⟨by decide, by decide⟩, _, rfl, _, many, rfl, rfl, hpos, ?_⟩
      exact fin _

abbrev s__law_deal : Stmt := top 14
abbrev N__law_deal : List Str := ["script", "row", "k", "cell", "turn", "total"]
abbrev P__law_deal : List Str := ["script"]
theorem sc__law_deal : FnScope N__law_deal P__law_deal (defScope s__law_deal) := ⟨rfl, rfl, rfl, by decide +kernel, rfl, by decide +kernel, by decide +kernel⟩
def m__law_deal (a_script : List Int) : WP Unit := (WP.row (WP.pure ([] : List Int))).bind fun a1_row => (WP.range1 (WP.min2 (WP.len (WP.pure a_script)) (WP.pure (63 : Int)))).bind fun xs2 => WP.after (WP.loop (γ := Unit) (fun c2 (y2 : (List Int)) => (WP.abs ((WP.ix (WP.pure a_script) (WP.pure c2)).bind WP.pure)).bind fun a3_cell => ((WP.ge (WP.pure a3_cell) (WP.pow (WP.pure (10 : Int)) (WP.pure (18 : Int)))).bind fun b => WP.cond b ((WP.range1 (WP.pure (40 : Int))).bind fun xs5 => WP.after (WP.loop (γ := Unit) (fun c5 (y5 : (List Int) × Int) => ((WP.gt (WP.pure y5.2) (WP.pure (0 : Int))).bind fun b => WP.cond b (((WP.mod (WP.pure y5.2) (WP.pure (1009 : Int))).bind fun a => WP.req (y5.1.length < 100000) (y5.1 ++ [a])).bind fun a7_row => (WP.fdiv (WP.pure y5.2) (WP.pure (1009 : Int))).bind fun a8_cell => (WP.pure (a7_row, a8_cell))) ((WP.pure (y5.1, y5.2)))).bind fun (y6 : (List Int) × Int) => (WP.pure (.nx (y6.1, y6.2)))) xs5 (y2, a3_cell)) (fun (z5 : (List Int) × Int) => (WP.pure (z5.1, z5.2))) (fun r => (WP.none (b := r)))) ((WP.add (WP.add (WP.mul (WP.mod (WP.pure a3_cell) (WP.pure (2147483629 : Int))) (WP.pure (48271 : Int))) (WP.mul (WP.pure c2) (WP.pure (69621 : Int)))) (WP.pure (11 : Int))).bind fun a9_cell => (WP.range1 (WP.pure (5 : Int))).bind fun xs10 => WP.after (WP.loop (γ := Unit) (fun c10 (y10 : (List Int) × Int) => (WP.mod (WP.add (WP.add (WP.mul (WP.pure y10.2) (WP.pure (16807 : Int))) (WP.pure (12345 : Int))) (WP.pure c10)) (WP.pure (2147483647 : Int))).bind fun a11_cell => ((WP.mod (WP.fdiv (WP.pure a11_cell) (WP.pure (7 : Int))) (WP.pure (1009 : Int))).bind fun a => WP.req (y10.1.length < 100000) (y10.1 ++ [a])).bind fun a12_row => (WP.pure (.nx (a12_row, a11_cell)))) xs10 (y2, a9_cell)) (fun (z10 : (List Int) × Int) => (WP.pure (z10.1, z10.2))) (fun r => (WP.none (b := r))))).bind fun (y4 : (List Int) × Int) => (WP.pure (.nx y4.1))) xs2 a1_row) (fun (z2 : (List Int)) => (WP.add (WP.sum (WP.pure z2)) (WP.len (WP.pure a_script))).bind fun a13_total => (WP.pure a13_total).bind fun _ => WP.pure ()) (fun r => (WP.pure r))
theorem ok__law_deal (LT : ∀ ns : List Int, ns.length ≤ 63 → ∀ n, (m__law_deal ns).run n fun _ _ => True) (F : At K mg "_law_deal" s__law_deal P__law_deal) (G : Glb mg)  : Has P w K mg base "_law_deal" 1 P__law_deal (sp_deal K) := by
  refine Has.of F sc__law_deal (fun vs H Q E h => ?_) (fun f cdv A outer s Hent vs Q E hr h => ?_)
  · obtain ⟨v_script, a_script, W0, rfl, _⟩ := h
    rfl
  · obtain ⟨v_script, a_script, W0, rfl, rfl, g00, h_script, hlen, kk⟩ := h
    have hm := LT a_script hlen W0.n
    have sc := sc__law_deal
    have g0 := Gw.refl g00
    unfold m__law_deal at hm
    refine ⟨_, (pss_cons (ps_set (i := 1) sc.nd rfl (Or.inl rfl) (pe_lst pa_nil))
      (pss_cons (ps_for PassesOwn.never rfl (pi_range1 rfl G.range (pa_cons (pe_callB (call_min2 rfl) (by rfl) G.min (by decide +kernel) (pa_cons (pe_callB call_len_seq (by rfl) G.len PySem.boot_len (pa_cons (pv 0) pa_nil)) (pa_cons pe_int pa_nil))) pa_nil)) (pg_name (i := 2) sc.nd rfl (Or.inl rfl))
      (pss_cons (ps_set (i := 3) sc.nd rfl (Or.inl rfl) (pe_callB call_abs (by rfl) G.abs (by decide +kernel) (pa_cons (pe_callTy call_int1 (by rfl) G.int (by decide +kernel) (pa_cons (pe_ix ix_list (pv 0) (pv 2) (fun _ _ => rfl)) pa_nil)) pa_nil)))
      (pss_one (ps_if (pt_cmpR op_ge (pv 3) (pe_op op_pow pe_int pe_int) (nomark _)) (pss_one (ps_for PassesOwn.never rfl (pi_range1 rfl G.range (pa_cons pe_int pa_nil)) (pg_name (i := 4) sc.nd rfl (Or.inl rfl))
      (pss_one (ps_if (pt_cmpR op_gt (pv 3) pe_int (nomark _)) (pss_cons (ps_expr (pe_bm PySem.F.plainAttrs_list PySem.F.slot_list_append PySem.F.type_list_append mt_append (pv 1) (pa_cons (pe_op op_mod (pv 3) pe_int) pa_nil)))
      (pss_one (ps_set (i := 3) sc.nd rfl (Or.inl rfl) (pe_op op_fdiv (pv 3) pe_int)))) pss_nil)))) (pss_cons (ps_set (i := 3) sc.nd rfl (Or.inl rfl) (pe_op op_add (pe_op op_add (pe_op op_mul (pe_op op_mod (pv 3) pe_int) pe_int) (pe_op op_mul (pv 2) pe_int)) pe_int))
      (pss_one (ps_for PassesOwn.never rfl (pi_range1 rfl G.range (pa_cons pe_int pa_nil)) (pg_name (i := 4) sc.nd rfl (Or.inl rfl))
      (pss_cons (ps_set (i := 3) sc.nd rfl (Or.inl rfl) (pe_op op_mod (pe_op op_add (pe_op op_add (pe_op op_mul (pv 3) pe_int) pe_int) (pv 4)) pe_int))
      (pss_one (ps_expr (pe_bm PySem.F.plainAttrs_list PySem.F.slot_list_append PySem.F.type_list_append mt_append (pv 1) (pa_cons (pe_op op_mod (pe_op op_fdiv (pv 3) pe_int) pe_int) pa_nil))))))))))))
      (pss_cons (ps_set (i := 5) sc.nd rfl (Or.inl rfl) (pe_op op_add (pe_callB (cr_sum rfl) (by rfl) G.sum (by decide +kernel) (pa_cons (pv 1) pa_nil)) (pe_callB call_len_seq (by rfl) G.len PySem.boot_len (pa_cons (pv 0) pa_nil))))
      (pss_one (ps_ret (pe_lst (pa_cons (pv 1) (pa_cons (pe_lst (pa_cons pe_int pa_nil)) (pa_cons (pv 5) pa_nil))))))))), ?_⟩
    refine q_asg (W := W0) (ew_lst (eas_nil (α := Int))) g0.ok hm fun a1_row v_row W1 g1 ⟨fp_row, ho0_row, hf_row⟩ hm => ?_
    have hz_row : ∀ a ∈ fp_row, W0.H a = none := fun a m => g0.live a (hf_row a m).1
    have g0 := g0.trans g1
    have ho_row : Var (kL Int) W0 W1 fp_row a1_row v_row := ⟨ho0_row, hz_row, fun b m => (hf_row b m).2.2⟩
    refine q_forR1 (W := W1) (ew_min2 (ew_lenQ rfl (sqL_g g0 h_script)) ew_int) g0.ok hm fun W2 g2 => ?_
    have ho_row := ho_row.go g00 g2
    have g0 := g0.trans g2
    refine ⟨fun y σ' W' => ∃ (v_row : V) (fp_row : List Addr) (o_k : Option V) (o_cell : Option V) (o_turn : Option V), σ' = [some (.ref v_script), some v_row, o_k, o_cell, o_turn, none] ∧ Gw ef0 W0 W' ∧ St W2 W' ∧ Var (kL Int) W0 W' fp_row y v_row, ⟨v_row, fp_row, _, _, _, rfl, g0, (St.refl _), ho_row⟩, fun c2 y2 σi s2 Wi2 R2 nx2 ht hI hm kn2 kb2 kr2 => ?_, fun z2 σi Wi2 hI hm => ?_⟩
    ·
      obtain ⟨v_row, fp_row, o_k, o_cell, o_turn, rfl, g0, sl2, ho_row⟩ := hI
      obtain ⟨v_k, rfl, h_k⟩ := ht
      refine q_asg (W := Wi2) (ew_abs (ew_int1 (ew_ixQ rfl (sqL_g g0 h_script) (ew_var (v := v_k) rfl h_k)))) g0.ok hm fun a3_cell v_cell W3 g3 h_cell hm => ?_
      have ho_row := ho_row.go g00 g3
      have h_k := PyI.st g3.st h_k
      have sl2 := sl2.trans g3.st
      have g0 := g0.trans g3
      first | refine norm_st (σ' := [some (.ref v_script), some v_row, some v_k, some v_cell, o_turn, none]) rfl ?_ | skip
      refine st_join (W := W3) (s := (List Int) × Int) (fun y σ' W' => ∃ (v_cell : V) (v_row : V) (fp_row : List Addr) (o_turn : Option V), σ' = [some (.ref v_script), some v_row, some v_k, some v_cell, o_turn, none] ∧ Gw ef0 W0 W' ∧ St W3 W' ∧ Var (kL Int) W0 W' fp_row y.1 v_row ∧ Rp W' y.2 v_cell) (et_t (ew_ge (ew_var (v := v_cell) rfl h_cell) (ew_pow ew_int ew_int))) g0.ok hm (fun y4 σj Wj4 hI hm => ?_) (fun W4 R4 g4 hm kj => ?_) (fun W4 R4 g4 hm kj => ?_)
      ·
        obtain ⟨v_cell, v_row, fp_row, o_turn, rfl, g0, sj4, ho_row, h_cell⟩ := hI
        have h_k := PyI.st sj4 h_k
        have sl2 := sl2.trans sj4
        exact kn2 y4.1 _ Wj4 ⟨v_row, fp_row, _, _, _, rfl, g0, sl2, ho_row⟩ hm
      ·
        have ho_row := ho_row.go g00 g4
        have h_k := PyI.st g4.st h_k
        have h_cell := PyI.st g4.st h_cell
        have sl2 := sl2.trans g4.st
        have g0 := g0.trans g4
        have sj4 := g4.st
        refine st_forR1 (W := W4) ew_int g0.ok hm fun W5 g5 => ?_
        have ho_row := ho_row.go g00 g5
        have h_k := PyI.st g5.st h_k
        have h_cell := PyI.st g5.st h_cell
        have sl2 := sl2.trans g5.st
        have sj4 := sj4.trans g5.st
        have g0 := g0.trans g5
        refine ⟨fun y σ' W' => ∃ (v_cell : V) (v_row : V) (fp_row : List Addr) (o_turn : Option V), σ' = [some (.ref v_script), some v_row, some v_k, some v_cell, o_turn, none] ∧ Gw ef0 W0 W' ∧ St W5 W' ∧ Var (kL Int) W0 W' fp_row y.1 v_row ∧ Rp W' y.2 v_cell, ⟨v_cell, v_row, fp_row, _, rfl, g0, (St.refl _), ho_row, h_cell⟩, fun c5 y5 σi s2 Wi5 R5 nx5 ht hI hm kn5 kb5 kr5 => ?_, fun z5 σi Wi5 hI hm => ?_⟩
        ·
          obtain ⟨v_cell, v_row, fp_row, o_turn, rfl, g0, sl5, ho_row, h_cell⟩ := hI
          have h_k := PyI.st sl5 h_k
          have sl2 := sl2.trans sl5
          have sj4 := sj4.trans sl5
          obtain ⟨v_turn, rfl, h_turn⟩ := ht
          refine st_join (W := Wi5) (s := (List Int) × Int) (fun y σ' W' => ∃ (v_cell : V) (v_row : V) (fp_row : List Addr), σ' = [some (.ref v_script), some v_row, some v_k, some v_cell, some v_turn, none] ∧ Gw ef0 W0 W' ∧ St Wi5 W' ∧ Var (kL Int) W0 W' fp_row y.1 v_row ∧ Rp W' y.2 v_cell) (et_t (ew_gt (ew_var (v := v_cell) rfl h_cell) ew_int)) g0.ok hm (fun y6 σj Wj6 hI hm => ?_) (fun W6 R6 g6 hm kj => ?_) (fun W6 R6 g6 hm kj => ?_)
          ·
            obtain ⟨v_cell, v_row, fp_row, rfl, g0, sj6, ho_row, h_cell⟩ := hI
            have h_k := PyI.st sj6 h_k
            have h_turn := PyI.st sj6 h_turn
            have sl2 := sl2.trans sj6
            have sj4 := sj4.trans sj6
            have sl5 := sl5.trans sj6
            exact kn5 (y6.1, y6.2) _ Wj6 ⟨v_cell, v_row, fp_row, _, rfl, g0, sl5, ho_row, h_cell⟩ hm
          ·
            have ho_row := ho_row.go g00 g6
            have h_k := PyI.st g6.st h_k
            have h_cell := PyI.st g6.st h_cell
            have h_turn := PyI.st g6.st h_turn
            have sl2 := sl2.trans g6.st
            have sj4 := sj4.trans g6.st
            have sl5 := sl5.trans g6.st
            have g0 := g0.trans g6
            have sj6 := g6.st
            refine q_app (W := W6) g00 g0 rfl ho_row (ew_mod (ew_var (v := v_cell) rfl h_cell) ew_int) hm fun a7_row W7_ W7 l_row el_row g7 s g02 kk ff ho_row hm => ?_
            have h_k := PyI.st g7.st h_k
            have h_cell := PyI.st g7.st h_cell
            have h_turn := PyI.st g7.st h_turn
            have sl2 := sl2.trans g7.st
            have sj4 := sj4.trans g7.st
            have sl5 := sl5.trans g7.st
            have sj6 := sj6.trans g7.st
            have g0 := g0.trans g7
            have h_k := PyI.st s h_k
            have h_cell := PyI.st s h_cell
            have h_turn := PyI.st s h_turn
            have sl2 := sl2.trans s
            have sj4 := sj4.trans s
            have sl5 := sl5.trans s
            have sj6 := sj6.trans s
            have g0 := g02
            refine st_asg (W := W7) (ew_fdiv (ew_var (v := v_cell) rfl h_cell) ew_int) g0.ok hm fun a8_cell v_cell W8 g8 h_cell hm => ?_
            have ho_row := ho_row.go g00 g8
            have h_k := PyI.st g8.st h_k
            have h_turn := PyI.st g8.st h_turn
            have sl2 := sl2.trans g8.st
            have sj4 := sj4.trans g8.st
            have sl5 := sl5.trans g8.st
            have sj6 := sj6.trans g8.st
            have g0 := g0.trans g8
            exact kj (a7_row, a8_cell) _ W8 ⟨v_cell, v_row, fp_row, rfl, g0, sj6, ho_row, h_cell⟩ hm
          ·
            have ho_row := ho_row.go g00 g6
            have h_k := PyI.st g6.st h_k
            have h_cell := PyI.st g6.st h_cell
            have h_turn := PyI.st g6.st h_turn
            have sl2 := sl2.trans g6.st
            have sj4 := sj4.trans g6.st
            have sl5 := sl5.trans g6.st
            have g0 := g0.trans g6
            have sj6 := g6.st
            refine st_next ?_
            exact kj (y5.1, y5.2) _ W6 ⟨v_cell, v_row, fp_row, rfl, g0, sj6, ho_row, h_cell⟩ hm
        ·
          obtain ⟨v_cell, v_row, fp_row, o_turn, rfl, g0, sl5, ho_row, h_cell⟩ := hI
          have h_k := PyI.st sl5 h_k
          have sl2 := sl2.trans sl5
          have sj4 := sj4.trans sl5
          exact kj (z5.1, z5.2) _ Wi5 ⟨v_cell, v_row, fp_row, _, rfl, g0, sj4, ho_row, h_cell⟩ hm
      ·
        have ho_row := ho_row.go g00 g4
        have h_k := PyI.st g4.st h_k
        have h_cell := PyI.st g4.st h_cell
        have sl2 := sl2.trans g4.st
        have g0 := g0.trans g4
        have sj4 := g4.st
        refine q_asg (W := W4) (ew_add (ew_add (ew_mul (ew_mod (ew_var (v := v_cell) rfl h_cell) ew_int) ew_int) (ew_mul (ew_var (v := v_k) rfl h_k) ew_int)) ew_int) g0.ok hm fun a9_cell v_cell W9 g9 h_cell hm => ?_
        have ho_row := ho_row.go g00 g9
        have h_k := PyI.st g9.st h_k
        have sl2 := sl2.trans g9.st
        have sj4 := sj4.trans g9.st
        have g0 := g0.trans g9
        first | refine norm_st (σ' := [some (.ref v_script), some v_row, some v_k, some v_cell, o_turn, none]) rfl ?_ | skip
        refine st_forR1 (W := W9) ew_int g0.ok hm fun W10 g10 => ?_
        have ho_row := ho_row.go g00 g10
        have h_k := PyI.st g10.st h_k
        have h_cell := PyI.st g10.st h_cell
        have sl2 := sl2.trans g10.st
        have sj4 := sj4.trans g10.st
        have g0 := g0.trans g10
        refine ⟨fun y σ' W' => ∃ (v_cell : V) (v_row : V) (fp_row : List Addr) (o_turn : Option V), σ' = [some (.ref v_script), some v_row, some v_k, some v_cell, o_turn, none] ∧ Gw ef0 W0 W' ∧ St W10 W' ∧ Var (kL Int) W0 W' fp_row y.1 v_row ∧ Rp W' y.2 v_cell, ⟨v_cell, v_row, fp_row, _, rfl, g0, (St.refl _), ho_row, h_cell⟩, fun c10 y10 σi s2 Wi10 R10 nx10 ht hI hm kn10 kb10 kr10 => ?_, fun z10 σi Wi10 hI hm => ?_⟩
        ·
          obtain ⟨v_cell, v_row, fp_row, o_turn, rfl, g0, sl10, ho_row, h_cell⟩ := hI
          have h_k := PyI.st sl10 h_k
          have sl2 := sl2.trans sl10
          have sj4 := sj4.trans sl10
          obtain ⟨v_turn, rfl, h_turn⟩ := ht
          refine q_asg (W := Wi10) (ew_mod (ew_add (ew_add (ew_mul (ew_var (v := v_cell) rfl h_cell) ew_int) ew_int) (ew_var (v := v_turn) rfl h_turn)) ew_int) g0.ok hm fun a11_cell v_cell W11 g11 h_cell hm => ?_
          have ho_row := ho_row.go g00 g11
          have h_k := PyI.st g11.st h_k
          have h_turn := PyI.st g11.st h_turn
          have sl2 := sl2.trans g11.st
          have sj4 := sj4.trans g11.st
          have sl10 := sl10.trans g11.st
          have g0 := g0.trans g11
          refine st_app (W := W11) g00 g0 rfl ho_row (ew_mod (ew_fdiv (ew_var (v := v_cell) rfl h_cell) ew_int) ew_int) hm fun a12_row W12_ W12 l_row el_row g12 s g02 kk ff ho_row hm => ?_
          have h_k := PyI.st g12.st h_k
          have h_cell := PyI.st g12.st h_cell
          have h_turn := PyI.st g12.st h_turn
          have sl2 := sl2.trans g12.st
          have sj4 := sj4.trans g12.st
          have sl10 := sl10.trans g12.st
          have g0 := g0.trans g12
          have h_k := PyI.st s h_k
          have h_cell := PyI.st s h_cell
          have h_turn := PyI.st s h_turn
          have sl2 := sl2.trans s
          have sj4 := sj4.trans s
          have sl10 := sl10.trans s
          have g0 := g02
          exact kn10 (a12_row, a11_cell) _ W12 ⟨v_cell, v_row, fp_row, _, rfl, g0, sl10, ho_row, h_cell⟩ hm
        ·
          obtain ⟨v_cell, v_row, fp_row, o_turn, rfl, g0, sl10, ho_row, h_cell⟩ := hI
          have h_k := PyI.st sl10 h_k
          have sl2 := sl2.trans sl10
          have sj4 := sj4.trans sl10
          exact kj (z10.1, z10.2) _ Wi10 ⟨v_cell, v_row, fp_row, _, rfl, g0, sj4, ho_row, h_cell⟩ hm
    ·
      obtain ⟨v_row, fp_row, o_k, o_cell, o_turn, rfl, g0, sl2, ho_row⟩ := hI
      refine q_asg (W := Wi2) (ew_add (ew_sum (ew_varR (v := v_row) rfl (Var.nS g00 ho_row) ho_row.own)) (ew_lenQ rfl (sqL_g g0 h_script))) g0.ok hm fun a13_total v_total W13 g13 h_total hm => ?_
      have ho_row := ho_row.go g00 g13
      have g0 := g0.trans g13
      first | refine norm_st (σ' := [some (.ref v_script), some v_row, o_k, o_cell, o_turn, some v_total]) rfl ?_ | skip
      exact st_retdeal g00 g0 rfl ho_row (ew_var (v := v_total) rfl h_total) hm fun t v W1 g hn nd hm => kk v W1 g hn nd
abbrev s_is_square : Stmt := top 1
abbrev N_is_square : List Str := ["chart", "square", "row", "column"]
abbrev P_is_square : List Str := ["chart", "square"]
theorem sc_is_square : FnScope N_is_square P_is_square (defScope s_is_square) := ⟨rfl, rfl, rfl, by decide +kernel, rfl, by decide +kernel, by decide +kernel⟩
def m_is_square (a_chart : (List Str)) (a_square : Sq) : WP Bool := (WP.pure a_square).bind fun a1_row_column => (WP.and (WP.chain (fun i j => decide (i ≤ j)) (fun i j => decide (i < j)) (WP.pure (0 : Int)) (WP.pure a1_row_column.1) (WP.len (WP.pure a_chart))) (WP.chain (fun i j => decide (i ≤ j)) (fun i j => decide (i < j)) (WP.pure (0 : Int)) (WP.pure a1_row_column.2) (WP.lenS (WP.ix (WP.pure a_chart) (WP.pure (0 : Int)))))).bind fun r2 => (WP.pure r2)
def sp_is_square : Sp := fun vs H Q _ => ∃ (W : Wo) (a_chart : (List Str)) (a_square : Sq) (v_chart v_square : V), vs = [v_chart, v_square] ∧ W.H = H ∧ Good ef0 W ∧ Rp W a_chart v_chart ∧ Rp W a_square v_square ∧ (m_is_square a_chart a_square).run W.n fun n r => ∀ v W', Gw ef0 W W' → W'.n = n → (sI (e := ef0) (α := Bool)).post W W' r v → Q v W'.H
theorem ev_is_square {e : Ef} {σ : L2.St} {W : Wo} {E : XK} {t0 t1 : TE} {w0 : WP (List Str)} {w1 : WP Sq} (h0 : EvW e t0 σ W sI w0) (h1 : EvW e t1 σ W sI w1) : EvW e (tCall sp_is_square [] E (tCons t0 (tCons t1 tNil))) σ W (sI (α := Bool)) (WP.b2 w0 w1 m_is_square) := ew_call2N h0 h1 fun W2 b0 b1 x0 x1 g2 r0 r1 Q q E => by
  exact ⟨W2, b0, b1, x0, x1, rfl, rfl, g2.z, r0, r1, WP.mono _ (fun n c h v W3 g3 hn p => h v W3 (Gw.up g2 g3) hn p) q⟩
theorem ok_is_square (F : At K mg "is_square" s_is_square P_is_square) (G : Glb mg)  : Has P w K mg base "is_square" 1 P_is_square sp_is_square := by
  refine Has.of F sc_is_square (fun vs H Q E h => ?_) (fun f cdv A outer s H0 vs Q E hr h => ?_)
  · obtain ⟨W0, a_chart, a_square, v_chart, v_square, rfl, _⟩ := h
    rfl
  · obtain ⟨W0, a_chart, a_square, v_chart, v_square, rfl, rfl, g00, h_chart, h_square, hm⟩ := h
    have sc := sc_is_square
    have g0 := Gw.refl g00
    unfold m_is_square at hm
    refine ⟨_, (pss_cons (ps_asg (pv 1) (pg_tup rfl (pgs_cons (pg_name (i := 2) sc.nd rfl (Or.inl rfl)) (pgs_cons (pg_name (i := 3) sc.nd rfl (Or.inl rfl)) pgs_nil))))
      (pss_one (ps_ret (pe_and (pe_chain op_le op_lt pe_int (pv 2) (pe_callB call_len_seq (by rfl) G.len PySem.boot_len (pa_cons (pv 0) pa_nil))) (pe_one (pe_chain op_le op_lt pe_int (pv 3) (pe_callB call_len_str (by rfl) G.len PySem.boot_len (pa_cons (pe_ix ix_tup (pv 0) pe_int (fun _ _ => rfl)) pa_nil)))))))), ?_⟩
    refine q_un2 (W := W0) (ew_var (v := v_square) rfl h_square) g0.ok hm fun a1_row_column v_row v_column W1 g1 h_row h_column hm => ?_
    have h_chart := PyI.st g1.st h_chart
    have h_square := PyI.st g1.st h_square
    have g0 := g0.trans g1
    first | refine norm_st (σ' := [some v_chart, some v_square, some v_row, some v_column]) rfl ?_ | skip
    refine st_ret (W := W1) (ew_andV (ew_chain (C := fun i j => decide (i ≤ j)) (C' := fun i j => decide (i < j)) ew_int (ew_var (v := v_row) rfl h_row) (ew_lenT (ew_var (v := v_chart) rfl h_chart))) (ew_chain (C := fun i j => decide (i ≤ j)) (C' := fun i j => decide (i < j)) ew_int (ew_var (v := v_column) rfl h_column) (ew_lenS (ew_ixT (ew_var (v := v_chart) rfl h_chart) ew_int)))) g0.ok hm fun r2 v_ret W2 g2 hp hm => ?_
    exact hm v_ret W2 (g0.trans g2) rfl hp
abbrev s_side_neighbours : Stmt := top 2
abbrev N_side_neighbours : List Str := ["square", "row", "column"]
abbrev P_side_neighbours : List Str := ["square"]
theorem sc_side_neighbours : FnScope N_side_neighbours P_side_neighbours (defScope s_side_neighbours) := ⟨rfl, rfl, rfl, by decide +kernel, rfl, by decide +kernel, by decide +kernel⟩
def m_side_neighbours (a_square : Sq) : WP (List Sq) := (WP.pure a_square).bind fun a1_row_column => (WP.row (WP.consE (WP.pair (WP.sub (WP.pure a1_row_column.1) (WP.pure (1 : Int))) (WP.pure a1_row_column.2)) (WP.consE (WP.pair (WP.pure a1_row_column.1) (WP.sub (WP.pure a1_row_column.2) (WP.pure (1 : Int)))) (WP.consE (WP.pair (WP.pure a1_row_column.1) (WP.add (WP.pure a1_row_column.2) (WP.pure (1 : Int)))) (WP.consE (WP.pair (WP.add (WP.pure a1_row_column.1) (WP.pure (1 : Int))) (WP.pure a1_row_column.2)) (WP.pure ([] : List Sq))))))).bind fun r2 => (WP.pure r2)
def sp_side_neighbours : Sp := fun vs H Q _ => ∃ (W : Wo) (a_square : Sq) (v_square : V), vs = [v_square] ∧ W.H = H ∧ Good ef0 W ∧ Rp W a_square v_square ∧ (m_side_neighbours a_square).run W.n fun n r => ∀ v W', Gw ef0 W W' → W'.n = n → (sN (e := ef0) (kL Sq)).post W W' r v → Q v W'.H
theorem ev_side_neighbours {e : Ef} {σ : L2.St} {W : Wo} {E : XK} {t0 : TE} {w0 : WP Sq} (h0 : EvW e t0 σ W sI w0) : EvW e (tCall sp_side_neighbours [] E (tCons t0 tNil)) σ W (sN (kL Sq)) (WP.b1 w0 m_side_neighbours) := ew_call1N h0 fun W2 b0 x0 g2 r0 Q q E => by
  exact ⟨W2, b0, x0, rfl, rfl, g2.z, r0, WP.mono _ (fun n c h v W3 g3 hn p => h v W3 (Gw.up g2 g3) hn (sN_up g2 p)) q⟩
theorem ok_side_neighbours (F : At K mg "side_neighbours" s_side_neighbours P_side_neighbours) (G : Glb mg)  : Has P w K mg base "side_neighbours" 1 P_side_neighbours sp_side_neighbours := by
  refine Has.of F sc_side_neighbours (fun vs H Q E h => ?_) (fun f cdv A outer s H0 vs Q E hr h => ?_)
  · obtain ⟨W0, a_square, v_square, rfl, _⟩ := h
    rfl
  · obtain ⟨W0, a_square, v_square, rfl, rfl, g00, h_square, hm⟩ := h
    have sc := sc_side_neighbours
    have g0 := Gw.refl g00
    unfold m_side_neighbours at hm
    refine ⟨_, (pss_cons (ps_asg (pv 0) (pg_tup rfl (pgs_cons (pg_name (i := 1) sc.nd rfl (Or.inl rfl)) (pgs_cons (pg_name (i := 2) sc.nd rfl (Or.inl rfl)) pgs_nil))))
      (pss_one (ps_ret (pe_lst (pa_cons (pe_tup (pa_cons (pe_op op_sub (pv 1) pe_int) (pa_cons (pv 2) pa_nil))) (pa_cons (pe_tup (pa_cons (pv 1) (pa_cons (pe_op op_sub (pv 2) pe_int) pa_nil))) (pa_cons (pe_tup (pa_cons (pv 1) (pa_cons (pe_op op_add (pv 2) pe_int) pa_nil))) (pa_cons (pe_tup (pa_cons (pe_op op_add (pv 1) pe_int) (pa_cons (pv 2) pa_nil))) pa_nil)))))))), ?_⟩
    refine q_un2 (W := W0) (ew_var (v := v_square) rfl h_square) g0.ok hm fun a1_row_column v_row v_column W1 g1 h_row h_column hm => ?_
    have h_square := PyI.st g1.st h_square
    have g0 := g0.trans g1
    first | refine norm_st (σ' := [some v_square, some v_row, some v_column]) rfl ?_ | skip
    refine st_ret (W := W1) (ew_lst (eas_cons (ew_pair (ew_sub (ew_var (v := v_row) rfl h_row) ew_int) (ew_var (v := v_column) rfl h_column)) (eas_cons (ew_pair (ew_var (v := v_row) rfl h_row) (ew_sub (ew_var (v := v_column) rfl h_column) ew_int)) (eas_cons (ew_pair (ew_var (v := v_row) rfl h_row) (ew_add (ew_var (v := v_column) rfl h_column) ew_int)) (eas_cons (ew_pair (ew_add (ew_var (v := v_row) rfl h_row) ew_int) (ew_var (v := v_column) rfl h_column)) (eas_nil (α := Sq))))))) g0.ok hm fun r2 v_ret W2 g2 hp hm => ?_
    exact hm v_ret W2 (g0.trans g2) rfl ((sN (kL Sq)).back g0 hp)
abbrev s_height : Stmt := top 5
abbrev N_height : List Str := ["relief", "square"]
abbrev P_height : List Str := ["relief", "square"]
theorem sc_height : FnScope N_height P_height (defScope s_height) := ⟨rfl, rfl, rfl, by decide +kernel, rfl, by decide +kernel, by decide +kernel⟩
def m_height (a_relief : (List Str)) (a_square : Sq) : WP Int := (WP.index (WP.pure ("0123456789" : Str)) (WP.ixS (WP.ix (WP.pure a_relief) (WP.fst (WP.pure a_square))) (WP.snd (WP.pure a_square)))).bind fun r1 => (WP.pure r1)
def sp_height : Sp := fun vs H Q _ => ∃ (W : Wo) (a_relief : (List Str)) (a_square : Sq) (v_relief v_square : V), vs = [v_relief, v_square] ∧ W.H = H ∧ Good ef0 W ∧ Rp W a_relief v_relief ∧ Rp W a_square v_square ∧ (m_height a_relief a_square).run W.n fun n r => ∀ v W', Gw ef0 W W' → W'.n = n → (sI (e := ef0) (α := Int)).post W W' r v → Q v W'.H
theorem ev_height {e : Ef} {σ : L2.St} {W : Wo} {E : XK} {t0 t1 : TE} {w0 : WP (List Str)} {w1 : WP Sq} (h0 : EvW e t0 σ W sI w0) (h1 : EvW e t1 σ W sI w1) : EvW e (tCall sp_height [] E (tCons t0 (tCons t1 tNil))) σ W (sI (α := Int)) (WP.b2 w0 w1 m_height) := ew_call2N h0 h1 fun W2 b0 b1 x0 x1 g2 r0 r1 Q q E => by
  exact ⟨W2, b0, b1, x0, x1, rfl, rfl, g2.z, r0, r1, WP.mono _ (fun n c h v W3 g3 hn p => h v W3 (Gw.up g2 g3) hn p) q⟩
theorem ok_height (F : At K mg "height" s_height P_height) (G : Glb mg)  : Has P w K mg base "height" 1 P_height sp_height := by
  refine Has.of F sc_height (fun vs H Q E h => ?_) (fun f cdv A outer s H0 vs Q E hr h => ?_)
  · obtain ⟨W0, a_relief, a_square, v_relief, v_square, rfl, _⟩ := h
    rfl
  · obtain ⟨W0, a_relief, a_square, v_relief, v_square, rfl, rfl, g00, h_relief, h_square, hm⟩ := h
    have sc := sc_height
    have g0 := Gw.refl g00
    unfold m_height at hm
    refine ⟨_, (pss_one (ps_ret (pe_m1 PySem.F.slot_str_index PySem.F.type_str_index mt_index (pe_glob (v := .str "0123456789") rfl G.c_DIGITS.choose_spec ⟨_, rfl⟩) (pe_ix ix_str (pe_ix ix_tup (pv 0) (pe_ix ix_tup (pv 1) pe_int (fun _ _ => rfl)) (fun _ _ => rfl)) (pe_ix ix_tup (pv 1) pe_int (fun _ _ => rfl)) (fun _ _ => rfl))))), ?_⟩
    refine st_ret (W := W0) (ew_index ew_str (ew_ixS (ew_ixT (ew_var (v := v_relief) rfl h_relief) (ew_fst (ew_var (v := v_square) rfl h_square))) (ew_snd (ew_var (v := v_square) rfl h_square)))) g0.ok hm fun r1 v_ret W1 g1 hp hm => ?_
    exact hm v_ret W1 (g0.trans g1) rfl hp
abbrev s_is_dry : Stmt := top 7
abbrev N_is_dry : List Str := ["relief", "tide", "square", "time"]
abbrev P_is_dry : List Str := ["relief", "tide", "square", "time"]
theorem sc_is_dry : FnScope N_is_dry P_is_dry (defScope s_is_dry) := ⟨rfl, rfl, rfl, by decide +kernel, rfl, by decide +kernel, by decide +kernel⟩
def m_is_dry (a_relief : (List Str)) (a_tide : (List Int)) (a_square : Sq) (a_time : Int) : WP Bool := (WP.ge (WP.b2 (WP.pure a_relief) (WP.pure a_square) m_height) (WP.ix (WP.pure a_tide) (WP.mod (WP.pure a_time) (WP.len (WP.pure a_tide))))).bind fun r1 => (WP.pure r1)
def sp_is_dry : Sp := fun vs H Q _ => ∃ (W : Wo) (a_relief : (List Str)) (a_tide : (List Int)) (a_square : Sq) (a_time : Int) (v_relief v_tide v_square v_time : V), vs = [v_relief, v_tide, v_square, v_time] ∧ W.H = H ∧ Good ef0 W ∧ Rp W a_relief v_relief ∧ Rp W a_tide v_tide ∧ Rp W a_square v_square ∧ Rp W a_time v_time ∧ (m_is_dry a_relief a_tide a_square a_time).run W.n fun n r => ∀ v W', Gw ef0 W W' → W'.n = n → (sI (e := ef0) (α := Bool)).post W W' r v → Q v W'.H
theorem ev_is_dry {e : Ef} {σ : L2.St} {W : Wo} {E : XK} {t0 t1 t2 t3 : TE} {w0 : WP (List Str)} {w1 : WP (List Int)} {w2 : WP Sq} {w3 : WP Int} (h0 : EvW e t0 σ W sI w0) (h1 : EvW e t1 σ W sI w1) (h2 : EvW e t2 σ W sI w2) (h3 : EvW e t3 σ W sI w3) : EvW e (tCall sp_is_dry [] E (tCons t0 (tCons t1 (tCons t2 (tCons t3 tNil))))) σ W (sI (α := Bool)) (WP.b4 w0 w1 w2 w3 m_is_dry) := ew_call4N h0 h1 h2 h3 fun W2 b0 b1 b2 b3 x0 x1 x2 x3 g2 r0 r1 r2 r3 Q q E => by
  exact ⟨W2, b0, b1, b2, b3, x0, x1, x2, x3, rfl, rfl, g2.z, r0, r1, r2, r3, WP.mono _ (fun n c h v W3 g3 hn p => h v W3 (Gw.up g2 g3) hn p) q⟩
theorem ok_is_dry (F : At K mg "is_dry" s_is_dry P_is_dry) (G : Glb mg) (H_height : Has P w K mg base "height" 1 P_height sp_height) : Has P w K mg base "is_dry" 2 P_is_dry sp_is_dry := by
  refine Has.of F sc_is_dry (fun vs H Q E h => ?_) (fun f cdv A outer s H0 vs Q E hr h => ?_)
  · obtain ⟨W0, a_relief, a_tide, a_square, a_time, v_relief, v_tide, v_square, v_time, rfl, _⟩ := h
    rfl
  · obtain ⟨W0, a_relief, a_tide, a_square, a_time, v_relief, v_tide, v_square, v_time, rfl, rfl, g00, h_relief, h_tide, h_square, h_time, hm⟩ := h
    have sc := sc_is_dry
    have g0 := Gw.refl g00
    unfold m_is_dry at hm
    refine ⟨_, (pss_one (ps_ret (pe_cmpR op_ge (pe_user H_height (hr.mono (by decide)) rfl (pa_cons (pv 0) (pa_cons (pv 2) pa_nil))) (pe_ix ix_tup (pv 1) (pe_op op_mod (pv 3) (pe_callB call_len_seq (by rfl) G.len PySem.boot_len (pa_cons (pv 1) pa_nil))) (fun _ _ => rfl)) (nomark _)))), ?_⟩
    refine st_ret (W := W0) (ew_ge (ev_height (ew_var (v := v_relief) rfl h_relief) (ew_var (v := v_square) rfl h_square)) (ew_ixT (ew_var (v := v_tide) rfl h_tide) (ew_mod (ew_var (v := v_time) rfl h_time) (ew_lenT (ew_var (v := v_tide) rfl h_tide))))) g0.ok hm fun r1 v_ret W1 g1 hp hm => ?_
    exact hm v_ret W1 (g0.trans g1) rfl hp
abbrev s_stays : Stmt := top 8
abbrev N_stays : List Str := ["square"]
abbrev P_stays : List Str := ["square"]
theorem sc_stays : FnScope N_stays P_stays (defScope s_stays) := ⟨rfl, rfl, rfl, by decide +kernel, rfl, by decide +kernel, by decide +kernel⟩
def m_stays (a_square : Sq) : WP (List Sq) := (WP.cat (WP.row (WP.consE (WP.pure a_square) (WP.pure ([] : List Sq)))) (WP.b1 (WP.pure a_square) m_side_neighbours)).bind fun r1 => (WP.pure r1)
def sp_stays : Sp := fun vs H Q _ => ∃ (W : Wo) (a_square : Sq) (v_square : V), vs = [v_square] ∧ W.H = H ∧ Good ef0 W ∧ Rp W a_square v_square ∧ (m_stays a_square).run W.n fun n r => ∀ v W', Gw ef0 W W' → W'.n = n → (sN (e := ef0) (kL Sq)).post W W' r v → Q v W'.H
theorem ev_stays {e : Ef} {σ : L2.St} {W : Wo} {E : XK} {t0 : TE} {w0 : WP Sq} (h0 : EvW e t0 σ W sI w0) : EvW e (tCall sp_stays [] E (tCons t0 tNil)) σ W (sN (kL Sq)) (WP.b1 w0 m_stays) := ew_call1N h0 fun W2 b0 x0 g2 r0 Q q E => by
  exact ⟨W2, b0, x0, rfl, rfl, g2.z, r0, WP.mono _ (fun n c h v W3 g3 hn p => h v W3 (Gw.up g2 g3) hn (sN_up g2 p)) q⟩
theorem ok_stays (F : At K mg "stays" s_stays P_stays) (G : Glb mg) (H_side_neighbours : Has P w K mg base "side_neighbours" 1 P_side_neighbours sp_side_neighbours) : Has P w K mg base "stays" 2 P_stays sp_stays := by
  refine Has.of F sc_stays (fun vs H Q E h => ?_) (fun f cdv A outer s H0 vs Q E hr h => ?_)
  · obtain ⟨W0, a_square, v_square, rfl, _⟩ := h
    rfl
  · obtain ⟨W0, a_square, v_square, rfl, rfl, g00, h_square, hm⟩ := h
    have sc := sc_stays
    have g0 := Gw.refl g00
    unfold m_stays at hm
    refine ⟨_, (pss_one (ps_ret (pe_op op_cat (pe_lst (pa_cons (pv 0) pa_nil)) (pe_user H_side_neighbours (hr.mono (by decide)) rfl (pa_cons (pv 0) pa_nil))))), ?_⟩
    refine st_ret (W := W0) (ew_cat (ew_rd (ew_lst (eas_cons (ew_var (v := v_square) rfl h_square) (eas_nil (α := Sq))))) (ew_rd (ev_side_neighbours (ew_var (v := v_square) rfl h_square)))) g0.ok hm fun r1 v_ret W1 g1 hp hm => ?_
    exact hm v_ret W1 (g0.trans g1) rfl ((sN (kL Sq)).back g0 hp)
abbrev s_steps_from : Stmt := top 9
abbrev N_steps_from : List Str := ["relief", "tide", "square", "time", "other"]
abbrev P_steps_from : List Str := ["relief", "tide", "square", "time"]
theorem sc_steps_from : FnScope N_steps_from P_steps_from (defScope s_steps_from) := ⟨rfl, rfl, rfl, by decide +kernel, rfl, by decide +kernel, by decide +kernel⟩
def m_steps_from (a_relief : (List Str)) (a_tide : (List Int)) (a_square : Sq) (a_time : Int) : WP (List Sq) := (WP.lc (WP.b1 (WP.pure a_square) m_stays) (fun c1 => (WP.and (WP.b2 (WP.pure a_relief) (WP.pure c1) m_is_square) (WP.b4 (WP.pure a_relief) (WP.pure a_tide) (WP.pure c1) (WP.add (WP.pure a_time) (WP.pure (1 : Int))) m_is_dry))) (fun c1 => (WP.pure c1))).bind fun r1 => (WP.pure r1)
def sp_steps_from : Sp := fun vs H Q _ => ∃ (W : Wo) (a_relief : (List Str)) (a_tide : (List Int)) (a_square : Sq) (a_time : Int) (v_relief v_tide v_square v_time : V), vs = [v_relief, v_tide, v_square, v_time] ∧ W.H = H ∧ Good ef0 W ∧ Rp W a_relief v_relief ∧ Rp W a_tide v_tide ∧ Rp W a_square v_square ∧ Rp W a_time v_time ∧ (m_steps_from a_relief a_tide a_square a_time).run W.n fun n r => ∀ v W', Gw ef0 W W' → W'.n = n → (sN (e := ef0) (kL Sq)).post W W' r v → Q v W'.H
theorem ev_steps_from {e : Ef} {σ : L2.St} {W : Wo} {E : XK} {t0 t1 t2 t3 : TE} {w0 : WP (List Str)} {w1 : WP (List Int)} {w2 : WP Sq} {w3 : WP Int} (h0 : EvW e t0 σ W sI w0) (h1 : EvW e t1 σ W sI w1) (h2 : EvW e t2 σ W sI w2) (h3 : EvW e t3 σ W sI w3) : EvW e (tCall sp_steps_from [] E (tCons t0 (tCons t1 (tCons t2 (tCons t3 tNil))))) σ W (sN (kL Sq)) (WP.b4 w0 w1 w2 w3 m_steps_from) := ew_call4N h0 h1 h2 h3 fun W2 b0 b1 b2 b3 x0 x1 x2 x3 g2 r0 r1 r2 r3 Q q E => by
  exact ⟨W2, b0, b1, b2, b3, x0, x1, x2, x3, rfl, rfl, g2.z, r0, r1, r2, r3, WP.mono _ (fun n c h v W3 g3 hn p => h v W3 (Gw.up g2 g3) hn (sN_up g2 p)) q⟩
theorem ok_steps_from (F : At K mg "steps_from" s_steps_from P_steps_from) (G : Glb mg) (H_is_dry : Has P w K mg base "is_dry" 2 P_is_dry sp_is_dry) (H_is_square : Has P w K mg base "is_square" 1 P_is_square sp_is_square) (H_stays : Has P w K mg base "stays" 2 P_stays sp_stays) : Has P w K mg base "steps_from" 3 P_steps_from sp_steps_from := by
  refine Has.of F sc_steps_from (fun vs H Q E h => ?_) (fun f cdv A outer s H0 vs Q E hr h => ?_)
  · obtain ⟨W0, a_relief, a_tide, a_square, a_time, v_relief, v_tide, v_square, v_time, rfl, _⟩ := h
    rfl
  · obtain ⟨W0, a_relief, a_tide, a_square, a_time, v_relief, v_tide, v_square, v_time, rfl, rfl, g00, h_relief, h_tide, h_square, h_time, hm⟩ := h
    have sc := sc_steps_from
    have g0 := Gw.refl g00
    unfold m_steps_from at hm
    refine ⟨_, (pss_one (ps_ret (pe_lc (own := [("other", 4)]) (g := gName 4) rfl sc.nd (pi_list (pe_user H_stays (hr.mono (by decide)) rfl (pa_cons (pv 2) pa_nil))) (blkOk_by (N := N_steps_from) (sc := defScope s_steps_from) (by decide +kernel)) (fun _ _ _ _ _ => (pg_name (i := 4) sc.nd rfl (Or.inl rfl))) (fun _ _ _ _ _ => (pts_one (PW.pt (pw_and (pt_val (pe_user H_is_square (hr.mono (by decide)) rfl (pa_cons (pv 0) (pa_cons (pv 4) pa_nil)))) (pw_and1 (pt_val (pe_user H_is_dry (hr.mono (by decide)) rfl (pa_cons (pv 0) (pa_cons (pv 1) (pa_cons (pv 4) (pa_cons (pe_op op_add (pv 3) pe_int) pa_nil))))))))))) (fun _ _ _ _ _ => (pv 4))))), ?_⟩
    refine st_ret (W := W0) (ew_lcL (ew_rd (ev_stays (ew_var (v := v_square) rfl h_square))) takes_N (fun _ _ _ h => by obtain ⟨v_other, ec, h_other⟩ := h; subst ec; rfl) (fun c1 Wc1 s2 gc1 h => by obtain ⟨v_other, ec, h_other⟩ := h; subst ec; have h_relief := PyI.st gc1.st h_relief; have h_tide := PyI.st gc1.st h_tide; have h_square := PyI.st gc1.st h_square; have h_time := PyI.st gc1.st h_time; exact (et_and (et_B (ev_is_square (ew_var (v := v_relief) rfl h_relief) (ew_var (v := v_other) rfl h_other))) (et_B (ev_is_dry (ew_var (v := v_relief) rfl h_relief) (ew_var (v := v_tide) rfl h_tide) (ew_var (v := v_other) rfl h_other) (ew_add (ew_var (v := v_time) rfl h_time) ew_int))))) (fun c1 Wc1 s2 gc1 h => by obtain ⟨v_other, ec, h_other⟩ := h; subst ec; have h_relief := PyI.st gc1.st h_relief; have h_tide := PyI.st gc1.st h_tide; have h_square := PyI.st gc1.st h_square; have h_time := PyI.st gc1.st h_time; exact (ew_var (v := v_other) rfl h_other))) g0.ok hm fun r1 v_ret W1 g1 hp hm => ?_
    exact hm v_ret W1 (g0.trans g1) rfl ((sN (kL Sq)).back g0 hp)
abbrev s_pair_is_right : Stmt := top 10
abbrev N_pair_is_right : List Str := ["relief", "tide", "square", "index"]
abbrev P_pair_is_right : List Str := ["relief", "tide", "square", "index"]
theorem sc_pair_is_right : FnScope N_pair_is_right P_pair_is_right (defScope s_pair_is_right) := ⟨rfl, rfl, rfl, by decide +kernel, rfl, by decide +kernel, by decide +kernel⟩
def m_pair_is_right (a_relief : (List Str)) (a_tide : (List Int)) (a_square : Sq) (a_index : Int) : WP Bool := (WP.and (WP.b2 (WP.pure a_relief) (WP.pure a_square) m_is_square) (WP.chain (fun i j => decide (i ≤ j)) (fun i j => decide (i < j)) (WP.pure (0 : Int)) (WP.pure a_index) (WP.len (WP.pure a_tide)))).bind fun r1 => (WP.pure r1)
def sp_pair_is_right : Sp := fun vs H Q _ => ∃ (W : Wo) (a_relief : (List Str)) (a_tide : (List Int)) (a_square : Sq) (a_index : Int) (v_relief v_tide v_square v_index : V), vs = [v_relief, v_tide, v_square, v_index] ∧ W.H = H ∧ Good ef0 W ∧ Rp W a_relief v_relief ∧ Rp W a_tide v_tide ∧ Rp W a_square v_square ∧ Rp W a_index v_index ∧ (m_pair_is_right a_relief a_tide a_square a_index).run W.n fun n r => ∀ v W', Gw ef0 W W' → W'.n = n → (sI (e := ef0) (α := Bool)).post W W' r v → Q v W'.H
theorem ev_pair_is_right {e : Ef} {σ : L2.St} {W : Wo} {E : XK} {t0 t1 t2 t3 : TE} {w0 : WP (List Str)} {w1 : WP (List Int)} {w2 : WP Sq} {w3 : WP Int} (h0 : EvW e t0 σ W sI w0) (h1 : EvW e t1 σ W sI w1) (h2 : EvW e t2 σ W sI w2) (h3 : EvW e t3 σ W sI w3) : EvW e (tCall sp_pair_is_right [] E (tCons t0 (tCons t1 (tCons t2 (tCons t3 tNil))))) σ W (sI (α := Bool)) (WP.b4 w0 w1 w2 w3 m_pair_is_right) := ew_call4N h0 h1 h2 h3 fun W2 b0 b1 b2 b3 x0 x1 x2 x3 g2 r0 r1 r2 r3 Q q E => by
  exact ⟨W2, b0, b1, b2, b3, x0, x1, x2, x3, rfl, rfl, g2.z, r0, r1, r2, r3, WP.mono _ (fun n c h v W3 g3 hn p => h v W3 (Gw.up g2 g3) hn p) q⟩
theorem ok_pair_is_right (F : At K mg "pair_is_right" s_pair_is_right P_pair_is_right) (G : Glb mg) (H_is_square : Has P w K mg base "is_square" 1 P_is_square sp_is_square) : Has P w K mg base "pair_is_right" 2 P_pair_is_right sp_pair_is_right := by
  refine Has.of F sc_pair_is_right (fun vs H Q E h => ?_) (fun f cdv A outer s H0 vs Q E hr h => ?_)
  · obtain ⟨W0, a_relief, a_tide, a_square, a_index, v_relief, v_tide, v_square, v_index, rfl, _⟩ := h
    rfl
  · obtain ⟨W0, a_relief, a_tide, a_square, a_index, v_relief, v_tide, v_square, v_index, rfl, rfl, g00, h_relief, h_tide, h_square, h_index, hm⟩ := h
    have sc := sc_pair_is_right
    have g0 := Gw.refl g00
    unfold m_pair_is_right at hm
    refine ⟨_, (pss_one (ps_ret (pe_and (pe_user H_is_square (hr.mono (by decide)) rfl (pa_cons (pv 0) (pa_cons (pv 2) pa_nil))) (pe_one (pe_chain op_le op_lt pe_int (pv 3) (pe_callB call_len_seq (by rfl) G.len PySem.boot_len (pa_cons (pv 1) pa_nil))))))), ?_⟩
    refine st_ret (W := W0) (ew_andV (ev_is_square (ew_var (v := v_relief) rfl h_relief) (ew_var (v := v_square) rfl h_square)) (ew_chain (C := fun i j => decide (i ≤ j)) (C' := fun i j => decide (i < j)) ew_int (ew_var (v := v_index) rfl h_index) (ew_lenT (ew_var (v := v_tide) rfl h_tide)))) g0.ok hm fun r1 v_ret W1 g1 hp hm => ?_
    exact hm v_ret W1 (g0.trans g1) rfl hp
abbrev s_late_heights : Stmt := top 11
abbrev N_late_heights : List Str := ["relief", "tide", "paper", "heights", "square", "index", "number"]
abbrev P_late_heights : List Str := ["relief", "tide", "paper"]
theorem sc_late_heights : FnScope N_late_heights P_late_heights (defScope s_late_heights) := ⟨rfl, rfl, rfl, by decide +kernel, rfl, by decide +kernel, by decide +kernel⟩
def m_late_heights (a_relief : (List Str)) (a_tide : (List Int)) (a_paper : (List (Tri Sq Int Int))) : WP (Option (List ((Sq × Int) × Int))) := (WP.pure ([] : (List ((Sq × Int) × Int)))).bind fun a1_heights => WP.after (WP.loop (γ := (Option (List ((Sq × Int) × Int)))) (fun c2 (y2 : (List ((Sq × Int) × Int))) => (WP.or (WP.not (WP.b4 (WP.pure a_relief) (WP.pure a_tide) (WP.pure c2.a) (WP.pure c2.b) m_pair_is_right)) (WP.or (WP.nin (WP.pair (WP.pure c2.a) (WP.pure c2.b)) (WP.pure y2)) (WP.lt (WP.pure c2.c) (WP.pure (0 : Int))))).bind fun b => WP.cond b ((WP.pure (none : (Option (List ((Sq × Int) × Int))))).bind fun r4 => (WP.pure (.rt r4))) ((WP.b2 (WP.pure c2.c) (WP.pair (WP.pure c2.a) (WP.pure c2.b)) fun b q => WP.req (y2.length < 100000) (putD y2 q b)).bind fun a5_heights => (WP.pure (.nx a5_heights)))) a_paper a1_heights) (fun (z2 : (List ((Sq × Int) × Int))) => (WP.pure (some z2))) (fun r => (WP.pure r))
def sp_late_heights (P : Program) (w : World) : Sp := fun vs H Q _ => ∃ (W : Wo) (a_relief : (List Str)) (a_tide : (List Int)) (a_paper : (List (Tri Sq Int Int))) (v_relief v_tide v_paper : V) (fp_paper : List Addr), vs = [v_relief, v_tide, v_paper] ∧ W.H = H ∧ Good ef0 W ∧ Rp W a_relief v_relief ∧ Rp W a_tide v_tide ∧ (kL (Tri Sq Int Int)).own W fp_paper a_paper v_paper ∧ (∀ a ∈ fp_paper, ¬ ef0.S a) ∧ (m_late_heights a_relief a_tide a_paper).run W.n fun n r => ∀ v W', Gw ef0 W W' → W'.n = n → (sN (e := ef0) (kON P w (Sq × Int) Int)).post W W' r v → Q v W'.H
theorem ev_late_heights {e : Ef} {σ : L2.St} {W : Wo} {E : XK} {t0 t1 t2 : TE} {w0 : WP (List Str)} {w1 : WP (List Int)} {w2 : WP (List (Tri Sq Int Int))} (h0 : EvW e t0 σ W sI w0) (h1 : EvW e t1 σ W sI w1) (h2 : EvW e t2 σ W (sR (kL (Tri Sq Int Int))) w2) : EvW e (tCall (sp_late_heights P w) [] E (tCons t0 (tCons t1 (tCons t2 tNil)))) σ W (sN (kON P w (Sq × Int) Int)) (WP.b3 w0 w1 w2 m_late_heights) := ew_call3N h0 h1 h2 fun W2 b0 b1 b2 x0 x1 x2 g2 r0 r1 ⟨fp2, r2, s2⟩ Q q E => by
  exact ⟨W2, b0, b1, b2, x0, x1, x2, fp2, rfl, rfl, g2.z, r0, r1, r2, fun _ _ z => z, WP.mono _ (fun n c h v W3 g3 hn p => h v W3 (Gw.up g2 g3) hn (sN_up g2 p)) q⟩
theorem ok_late_heights (F : At K mg "late_heights" s_late_heights P_late_heights) (G : Glb mg) (H_pair_is_right : Has P w K mg base "pair_is_right" 2 P_pair_is_right sp_pair_is_right) : Has P w K mg base "late_heights" 3 P_late_heights (sp_late_heights P w) := by
  refine Has.of F sc_late_heights (fun vs H Q E h => ?_) (fun f cdv A outer s H0 vs Q E hr h => ?_)
  · obtain ⟨W0, a_relief, a_tide, a_paper, v_relief, v_tide, v_paper, fp_paper, rfl, _⟩ := h
    rfl
  · obtain ⟨W0, a_relief, a_tide, a_paper, v_relief, v_tide, v_paper, fp_paper, rfl, rfl, g00, h_relief, h_tide, hb_paper, hS_paper, hm⟩ := h
    have sc := sc_late_heights
    have g0 := Gw.refl g00
    have hl_paper := (kL (Tri Sq Int Int)).live hb_paper
    have hb0_paper := hb_paper
    unfold m_late_heights at hm
    refine ⟨_, (pss_cons (ps_set (i := 3) sc.nd rfl (Or.inl rfl) pe_nnew)
      (pss_cons (ps_for PassesOwn.never rfl (pi_list (pv 2)) (pg_tup rfl (pgs_cons (pg_name (i := 4) sc.nd rfl (Or.inl rfl)) (pgs_cons (pg_name (i := 5) sc.nd rfl (Or.inl rfl)) (pgs_cons (pg_name (i := 6) sc.nd rfl (Or.inl rfl)) pgs_nil))))
      (pss_cons (ps_if (PW.pt (pw_or (pt_not (pt_val (pe_user H_pair_is_right (hr.mono (by decide)) rfl (pa_cons (pv 0) (pa_cons (pv 1) (pa_cons (pv 4) (pa_cons (pv 5) pa_nil))))))) (pw_or (pt_cmp (pc_nin (hn10 (hu65 hr)) (pe_tup (pa_cons (pv 4) (pa_cons (pv 5) pa_nil))) (pv 3))) (pw_or1 (pt_cmpR op_lt (pv 6) pe_int (nomark _)))))) (pss_one (ps_ret pe_non)) pss_nil)
      (pss_one (ps_nput (hn10 (hu65 hr)) (pv 3) (pe_tup (pa_cons (pv 4) (pa_cons (pv 5) pa_nil))) (pv 6) rfl))))
      (pss_one (ps_ret (pv 3))))), ?_⟩
    refine q_asg (W := W0) (ew_nnew (P := P) (w := w) (κ := (Sq × Int)) (β := Int)) g0.ok hm fun a1_heights v_heights W1 g1 ⟨fp_heights, ho0_heights, hf_heights⟩ hm => ?_
    have hz_heights : ∀ a ∈ fp_heights, W0.H a = none := fun a m => g0.live a (hf_heights a m).1
    have h_relief := PyI.st g1.st h_relief
    have h_tide := PyI.st g1.st h_tide
    have hb_paper := Kd.go g1 hS_paper hb_paper
    have g0 := g0.trans g1
    have ho_heights : Var (kN P w (Sq × Int) Int) W0 W1 fp_heights a1_heights v_heights := ⟨ho0_heights, hz_heights, fun b m => (hf_heights b m).2.2⟩
    obtain ⟨p_it2, vs_it2, ef_it2, ev_it2, hp_it2, hr_it2⟩ := own_list hb_paper
    have nS_it2 := hS_paper p_it2 (by rw [ef_it2]; exact List.mem_singleton.mpr rfl)
    have dj_it2_heights : ∀ b ∈ [p_it2], b ∉ fp_heights := fun b m z => hl_paper b (by rw [ef_it2]; exact m) (ho_heights.fr b z)
    refine q_forV (W := W1) tk_T3 (by rw [← ev_it2]; rfl) hp_it2 hr_it2 hm (fun y σ' W' => ∃ (v_heights : V) (fp_heights : List Addr) (o_square : Option V) (o_index : Option V) (o_number : Option V), σ' = [some v_relief, some v_tide, some v_paper, some v_heights, o_square, o_index, o_number] ∧ Gw ef0 W0 W' ∧ St W1 W' ∧ Var (kN P w (Sq × Int) Int) W0 W' fp_heights y v_heights ∧ W'.H p_it2 = some (.lst vs_it2) ∧ (∀ b ∈ [p_it2], b ∉ fp_heights)) ⟨v_heights, fp_heights, _, _, _, rfl, g0, (St.refl _), ho_heights, hp_it2, dj_it2_heights⟩ (fun _ _ _ hI => ?_) (fun c2 y2 σi s2 Wi2 R2 nx2 ht hI hm kn2 kb2 kr2 => ?_) (fun z2 σi Wi2 hI hm => ?_)
    · obtain ⟨v_heights, fp_heights, o_square, o_index, o_number, rfl, g0, sl2, ho_heights, hp_it2, dj_it2_heights⟩ := hI
      exact ⟨sl2, hp_it2⟩
    ·
      obtain ⟨v_heights, fp_heights, o_square, o_index, o_number, rfl, g0, sl2, ho_heights, hp_it2, dj_it2_heights⟩ := hI
      have h_relief := PyI.st sl2 h_relief
      have h_tide := PyI.st sl2 h_tide
      have hb_paper := Kd.go g0 hS_paper hb0_paper
      obtain ⟨v_square, v_index, v_number, rfl, h_square, h_index, h_number⟩ := ht
      refine q_if (W := Wi2) (et_or (et_not (et_B (ev_pair_is_right (ew_var (v := v_relief) rfl h_relief) (ew_var (v := v_tide) rfl h_tide) (ew_var (v := v_square) rfl h_square) (ew_var (v := v_index) rfl h_index)))) (et_or (et_B (ew_nin (ew_pair (ew_var (v := v_square) rfl h_square) (ew_var (v := v_index) rfl h_index)) (ew_nr (ew_varR (v := v_heights) rfl (Var.nS g00 ho_heights) ho_heights.own)))) (et_t (ew_lt (ew_var (v := v_number) rfl h_number) ew_int)))) g0.ok hm (fun W3 g3 hm => ?_) (fun W3 g3 hm => ?_)
      ·
        have h_relief := PyI.st g3.st h_relief
        have h_tide := PyI.st g3.st h_tide
        have hb_paper := Kd.go g3 hS_paper hb_paper
        have ho_heights := ho_heights.go g00 g3
        have h_square := PyI.st g3.st h_square
        have h_index := PyI.st g3.st h_index
        have h_number := PyI.st g3.st h_number
        have sl2 := sl2.trans g3.st
        have hp_it2 := g3.keep _ _ hp_it2 nS_it2
        have g0 := g0.trans g3
        refine st_ret (W := W3) (ew_nonN (P := P) (w := w) (κ := (Sq × Int)) (β := Int)) g0.ok hm fun r4 v_ret W4 g4 hp hm => ?_
        have hm := kr2 _ _ hm
        exact hm v_ret W4 (g0.trans g4) rfl ((sN (kON P w (Sq × Int) Int)).back g0 hp)
      ·
        have h_relief := PyI.st g3.st h_relief
        have h_tide := PyI.st g3.st h_tide
        have hb_paper := Kd.go g3 hS_paper hb_paper
        have ho_heights := ho_heights.go g00 g3
        have h_square := PyI.st g3.st h_square
        have h_index := PyI.st g3.st h_index
        have h_number := PyI.st g3.st h_number
        have sl2 := sl2.trans g3.st
        have hp_it2 := g3.keep _ _ hp_it2 nS_it2
        have g0 := g0.trans g3
        refine st_next ?_
        refine st_nput (W := W3) g00 g0 rfl ho_heights (ew_var (v := v_number) rfl h_number) (ew_pair (ew_var (v := v_square) rfl h_square) (ew_var (v := v_index) rfl h_index)) hm fun a5_heights W5_ W5 l_heights el_heights g5 s g02 kk ff ho_heights hm => ?_
        have h_relief := PyI.st g5.st h_relief
        have h_tide := PyI.st g5.st h_tide
        have hb_paper := Kd.go g5 hS_paper hb_paper
        have h_square := PyI.st g5.st h_square
        have h_index := PyI.st g5.st h_index
        have h_number := PyI.st g5.st h_number
        have sl2 := sl2.trans g5.st
        have hp_it2 := g5.keep _ _ hp_it2 nS_it2
        have g0 := g0.trans g5
        have h_relief := PyI.st s h_relief
        have h_tide := PyI.st s h_tide
        have hb_paper := Kd.st _ s (kk fp_paper _ Kp.refl fun b m z => hl_paper b m (ho_heights.fr b z)) hb_paper
        have h_square := PyI.st s h_square
        have h_index := PyI.st s h_index
        have h_number := PyI.st s h_number
        have sl2 := sl2.trans s
        have hp_it2 := kk [p_it2] _ Kp.refl dj_it2_heights _ (List.mem_singleton.mpr rfl) _ hp_it2
        have g0 := g02
        exact kn2 a5_heights _ W5 ⟨v_heights, fp_heights, _, _, _, rfl, g0, sl2, ho_heights, hp_it2, dj_it2_heights⟩ hm
    ·
      obtain ⟨v_heights, fp_heights, o_square, o_index, o_number, rfl, g0, sl2, ho_heights, hp_it2, dj_it2_heights⟩ := hI
      have h_relief := PyI.st sl2 h_relief
      have h_tide := PyI.st sl2 h_tide
      have hb_paper := Kd.go g0 hS_paper hb0_paper
      first | refine norm_st (σ' := [some v_relief, some v_tide, some v_paper, some v_heights, o_square, o_index, o_number]) rfl ?_ | skip
      exact ⟨_, rfl, hm _ Wi2 g0 rfl ⟨fp_heights, ho_heights.own, fun b m => ⟨ho_heights.fr b m, Var.nS g00 ho_heights b m, ho_heights.nF b m⟩⟩⟩
abbrev s_shows_late : Stmt := top 12
abbrev N_shows_late : List Str := ["relief", "tide", "start", "goal", "number", "paper", "heights", "index", "pair", "own", "square", "other"]
abbrev P_shows_late : List Str := ["relief", "tide", "start", "goal", "number", "paper"]
theorem sc_shows_late : FnScope N_shows_late P_shows_late (defScope s_shows_late) := ⟨rfl, rfl, rfl, by decide +kernel, rfl, by decide +kernel, by decide +kernel⟩
def m_shows_late (a_relief : (List Str)) (a_tide : (List Int)) (a_start : Sq) (a_goal : Sq) (a_number : Int) (a_paper : (List (Tri Sq Int Int))) : WP Bool := (WP.b3 (WP.pure a_relief) (WP.pure a_tide) (WP.pure a_paper) m_late_heights).bind fun a1_heights => (WP.isN (WP.pure a1_heights)).bind fun b => WP.cond b ((WP.pure false).bind fun r3 => (WP.pure r3)) ((WP.req (a1_heights.isSome = true) (a1_heights.getD [])).bind fun a4_heights => (WP.and (WP.b4 (WP.pure a_relief) (WP.pure a_tide) (WP.pure a_start) (WP.pure (0 : Int)) m_is_dry) (WP.lt (WP.ngetD (WP.pure a4_heights) (WP.pair (WP.pure a_start) (WP.pure (0 : Int))) (WP.pure (0 : Int))) (WP.pure a_number))).bind fun b => WP.cond b ((WP.pure false).bind fun r6 => (WP.pure r6)) ((WP.range1 (WP.len (WP.pure a_tide))).bind fun xs7 => WP.after (WP.loop (γ := Bool) (fun c7 (y7 : Unit) => (WP.and (WP.b4 (WP.pure a_relief) (WP.pure a_tide) (WP.pure a_goal) (WP.pure c7) m_is_dry) (WP.ne (WP.ngetD (WP.pure a4_heights) (WP.pair (WP.pure a_goal) (WP.pure c7)) (WP.pure (0 : Int))) (WP.pure (0 : Int)))).bind fun b => WP.cond b ((WP.pure false).bind fun r9 => (WP.pure (.rt r9))) ((WP.pure (.nx ())))) xs7 ()) (fun (z7 : Unit) => (WP.pure a4_heights).bind fun a10_heights => WP.after (WP.loop (γ := Bool) (fun c11 (y11 : Unit) => (WP.pure c11.1).bind fun a12_square_index => (WP.b4 (WP.pure a_relief) (WP.pure a_tide) (WP.pure a12_square_index.1) (WP.pure a12_square_index.2) m_is_dry).bind fun b => WP.cond b ((WP.b4 (WP.pure a_relief) (WP.pure a_tide) (WP.pure a12_square_index.1) (WP.pure a12_square_index.2) m_steps_from).bind fun xs14 => WP.after (WP.loop (γ := Bool) (fun c14 (y14 : Unit) => (WP.gt (WP.pure c11.2) (WP.add (WP.ngetD (WP.pure a10_heights) (WP.pair (WP.pure c14) (WP.mod (WP.add (WP.pure a12_square_index.2) (WP.pure (1 : Int))) (WP.len (WP.pure a_tide)))) (WP.pure (0 : Int))) (WP.pure (1 : Int)))).bind fun b => WP.cond b ((WP.pure false).bind fun r16 => (WP.pure (.rt r16))) ((WP.pure (.nx ())))) xs14 ()) (fun (z14 : Unit) => (WP.pure (.nx ()))) (fun r => (WP.pure (.rt r)))) ((WP.pure (.nx ())))) a10_heights ()) (fun (z11 : Unit) => (WP.pure true).bind fun r17 => (WP.pure r17)) (fun r => (WP.pure r))) (fun r => (WP.pure r))))
def sp_shows_late : Sp := fun vs H Q _ => ∃ (W : Wo) (a_relief : (List Str)) (a_tide : (List Int)) (a_start : Sq) (a_goal : Sq) (a_number : Int) (a_paper : (List (Tri Sq Int Int))) (v_relief v_tide v_start v_goal v_number v_paper : V) (fp_paper : List Addr), vs = [v_relief, v_tide, v_start, v_goal, v_number, v_paper] ∧ W.H = H ∧ Good ef0 W ∧ Rp W a_relief v_relief ∧ Rp W a_tide v_tide ∧ Rp W a_start v_start ∧ Rp W a_goal v_goal ∧ Rp W a_number v_number ∧ (kL (Tri Sq Int Int)).own W fp_paper a_paper v_paper ∧ (∀ a ∈ fp_paper, ¬ ef0.S a) ∧ (m_shows_late a_relief a_tide a_start a_goal a_number a_paper).run W.n fun n r => ∀ v W', Gw ef0 W W' → W'.n = n → (sI (e := ef0) (α := Bool)).post W W' r v → Q v W'.H
theorem ev_shows_late {e : Ef} {σ : L2.St} {W : Wo} {E : XK} {t0 t1 t2 t3 t4 t5 : TE} {w0 : WP (List Str)} {w1 : WP (List Int)} {w2 : WP Sq} {w3 : WP Sq} {w4 : WP Int} {w5 : WP (List (Tri Sq Int Int))} (h0 : EvW e t0 σ W sI w0) (h1 : EvW e t1 σ W sI w1) (h2 : EvW e t2 σ W sI w2) (h3 : EvW e t3 σ W sI w3) (h4 : EvW e t4 σ W sI w4) (h5 : EvW e t5 σ W (sR (kL (Tri Sq Int Int))) w5) : EvW e (tCall sp_shows_late [] E (tCons t0 (tCons t1 (tCons t2 (tCons t3 (tCons t4 (tCons t5 tNil))))))) σ W (sI (α := Bool)) (WP.b6 w0 w1 w2 w3 w4 w5 m_shows_late) := ew_call6N h0 h1 h2 h3 h4 h5 fun W2 b0 b1 b2 b3 b4 b5 x0 x1 x2 x3 x4 x5 g2 r0 r1 r2 r3 r4 ⟨fp5, r5, s5⟩ Q q E => by
  exact ⟨W2, b0, b1, b2, b3, b4, b5, x0, x1, x2, x3, x4, x5, fp5, rfl, rfl, g2.z, r0, r1, r2, r3, r4, r5, fun _ _ z => z, WP.mono _ (fun n c h v W3 g3 hn p => h v W3 (Gw.up g2 g3) hn p) q⟩
theorem ok_shows_late (F : At K mg "shows_late" s_shows_late P_shows_late) (G : Glb mg) (H_is_dry : Has P w K mg base "is_dry" 2 P_is_dry sp_is_dry) (H_late_heights : Has P w K mg base "late_heights" 3 P_late_heights (sp_late_heights P w)) (H_steps_from : Has P w K mg base "steps_from" 3 P_steps_from sp_steps_from) : Has P w K mg base "shows_late" 4 P_shows_late sp_shows_late := by
  refine Has.of F sc_shows_late (fun vs H Q E h => ?_) (fun f cdv A outer s H0 vs Q E hr h => ?_)
  · obtain ⟨W0, a_relief, a_tide, a_start, a_goal, a_number, a_paper, v_relief, v_tide, v_start, v_goal, v_number, v_paper, fp_paper, rfl, _⟩ := h
    rfl
  · obtain ⟨W0, a_relief, a_tide, a_start, a_goal, a_number, a_paper, v_relief, v_tide, v_start, v_goal, v_number, v_paper, fp_paper, rfl, rfl, g00, h_relief, h_tide, h_start, h_goal, h_number, hb_paper, hS_paper, hm⟩ := h
    have sc := sc_shows_late
    have g0 := Gw.refl g00
    have hl_paper := (kL (Tri Sq Int Int)).live hb_paper
    have hb0_paper := hb_paper
    unfold m_shows_late at hm
    refine ⟨_, (pss_cons (ps_set (i := 6) sc.nd rfl (Or.inl rfl) (pe_user H_late_heights (hr.mono (by decide)) rfl (pa_cons (pv 0) (pa_cons (pv 1) (pa_cons (pv 5) pa_nil)))))
      (pss_cons (ps_if (pt_cmp (pc_isN (pv 6))) (pss_one (ps_ret pe_bl)) pss_nil)
      (pss_cons (ps_if (PW.pt (pw_and (pt_val (pe_user H_is_dry (hr.mono (by decide)) rfl (pa_cons (pv 0) (pa_cons (pv 1) (pa_cons (pv 2) (pa_cons pe_int pa_nil)))))) (pw_and1 (pt_cmpR op_lt (pe_nget2 (hn10 (hu65 hr)) (pv 6) (pe_tup (pa_cons (pv 2) (pa_cons pe_int pa_nil))) pe_int ⟨rfl, rfl, rfl, rfl⟩) (pv 4) (nomark _))))) (pss_one (ps_ret pe_bl)) pss_nil)
      (pss_cons (ps_for PassesOwn.never rfl (pi_range1 rfl G.range (pa_cons (pe_callB call_len_seq (by rfl) G.len PySem.boot_len (pa_cons (pv 1) pa_nil)) pa_nil)) (pg_name (i := 7) sc.nd rfl (Or.inl rfl))
      (pss_one (ps_if (PW.pt (pw_and (pt_val (pe_user H_is_dry (hr.mono (by decide)) rfl (pa_cons (pv 0) (pa_cons (pv 1) (pa_cons (pv 3) (pa_cons (pv 7) pa_nil)))))) (pw_and1 (pt_cmpR op_ne (pe_nget2 (hn10 (hu65 hr)) (pv 6) (pe_tup (pa_cons (pv 3) (pa_cons (pv 7) pa_nil))) pe_int ⟨rfl, rfl, rfl, rfl⟩) pe_int (nomark _))))) (pss_one (ps_ret pe_bl)) pss_nil)))
      (pss_cons (ps_frz (ps_for PassesOwn.never rfl (pi_itemsN (pv 6)) (pg_tup rfl (pgs_cons (pg_name (i := 8) sc.nd rfl (Or.inl rfl)) (pgs_cons (pg_name (i := 9) sc.nd rfl (Or.inl rfl)) pgs_nil)))
      (pss_cons (ps_asg (pv 8) (pg_tup rfl (pgs_cons (pg_name (i := 10) sc.nd rfl (Or.inl rfl)) (pgs_cons (pg_name (i := 7) sc.nd rfl (Or.inl rfl)) pgs_nil))))
      (pss_one (ps_if (pt_val (pe_user H_is_dry (hr.mono (by decide)) rfl (pa_cons (pv 0) (pa_cons (pv 1) (pa_cons (pv 10) (pa_cons (pv 7) pa_nil)))))) (pss_one (ps_for PassesOwn.never rfl (pi_list (pe_user H_steps_from (hr.mono (by decide)) rfl (pa_cons (pv 0) (pa_cons (pv 1) (pa_cons (pv 10) (pa_cons (pv 7) pa_nil)))))) (pg_name (i := 11) sc.nd rfl (Or.inl rfl))
      (pss_one (ps_if (pt_cmpR op_gt (pv 9) (pe_op op_add (pe_nget2 (hn10 (hu65 hr)) (pv 6) (pe_tup (pa_cons (pv 11) (pa_cons (pe_op op_mod (pe_op op_add (pv 7) pe_int) (pe_callB call_len_seq (by rfl) G.len PySem.boot_len (pa_cons (pv 1) pa_nil))) pa_nil))) pe_int ⟨rfl, rfl, rfl, rfl⟩) pe_int) (nomark _)) (pss_one (ps_ret pe_bl)) pss_nil)))) pss_nil)))))
      (pss_one (ps_ret pe_bl))))))), ?_⟩
    refine q_asg (W := W0) (ev_late_heights (ew_var (v := v_relief) rfl h_relief) (ew_var (v := v_tide) rfl h_tide) (ew_varR rfl hS_paper hb_paper)) g0.ok hm fun a1_heights v_heights W1 g1 ⟨fp_heights, ho0_heights, hf_heights⟩ hm => ?_
    have hz_heights : ∀ a ∈ fp_heights, W0.H a = none := fun a m => g0.live a (hf_heights a m).1
    have h_relief := PyI.st g1.st h_relief
    have h_tide := PyI.st g1.st h_tide
    have h_start := PyI.st g1.st h_start
    have h_goal := PyI.st g1.st h_goal
    have h_number := PyI.st g1.st h_number
    have hb_paper := Kd.go g1 hS_paper hb_paper
    have g0 := g0.trans g1
    have ho_heights : Var (kON P w (Sq × Int) Int) W0 W1 fp_heights a1_heights v_heights := ⟨ho0_heights, hz_heights, fun b m => (hf_heights b m).2.2⟩
    refine q_if (W := W1) (et_B (ew_isNN (ew_varR (v := v_heights) rfl (Var.nS g00 ho_heights) ho_heights.own))) g0.ok hm (fun W2 g2 hm => ?_) (fun W2 g2 hm => ?_)
    ·
      have h_relief := PyI.st g2.st h_relief
      have h_tide := PyI.st g2.st h_tide
      have h_start := PyI.st g2.st h_start
      have h_goal := PyI.st g2.st h_goal
      have h_number := PyI.st g2.st h_number
      have hb_paper := Kd.go g2 hS_paper hb_paper
      have ho_heights := ho_heights.go g00 g2
      have g0 := g0.trans g2
      refine st_ret (W := W2) ew_bl g0.ok hm fun r3 v_ret W3 g3 hp hm => ?_
      exact hm v_ret W3 (g0.trans g3) rfl hp
    ·
      have h_relief := PyI.st g2.st h_relief
      have h_tide := PyI.st g2.st h_tide
      have h_start := PyI.st g2.st h_start
      have h_goal := PyI.st g2.st h_goal
      have h_number := PyI.st g2.st h_number
      have hb_paper := Kd.go g2 hS_paper hb_paper
      have ho_heights := ho_heights.go g00 g2
      have g0 := g0.trans g2
      refine st_next ?_
      obtain ⟨a4_heights, ho_heights, hm⟩ := the_ownN hm ho_heights
      refine q_if (W := W2) (et_and (et_B (ev_is_dry (ew_var (v := v_relief) rfl h_relief) (ew_var (v := v_tide) rfl h_tide) (ew_var (v := v_start) rfl h_start) ew_int)) (et_t (ew_lt (ew_ngetD (ew_nr (ew_varR (v := v_heights) rfl (Var.nS g00 ho_heights) ho_heights.own)) (ew_pair (ew_var (v := v_start) rfl h_start) ew_int) ew_int) (ew_var (v := v_number) rfl h_number)))) g0.ok hm (fun W5 g5 hm => ?_) (fun W5 g5 hm => ?_)
      ·
        have h_relief := PyI.st g5.st h_relief
        have h_tide := PyI.st g5.st h_tide
        have h_start := PyI.st g5.st h_start
        have h_goal := PyI.st g5.st h_goal
        have h_number := PyI.st g5.st h_number
        have hb_paper := Kd.go g5 hS_paper hb_paper
        have ho_heights := ho_heights.go g00 g5
        have g0 := g0.trans g5
        refine st_ret (W := W5) ew_bl g0.ok hm fun r6 v_ret W6 g6 hp hm => ?_
        exact hm v_ret W6 (g0.trans g6) rfl hp
      ·
        have h_relief := PyI.st g5.st h_relief
        have h_tide := PyI.st g5.st h_tide
        have h_start := PyI.st g5.st h_start
        have h_goal := PyI.st g5.st h_goal
        have h_number := PyI.st g5.st h_number
        have hb_paper := Kd.go g5 hS_paper hb_paper
        have ho_heights := ho_heights.go g00 g5
        have g0 := g0.trans g5
        refine st_next ?_
        refine q_forR1 (W := W5) (ew_lenT (ew_var (v := v_tide) rfl h_tide)) g0.ok hm fun W7 g7 => ?_
        have h_relief := PyI.st g7.st h_relief
        have h_tide := PyI.st g7.st h_tide
        have h_start := PyI.st g7.st h_start
        have h_goal := PyI.st g7.st h_goal
        have h_number := PyI.st g7.st h_number
        have hb_paper := Kd.go g7 hS_paper hb_paper
        have ho_heights := ho_heights.go g00 g7
        have g0 := g0.trans g7
        refine ⟨fun y σ' W' => ∃ (o_index : Option V), σ' = [some v_relief, some v_tide, some v_start, some v_goal, some v_number, some v_paper, some v_heights, o_index, none, none, none, none] ∧ Gw ef0 W0 W' ∧ St W7 W' ∧ Var (kN P w (Sq × Int) Int) W0 W' fp_heights a4_heights v_heights, ⟨_, rfl, g0, (St.refl _), ho_heights⟩, fun c7 y7 σi s2 Wi7 R7 nx7 ht hI hm kn7 kb7 kr7 => ?_, fun z7 σi Wi7 hI hm => ?_⟩
        ·
          obtain ⟨o_index, rfl, g0, sl7, ho_heights⟩ := hI
          have h_relief := PyI.st sl7 h_relief
          have h_tide := PyI.st sl7 h_tide
          have h_start := PyI.st sl7 h_start
          have h_goal := PyI.st sl7 h_goal
          have h_number := PyI.st sl7 h_number
          have hb_paper := Kd.go g0 hS_paper hb0_paper
          obtain ⟨v_index, rfl, h_index⟩ := ht
          refine st_if (W := Wi7) (et_and (et_B (ev_is_dry (ew_var (v := v_relief) rfl h_relief) (ew_var (v := v_tide) rfl h_tide) (ew_var (v := v_goal) rfl h_goal) (ew_var (v := v_index) rfl h_index))) (et_t (ew_ne (ew_ngetD (ew_nr (ew_varR (v := v_heights) rfl (Var.nS g00 ho_heights) ho_heights.own)) (ew_pair (ew_var (v := v_goal) rfl h_goal) (ew_var (v := v_index) rfl h_index)) ew_int) ew_int))) g0.ok hm (fun W8 g8 hm => ?_) (fun W8 g8 hm => ?_)
          ·
            have h_relief := PyI.st g8.st h_relief
            have h_tide := PyI.st g8.st h_tide
            have h_start := PyI.st g8.st h_start
            have h_goal := PyI.st g8.st h_goal
            have h_number := PyI.st g8.st h_number
            have hb_paper := Kd.go g8 hS_paper hb_paper
            have ho_heights := ho_heights.go g00 g8
            have h_index := PyI.st g8.st h_index
            have sl7 := sl7.trans g8.st
            have g0 := g0.trans g8
            refine st_ret (W := W8) ew_bl g0.ok hm fun r9 v_ret W9 g9 hp hm => ?_
            have hm := kr7 _ _ hm
            exact hm v_ret W9 (g0.trans g9) rfl hp
          ·
            have h_relief := PyI.st g8.st h_relief
            have h_tide := PyI.st g8.st h_tide
            have h_start := PyI.st g8.st h_start
            have h_goal := PyI.st g8.st h_goal
            have h_number := PyI.st g8.st h_number
            have hb_paper := Kd.go g8 hS_paper hb_paper
            have ho_heights := ho_heights.go g00 g8
            have h_index := PyI.st g8.st h_index
            have sl7 := sl7.trans g8.st
            have g0 := g0.trans g8
            refine st_next ?_
            exact kn7 () _ W8 ⟨_, rfl, g0, sl7, ho_heights⟩ hm
        ·
          obtain ⟨o_index, rfl, g0, sl7, ho_heights⟩ := hI
          have h_relief := PyI.st sl7 h_relief
          have h_tide := PyI.st sl7 h_tide
          have h_start := PyI.st sl7 h_start
          have h_goal := PyI.st sl7 h_goal
          have h_number := PyI.st sl7 h_number
          have hb_paper := Kd.go g0 hS_paper hb0_paper
          refine q_frzN (W := Wi7) g00 g0 ho_heights hm fun a10_heights W10 s g02 kk kv hb_heights hm => ?_
          have h_relief := PyI.st s h_relief
          have h_tide := PyI.st s h_tide
          have h_start := PyI.st s h_start
          have h_goal := PyI.st s h_goal
          have h_number := PyI.st s h_number
          have hb_paper := Kd.st _ s (kk fp_paper _ Kp.refl fun b m z => hl_paper b m (ho_heights.fr b z)) hb_paper
          clear ho_heights
          obtain ⟨fp_heights, hb_heights, hS_heights, hl_heights⟩ : ∃ fp : List Addr, (kNf P w (Sq × Int) Int).own W10 fp a10_heights v_heights ∧ (∀ a ∈ fp, ¬ ef0.S a) ∧ (∀ a ∈ fp, W0.H a ≠ none) := ⟨[], hb_heights, (fun _ m => nomatch m), (fun _ m => nomatch m)⟩
          have g0 := g02
          refine q_forNI (W := W10) (e := ef0) tk_P rfl hb_heights hm (fun y σ' W' => ∃ (o_index : Option V) (o_pair : Option V) (o_own : Option V) (o_square : Option V) (o_other : Option V), σ' = [some v_relief, some v_tide, some v_start, some v_goal, some v_number, some v_paper, some v_heights, o_index, o_pair, o_own, o_square, o_other] ∧ Gw ef0 W0 W' ∧ St W10 W') ⟨_, _, _, _, _, rfl, g0, (St.refl _)⟩ (fun _ _ _ hI => ?_) (fun c11 y11 σi s2 Wi11 Wt11 R11 nx11 gt11 ht hI hm kn11 kb11 kr11 => ?_) (fun z11 σi Wi11 hI hm => ?_)
          · obtain ⟨o_index, o_pair, o_own, o_square, o_other, rfl, g0, sl11⟩ := hI
            exact ⟨sl11, g0.ok⟩
          ·
            obtain ⟨o_index, o_pair, o_own, o_square, o_other, rfl, g0, sl11⟩ := hI
            have h_relief := PyI.st sl11 h_relief
            have h_tide := PyI.st sl11 h_tide
            have h_start := PyI.st sl11 h_start
            have h_goal := PyI.st sl11 h_goal
            have h_number := PyI.st sl11 h_number
            have hb_paper := Kd.go g0 hS_paper hb0_paper
            have hb_heights := Kd.st _ sl11 (fun a m => by rw [hb_heights.1] at m; cases m) hb_heights
            have h_relief := PyI.st gt11.st h_relief
            have h_tide := PyI.st gt11.st h_tide
            have h_start := PyI.st gt11.st h_start
            have h_goal := PyI.st gt11.st h_goal
            have h_number := PyI.st gt11.st h_number
            have hb_paper := Kd.go gt11 hS_paper hb_paper
            have hb_heights := Kd.go gt11 hS_heights hb_heights
            have sl11 := sl11.trans gt11.st
            have g0 := g0.trans gt11
            obtain ⟨v_pair, v_own, rfl, h_pair, h_own⟩ := ht
            refine q_un2 (W := Wt11) (ew_var (v := v_pair) rfl h_pair) g0.ok hm fun a12_square_index v_square v_index W12 g12 h_square h_index hm => ?_
            have h_relief := PyI.st g12.st h_relief
            have h_tide := PyI.st g12.st h_tide
            have h_start := PyI.st g12.st h_start
            have h_goal := PyI.st g12.st h_goal
            have h_number := PyI.st g12.st h_number
            have hb_paper := Kd.go g12 hS_paper hb_paper
            have hb_heights := Kd.go g12 hS_heights hb_heights
            have h_pair := PyI.st g12.st h_pair
            have h_own := PyI.st g12.st h_own
            have sl11 := sl11.trans g12.st
            have g0 := g0.trans g12
            first | refine norm_st (σ' := [some v_relief, some v_tide, some v_start, some v_goal, some v_number, some v_paper, some v_heights, some v_index, some v_pair, some v_own, some v_square, o_other]) rfl ?_ | skip
            refine st_if (W := W12) (et_B (ev_is_dry (ew_var (v := v_relief) rfl h_relief) (ew_var (v := v_tide) rfl h_tide) (ew_var (v := v_square) rfl h_square) (ew_var (v := v_index) rfl h_index))) g0.ok hm (fun W13 g13 hm => ?_) (fun W13 g13 hm => ?_)
            ·
              have h_relief := PyI.st g13.st h_relief
              have h_tide := PyI.st g13.st h_tide
              have h_start := PyI.st g13.st h_start
              have h_goal := PyI.st g13.st h_goal
              have h_number := PyI.st g13.st h_number
              have hb_paper := Kd.go g13 hS_paper hb_paper
              have hb_heights := Kd.go g13 hS_heights hb_heights
              have h_index := PyI.st g13.st h_index
              have h_pair := PyI.st g13.st h_pair
              have h_own := PyI.st g13.st h_own
              have h_square := PyI.st g13.st h_square
              have sl11 := sl11.trans g13.st
              have g0 := g0.trans g13
              refine st_forN (W := W13) tk_N (ev_steps_from (ew_var (v := v_relief) rfl h_relief) (ew_var (v := v_tide) rfl h_tide) (ew_var (v := v_square) rfl h_square) (ew_var (v := v_index) rfl h_index)) g0.ok hm fun xs14 p_it14 vs_it14 W14 g14 hn_it14 hF_it14 hp_it14 hr_it14 => ?_
              have nS_it14 : ¬ ef0.S p_it14 := fun z => g0.ok.S _ z hn_it14
              have h_relief := PyI.st g14.st h_relief
              have h_tide := PyI.st g14.st h_tide
              have h_start := PyI.st g14.st h_start
              have h_goal := PyI.st g14.st h_goal
              have h_number := PyI.st g14.st h_number
              have hb_paper := Kd.go g14 hS_paper hb_paper
              have hb_heights := Kd.go g14 hS_heights hb_heights
              have h_index := PyI.st g14.st h_index
              have h_pair := PyI.st g14.st h_pair
              have h_own := PyI.st g14.st h_own
              have h_square := PyI.st g14.st h_square
              have sl11 := sl11.trans g14.st
              have g0 := g0.trans g14
              refine ⟨fun y σ' W' => ∃ (o_other : Option V), σ' = [some v_relief, some v_tide, some v_start, some v_goal, some v_number, some v_paper, some v_heights, some v_index, some v_pair, some v_own, some v_square, o_other] ∧ Gw ef0 W0 W' ∧ St W14 W' ∧ W'.H p_it14 = some (.lst vs_it14), ⟨_, rfl, g0, (St.refl _), hp_it14⟩, fun _ _ _ hI => ?_, fun c14 y14 σi s2 Wi14 R14 nx14 ht hI hm kn14 kb14 kr14 => ?_, fun z14 σi Wi14 hI hm => ?_⟩
              · obtain ⟨o_other, rfl, g0, sl14, hp_it14⟩ := hI
                exact ⟨sl14, hp_it14⟩
              ·
                obtain ⟨o_other, rfl, g0, sl14, hp_it14⟩ := hI
                have h_relief := PyI.st sl14 h_relief
                have h_tide := PyI.st sl14 h_tide
                have h_start := PyI.st sl14 h_start
                have h_goal := PyI.st sl14 h_goal
                have h_number := PyI.st sl14 h_number
                have hb_paper := Kd.go g0 hS_paper hb0_paper
                have hb_heights := Kd.st _ sl14 (fun a m => by rw [hb_heights.1] at m; cases m) hb_heights
                have h_index := PyI.st sl14 h_index
                have h_pair := PyI.st sl14 h_pair
                have h_own := PyI.st sl14 h_own
                have h_square := PyI.st sl14 h_square
                have sl11 := sl11.trans sl14
                obtain ⟨v_other, rfl, h_other⟩ := ht
                refine st_if (W := Wi14) (et_t (ew_gt (ew_var (v := v_own) rfl h_own) (ew_add (ew_ngetD (ew_nf (ew_varR rfl hS_heights hb_heights)) (ew_pair (ew_var (v := v_other) rfl h_other) (ew_mod (ew_add (ew_var (v := v_index) rfl h_index) ew_int) (ew_lenT (ew_var (v := v_tide) rfl h_tide)))) ew_int) ew_int))) g0.ok hm (fun W15 g15 hm => ?_) (fun W15 g15 hm => ?_)
                ·
                  have h_relief := PyI.st g15.st h_relief
                  have h_tide := PyI.st g15.st h_tide
                  have h_start := PyI.st g15.st h_start
                  have h_goal := PyI.st g15.st h_goal
                  have h_number := PyI.st g15.st h_number
                  have hb_paper := Kd.go g15 hS_paper hb_paper
                  have hb_heights := Kd.go g15 hS_heights hb_heights
                  have h_index := PyI.st g15.st h_index
                  have h_pair := PyI.st g15.st h_pair
                  have h_own := PyI.st g15.st h_own
                  have h_square := PyI.st g15.st h_square
                  have h_other := PyI.st g15.st h_other
                  have sl11 := sl11.trans g15.st
                  have sl14 := sl14.trans g15.st
                  have hp_it14 := g15.keep _ _ hp_it14 nS_it14
                  have g0 := g0.trans g15
                  refine st_ret (W := W15) ew_bl g0.ok hm fun r16 v_ret W16 g16 hp hm => ?_
                  have hm := kr14 _ _ hm
                  have hm := kr11 _ _ hm
                  exact hm v_ret W16 (g0.trans g16) rfl hp
                ·
                  have h_relief := PyI.st g15.st h_relief
                  have h_tide := PyI.st g15.st h_tide
                  have h_start := PyI.st g15.st h_start
                  have h_goal := PyI.st g15.st h_goal
                  have h_number := PyI.st g15.st h_number
                  have hb_paper := Kd.go g15 hS_paper hb_paper
                  have hb_heights := Kd.go g15 hS_heights hb_heights
                  have h_index := PyI.st g15.st h_index
                  have h_pair := PyI.st g15.st h_pair
                  have h_own := PyI.st g15.st h_own
                  have h_square := PyI.st g15.st h_square
                  have h_other := PyI.st g15.st h_other
                  have sl11 := sl11.trans g15.st
                  have sl14 := sl14.trans g15.st
                  have hp_it14 := g15.keep _ _ hp_it14 nS_it14
                  have g0 := g0.trans g15
                  refine st_next ?_
                  exact kn14 () _ W15 ⟨_, rfl, g0, sl14, hp_it14⟩ hm
              ·
                obtain ⟨o_other, rfl, g0, sl14, hp_it14⟩ := hI
                have h_relief := PyI.st sl14 h_relief
                have h_tide := PyI.st sl14 h_tide
                have h_start := PyI.st sl14 h_start
                have h_goal := PyI.st sl14 h_goal
                have h_number := PyI.st sl14 h_number
                have hb_paper := Kd.go g0 hS_paper hb0_paper
                have hb_heights := Kd.st _ sl14 (fun a m => by rw [hb_heights.1] at m; cases m) hb_heights
                have h_index := PyI.st sl14 h_index
                have h_pair := PyI.st sl14 h_pair
                have h_own := PyI.st sl14 h_own
                have h_square := PyI.st sl14 h_square
                have sl11 := sl11.trans sl14
                exact kn11 () _ Wi14 ⟨_, _, _, _, _, rfl, g0, sl11⟩ hm
            ·
              have h_relief := PyI.st g13.st h_relief
              have h_tide := PyI.st g13.st h_tide
              have h_start := PyI.st g13.st h_start
              have h_goal := PyI.st g13.st h_goal
              have h_number := PyI.st g13.st h_number
              have hb_paper := Kd.go g13 hS_paper hb_paper
              have hb_heights := Kd.go g13 hS_heights hb_heights
              have h_index := PyI.st g13.st h_index
              have h_pair := PyI.st g13.st h_pair
              have h_own := PyI.st g13.st h_own
              have h_square := PyI.st g13.st h_square
              have sl11 := sl11.trans g13.st
              have g0 := g0.trans g13
              refine st_next ?_
              exact kn11 () _ W13 ⟨_, _, _, _, _, rfl, g0, sl11⟩ hm
          ·
            obtain ⟨o_index, o_pair, o_own, o_square, o_other, rfl, g0, sl11⟩ := hI
            have h_relief := PyI.st sl11 h_relief
            have h_tide := PyI.st sl11 h_tide
            have h_start := PyI.st sl11 h_start
            have h_goal := PyI.st sl11 h_goal
            have h_number := PyI.st sl11 h_number
            have hb_paper := Kd.go g0 hS_paper hb0_paper
            have hb_heights := Kd.st _ sl11 (fun a m => by rw [hb_heights.1] at m; cases m) hb_heights
            refine st_ret (W := Wi11) ew_bl g0.ok hm fun r17 v_ret W17 g17 hp hm => ?_
            exact hm v_ret W17 (g0.trans g17) rfl hp
abbrev s__law_pick : Stmt := top 16
abbrev N__law_pick : List Str := ["deal", "row"]
abbrev P__law_pick : List Str := ["deal", "row"]
theorem sc__law_pick : FnScope N__law_pick P__law_pick (defScope s__law_pick) := ⟨rfl, rfl, rfl, by decide +kernel, rfl, by decide +kernel, by decide +kernel⟩
def m__law_pick (_ : Unit) (a_row : (List Sq)) : WP Sq := (WP.ix (WP.pure a_row) (WP.mod (WP.add (WP.mul (WP.b2 (WP.pure ()) (WP.pure (1009 : Int)) m_take) (WP.pure (1009 : Int))) (WP.b2 (WP.pure ()) (WP.pure (1009 : Int)) m_take)) (WP.len (WP.pure a_row)))).bind fun r1 => (WP.pure r1)
def sp__law_pick : Sp := fun vs H Q _ => ∃ (d : Dl) (W : Wo) (a_row : (List Sq)) (v_row : V) (fp_row : List Addr), vs = [.ref d.p, v_row] ∧ W.H = H ∧ Good (efD d) W ∧ (kL Sq).own W fp_row a_row v_row ∧ (∀ a ∈ fp_row, ¬ (efD d).S a) ∧ (m__law_pick () a_row).run W.n fun n r => ∀ v W', Gw (efD d) W W' → W'.n = n → (sI (e := (efD d)) (α := Sq)).post W W' r v → Q v W'.H
theorem ev__law_pick {d : Dl} {σ : L2.St} {W : Wo} {E : XK} {t0 t1 : TE} {w0 : WP Unit} {w1 : WP (List Sq)} (h0 : EvW (efD d) t0 σ W (sD d) w0) (h1 : EvW (efD d) t1 σ W (sR (kL Sq)) w1) : EvW (efD d) (tCall sp__law_pick [] E (tCons t0 (tCons t1 tNil))) σ W (sI (α := Sq)) (WP.b2 w0 w1 m__law_pick) := ew_call2N h0 h1 fun W2 b0 b1 x0 x1 g2 r0 ⟨fp1, r1, s1⟩ Q q E => by
  cases r0
  exact ⟨d, W2, b1, x1, fp1, rfl, rfl, g2, r1, s1, WP.mono _ (fun n c h v W3 g3 hn p => h v W3 g3 hn p) q⟩
theorem ok__law_pick (F : At K mg "_law_pick" s__law_pick P__law_pick) (G : Glb mg) (H__law_take : Has P w K mg base "_law_take" 1 P__law_take sp_take) : Has P w K mg base "_law_pick" 2 P__law_pick sp__law_pick := by
  refine Has.of F sc__law_pick (fun vs H Q E h => ?_) (fun f cdv A outer s H0 vs Q E hr h => ?_)
  · obtain ⟨d, W0, a_row, v_row, fp_row, rfl, _⟩ := h
    rfl
  · obtain ⟨d, W0, a_row, v_row, fp_row, rfl, rfl, g00, hb_row, hS_row, hm⟩ := h
    have sc := sc__law_pick
    have g0 := Gw.refl g00
    have hl_row := (kL Sq).live hb_row
    have hb0_row := hb_row
    unfold m__law_pick at hm
    refine ⟨_, (pss_one (ps_ret (pe_ix ix_list (pv 1) (pe_op op_mod (pe_op op_add (pe_op op_mul (pe_user H__law_take (hr.mono (by decide)) rfl (pa_cons (pv 0) (pa_cons pe_int pa_nil))) pe_int) (pe_user H__law_take (hr.mono (by decide)) rfl (pa_cons (pv 0) (pa_cons pe_int pa_nil)))) (pe_callB call_len_seq (by rfl) G.len PySem.boot_len (pa_cons (pv 1) pa_nil))) (fun _ _ => rfl)))), ?_⟩
    refine st_ret (W := W0) (ew_ixL (ew_varR rfl hS_row hb_row) (ew_mod (ew_add (ew_mul (ev_take (ew_deal rfl) ew_int) ew_int) (ev_take (ew_deal rfl) ew_int)) (ew_lenL (ew_varR rfl hS_row hb_row)))) g0.ok hm fun r1 v_ret W1 g1 hp hm => ?_
    exact hm v_ret W1 (g0.trans g1) rfl hp
abbrev s__law_yes : Stmt := top 17
abbrev N__law_yes : List Str := ["told", "due"]
abbrev P__law_yes : List Str := ["told", "due"]
theorem sc__law_yes : FnScope N__law_yes P__law_yes (defScope s__law_yes) := ⟨rfl, rfl, rfl, by decide +kernel, rfl, by decide +kernel, by decide +kernel⟩
def m__law_yes (a_told : Bool) (a_due : Bool) : WP Bool := (WP.and ((WP.pure a_told).bind fun _ => WP.pure true) (WP.eq (WP.pure a_told) (WP.pure a_due))).bind fun r1 => (WP.pure r1)
def sp__law_yes : Sp := fun vs H Q _ => ∃ (W : Wo) (a_told : Bool) (a_due : Bool) (v_told v_due : V), vs = [v_told, v_due] ∧ W.H = H ∧ Good ef0 W ∧ Rp W a_told v_told ∧ Rp W a_due v_due ∧ (m__law_yes a_told a_due).run W.n fun n r => ∀ v W', Gw ef0 W W' → W'.n = n → (sI (e := ef0) (α := Bool)).post W W' r v → Q v W'.H
theorem ev__law_yes {e : Ef} {σ : L2.St} {W : Wo} {E : XK} {t0 t1 : TE} {w0 : WP Bool} {w1 : WP Bool} (h0 : EvW e t0 σ W sI w0) (h1 : EvW e t1 σ W sI w1) : EvW e (tCall sp__law_yes [] E (tCons t0 (tCons t1 tNil))) σ W (sI (α := Bool)) (WP.b2 w0 w1 m__law_yes) := ew_call2N h0 h1 fun W2 b0 b1 x0 x1 g2 r0 r1 Q q E => by
  exact ⟨W2, b0, b1, x0, x1, rfl, rfl, g2.z, r0, r1, WP.mono _ (fun n c h v W3 g3 hn p => h v W3 (Gw.up g2 g3) hn p) q⟩
theorem ok__law_yes (F : At K mg "_law_yes" s__law_yes P__law_yes) (G : Glb mg)  : Has P w K mg base "_law_yes" 1 P__law_yes sp__law_yes := by
  refine Has.of F sc__law_yes (fun vs H Q E h => ?_) (fun f cdv A outer s H0 vs Q E hr h => ?_)
  · obtain ⟨W0, a_told, a_due, v_told, v_due, rfl, _⟩ := h
    rfl
  · obtain ⟨W0, a_told, a_due, v_told, v_due, rfl, rfl, g00, h_told, h_due, hm⟩ := h
    have sc := sc__law_yes
    have g0 := Gw.refl g00
    unfold m__law_yes at hm
    refine ⟨_, (pss_one (ps_ret (pe_and (pe_callB call_isi (by rfl) G.isinstance (by decide +kernel) (pa_cons (pv 0) (pa_cons (pe_bltn (v := .ty "bool") (u := .type "bool") rfl G.bool (by decide +kernel) rfl) pa_nil))) (pe_one (pe_cmpR op_eq (pv 0) (pv 1) (nomark _)))))), ?_⟩
    refine st_ret (W := W0) (ew_andV (ew_isib_bool (ew_var (v := v_told) rfl h_told)) (ew_eq (ew_var (v := v_told) rfl h_told) (ew_var (v := v_due) rfl h_due))) g0.ok hm fun r1 v_ret W1 g1 hp hm => ?_
    exact hm v_ret W1 (g0.trans g1) rfl hp
abbrev s__law_in : Stmt := top 18
abbrev N__law_in : List Str := ["relief", "square"]
abbrev P__law_in : List Str := ["relief", "square"]
theorem sc__law_in : FnScope N__law_in P__law_in (defScope s__law_in) := ⟨rfl, rfl, rfl, by decide +kernel, rfl, by decide +kernel, by decide +kernel⟩
def m__law_in (a_relief : (List Str)) (a_square : Sq) : WP Bool := (WP.and (WP.chain (fun i j => decide (i ≤ j)) (fun i j => decide (i < j)) (WP.pure (0 : Int)) (WP.fst (WP.pure a_square)) (WP.len (WP.pure a_relief))) (WP.chain (fun i j => decide (i ≤ j)) (fun i j => decide (i < j)) (WP.pure (0 : Int)) (WP.snd (WP.pure a_square)) (WP.lenS (WP.ix (WP.pure a_relief) (WP.pure (0 : Int)))))).bind fun r1 => (WP.pure r1)
def sp__law_in : Sp := fun vs H Q _ => ∃ (W : Wo) (a_relief : (List Str)) (a_square : Sq) (v_relief v_square : V), vs = [v_relief, v_square] ∧ W.H = H ∧ Good ef0 W ∧ Rp W a_relief v_relief ∧ Rp W a_square v_square ∧ (m__law_in a_relief a_square).run W.n fun n r => ∀ v W', Gw ef0 W W' → W'.n = n → (sI (e := ef0) (α := Bool)).post W W' r v → Q v W'.H
theorem ev__law_in {e : Ef} {σ : L2.St} {W : Wo} {E : XK} {t0 t1 : TE} {w0 : WP (List Str)} {w1 : WP Sq} (h0 : EvW e t0 σ W sI w0) (h1 : EvW e t1 σ W sI w1) : EvW e (tCall sp__law_in [] E (tCons t0 (tCons t1 tNil))) σ W (sI (α := Bool)) (WP.b2 w0 w1 m__law_in) := ew_call2N h0 h1 fun W2 b0 b1 x0 x1 g2 r0 r1 Q q E => by
  exact ⟨W2, b0, b1, x0, x1, rfl, rfl, g2.z, r0, r1, WP.mono _ (fun n c h v W3 g3 hn p => h v W3 (Gw.up g2 g3) hn p) q⟩
theorem ok__law_in (F : At K mg "_law_in" s__law_in P__law_in) (G : Glb mg)  : Has P w K mg base "_law_in" 1 P__law_in sp__law_in := by
  refine Has.of F sc__law_in (fun vs H Q E h => ?_) (fun f cdv A outer s H0 vs Q E hr h => ?_)
  · obtain ⟨W0, a_relief, a_square, v_relief, v_square, rfl, _⟩ := h
    rfl
  · obtain ⟨W0, a_relief, a_square, v_relief, v_square, rfl, rfl, g00, h_relief, h_square, hm⟩ := h
    have sc := sc__law_in
    have g0 := Gw.refl g00
    unfold m__law_in at hm
    refine ⟨_, (pss_one (ps_ret (pe_and (pe_chain op_le op_lt pe_int (pe_ix ix_tup (pv 1) pe_int (fun _ _ => rfl)) (pe_callB call_len_seq (by rfl) G.len PySem.boot_len (pa_cons (pv 0) pa_nil))) (pe_one (pe_chain op_le op_lt pe_int (pe_ix ix_tup (pv 1) pe_int (fun _ _ => rfl)) (pe_callB call_len_str (by rfl) G.len PySem.boot_len (pa_cons (pe_ix ix_tup (pv 0) pe_int (fun _ _ => rfl)) pa_nil))))))), ?_⟩
    refine st_ret (W := W0) (ew_andV (ew_chain (C := fun i j => decide (i ≤ j)) (C' := fun i j => decide (i < j)) ew_int (ew_fst (ew_var (v := v_square) rfl h_square)) (ew_lenT (ew_var (v := v_relief) rfl h_relief))) (ew_chain (C := fun i j => decide (i ≤ j)) (C' := fun i j => decide (i < j)) ew_int (ew_snd (ew_var (v := v_square) rfl h_square)) (ew_lenS (ew_ixT (ew_var (v := v_relief) rfl h_relief) ew_int)))) g0.ok hm fun r1 v_ret W1 g1 hp hm => ?_
    exact hm v_ret W1 (g0.trans g1) rfl hp
abbrev s__law_high : Stmt := top 19
abbrev N__law_high : List Str := ["relief", "square"]
abbrev P__law_high : List Str := ["relief", "square"]
theorem sc__law_high : FnScope N__law_high P__law_high (defScope s__law_high) := ⟨rfl, rfl, rfl, by decide +kernel, rfl, by decide +kernel, by decide +kernel⟩
def m__law_high (a_relief : (List Str)) (a_square : Sq) : WP Int := (WP.int' (WP.ixS (WP.ix (WP.pure a_relief) (WP.fst (WP.pure a_square))) (WP.snd (WP.pure a_square)))).bind fun r1 => (WP.pure r1)
def sp__law_high : Sp := fun vs H Q _ => ∃ (W : Wo) (a_relief : (List Str)) (a_square : Sq) (v_relief v_square : V), vs = [v_relief, v_square] ∧ W.H = H ∧ Good ef0 W ∧ Rp W a_relief v_relief ∧ Rp W a_square v_square ∧ (m__law_high a_relief a_square).run W.n fun n r => ∀ v W', Gw ef0 W W' → W'.n = n → (sI (e := ef0) (α := Int)).post W W' r v → Q v W'.H
theorem ev__law_high {e : Ef} {σ : L2.St} {W : Wo} {E : XK} {t0 t1 : TE} {w0 : WP (List Str)} {w1 : WP Sq} (h0 : EvW e t0 σ W sI w0) (h1 : EvW e t1 σ W sI w1) : EvW e (tCall sp__law_high [] E (tCons t0 (tCons t1 tNil))) σ W (sI (α := Int)) (WP.b2 w0 w1 m__law_high) := ew_call2N h0 h1 fun W2 b0 b1 x0 x1 g2 r0 r1 Q q E => by
  exact ⟨W2, b0, b1, x0, x1, rfl, rfl, g2.z, r0, r1, WP.mono _ (fun n c h v W3 g3 hn p => h v W3 (Gw.up g2 g3) hn p) q⟩
theorem ok__law_high (F : At K mg "_law_high" s__law_high P__law_high) (G : Glb mg)  : Has P w K mg base "_law_high" 1 P__law_high sp__law_high := by
  refine Has.of F sc__law_high (fun vs H Q E h => ?_) (fun f cdv A outer s H0 vs Q E hr h => ?_)
  · obtain ⟨W0, a_relief, a_square, v_relief, v_square, rfl, _⟩ := h
    rfl
  · obtain ⟨W0, a_relief, a_square, v_relief, v_square, rfl, rfl, g00, h_relief, h_square, hm⟩ := h
    have sc := sc__law_high
    have g0 := Gw.refl g00
    unfold m__law_high at hm
    refine ⟨_, (pss_one (ps_ret (pe_callTy call_int_str (by rfl) G.int (by decide +kernel) (pa_cons (pe_ix ix_str (pe_ix ix_tup (pv 0) (pe_ix ix_tup (pv 1) pe_int (fun _ _ => rfl)) (fun _ _ => rfl)) (pe_ix ix_tup (pv 1) pe_int (fun _ _ => rfl)) (fun _ _ => rfl)) pa_nil)))), ?_⟩
    refine st_ret (W := W0) (ew_int' (ew_ixS (ew_ixT (ew_var (v := v_relief) rfl h_relief) (ew_fst (ew_var (v := v_square) rfl h_square))) (ew_snd (ew_var (v := v_square) rfl h_square)))) g0.ok hm fun r1 v_ret W1 g1 hp hm => ?_
    exact hm v_ret W1 (g0.trans g1) rfl hp
abbrev s__law_all : Stmt := top 20
abbrev N__law_all : List Str := ["relief", "found", "r", "c"]
abbrev P__law_all : List Str := ["relief"]
theorem sc__law_all : FnScope N__law_all P__law_all (defScope s__law_all) := ⟨rfl, rfl, rfl, by decide +kernel, rfl, by decide +kernel, by decide +kernel⟩
def m__law_all (a_relief : (List Str)) : WP (List Sq) := (WP.row (WP.pure ([] : List Sq))).bind fun a1_found => (WP.range1 (WP.len (WP.pure a_relief))).bind fun xs2 => WP.after (WP.loop (γ := (List Sq)) (fun c2 (y2 : (List Sq)) => (WP.range1 (WP.lenS (WP.ix (WP.pure a_relief) (WP.pure (0 : Int))))).bind fun xs3 => WP.after (WP.loop (γ := (List Sq)) (fun c3 (y3 : (List Sq)) => ((WP.pair (WP.pure c2) (WP.pure c3)).bind fun a => WP.req (y3.length < 100000) (y3 ++ [a])).bind fun a4_found => (WP.pure (.nx a4_found))) xs3 y2) (fun (z3 : (List Sq)) => (WP.pure (.nx z3))) (fun r => (WP.pure (.rt r)))) xs2 a1_found) (fun (z2 : (List Sq)) => (WP.pure z2)) (fun r => (WP.pure r))
def sp__law_all : Sp := fun vs H Q _ => ∃ (W : Wo) (a_relief : (List Str)) (v_relief : V), vs = [v_relief] ∧ W.H = H ∧ Good ef0 W ∧ Rp W a_relief v_relief ∧ (m__law_all a_relief).run W.n fun n r => ∀ v W', Gw ef0 W W' → W'.n = n → (sN (e := ef0) (kL Sq)).post W W' r v → Q v W'.H
theorem ev__law_all {e : Ef} {σ : L2.St} {W : Wo} {E : XK} {t0 : TE} {w0 : WP (List Str)} (h0 : EvW e t0 σ W sI w0) : EvW e (tCall sp__law_all [] E (tCons t0 tNil)) σ W (sN (kL Sq)) (WP.b1 w0 m__law_all) := ew_call1N h0 fun W2 b0 x0 g2 r0 Q q E => by
  exact ⟨W2, b0, x0, rfl, rfl, g2.z, r0, WP.mono _ (fun n c h v W3 g3 hn p => h v W3 (Gw.up g2 g3) hn (sN_up g2 p)) q⟩
theorem ok__law_all (F : At K mg "_law_all" s__law_all P__law_all) (G : Glb mg)  : Has P w K mg base "_law_all" 1 P__law_all sp__law_all := by
  refine Has.of F sc__law_all (fun vs H Q E h => ?_) (fun f cdv A outer s H0 vs Q E hr h => ?_)
  · obtain ⟨W0, a_relief, v_relief, rfl, _⟩ := h
    rfl
  · obtain ⟨W0, a_relief, v_relief, rfl, rfl, g00, h_relief, hm⟩ := h
    have sc := sc__law_all
    have g0 := Gw.refl g00
    unfold m__law_all at hm
    refine ⟨_, (pss_cons (ps_set (i := 1) sc.nd rfl (Or.inl rfl) (pe_lst pa_nil))
      (pss_cons (ps_for PassesOwn.never rfl (pi_range1 rfl G.range (pa_cons (pe_callB call_len_seq (by rfl) G.len PySem.boot_len (pa_cons (pv 0) pa_nil)) pa_nil)) (pg_name (i := 2) sc.nd rfl (Or.inl rfl))
      (pss_one (ps_for PassesOwn.never rfl (pi_range1 rfl G.range (pa_cons (pe_callB call_len_str (by rfl) G.len PySem.boot_len (pa_cons (pe_ix ix_tup (pv 0) pe_int (fun _ _ => rfl)) pa_nil)) pa_nil)) (pg_name (i := 3) sc.nd rfl (Or.inl rfl))
      (pss_one (ps_expr (pe_bm PySem.F.plainAttrs_list PySem.F.slot_list_append PySem.F.type_list_append mt_append (pv 1) (pa_cons (pe_tup (pa_cons (pv 2) (pa_cons (pv 3) pa_nil))) pa_nil)))))))
      (pss_one (ps_ret (pv 1))))), ?_⟩
    refine q_asg (W := W0) (ew_lst (eas_nil (α := Sq))) g0.ok hm fun a1_found v_found W1 g1 ⟨fp_found, ho0_found, hf_found⟩ hm => ?_
    have hz_found : ∀ a ∈ fp_found, W0.H a = none := fun a m => g0.live a (hf_found a m).1
    have h_relief := PyI.st g1.st h_relief
    have g0 := g0.trans g1
    have ho_found : Var (kL Sq) W0 W1 fp_found a1_found v_found := ⟨ho0_found, hz_found, fun b m => (hf_found b m).2.2⟩
    refine q_forR1 (W := W1) (ew_lenT (ew_var (v := v_relief) rfl h_relief)) g0.ok hm fun W2 g2 => ?_
    have h_relief := PyI.st g2.st h_relief
    have ho_found := ho_found.go g00 g2
    have g0 := g0.trans g2
    refine ⟨fun y σ' W' => ∃ (v_found : V) (fp_found : List Addr) (o_r : Option V) (o_c : Option V), σ' = [some v_relief, some v_found, o_r, o_c] ∧ Gw ef0 W0 W' ∧ St W2 W' ∧ Var (kL Sq) W0 W' fp_found y v_found, ⟨v_found, fp_found, _, _, rfl, g0, (St.refl _), ho_found⟩, fun c2 y2 σi s2 Wi2 R2 nx2 ht hI hm kn2 kb2 kr2 => ?_, fun z2 σi Wi2 hI hm => ?_⟩
    ·
      obtain ⟨v_found, fp_found, o_r, o_c, rfl, g0, sl2, ho_found⟩ := hI
      have h_relief := PyI.st sl2 h_relief
      obtain ⟨v_r, rfl, h_r⟩ := ht
      refine st_forR1 (W := Wi2) (ew_lenS (ew_ixT (ew_var (v := v_relief) rfl h_relief) ew_int)) g0.ok hm fun W3 g3 => ?_
      have h_relief := PyI.st g3.st h_relief
      have ho_found := ho_found.go g00 g3
      have h_r := PyI.st g3.st h_r
      have sl2 := sl2.trans g3.st
      have g0 := g0.trans g3
      refine ⟨fun y σ' W' => ∃ (v_found : V) (fp_found : List Addr) (o_c : Option V), σ' = [some v_relief, some v_found, some v_r, o_c] ∧ Gw ef0 W0 W' ∧ St W3 W' ∧ Var (kL Sq) W0 W' fp_found y v_found, ⟨v_found, fp_found, _, rfl, g0, (St.refl _), ho_found⟩, fun c3 y3 σi s2 Wi3 R3 nx3 ht hI hm kn3 kb3 kr3 => ?_, fun z3 σi Wi3 hI hm => ?_⟩
      ·
        obtain ⟨v_found, fp_found, o_c, rfl, g0, sl3, ho_found⟩ := hI
        have h_relief := PyI.st sl3 h_relief
        have h_r := PyI.st sl3 h_r
        have sl2 := sl2.trans sl3
        obtain ⟨v_c, rfl, h_c⟩ := ht
        refine st_app (W := Wi3) g00 g0 rfl ho_found (ew_pair (ew_var (v := v_r) rfl h_r) (ew_var (v := v_c) rfl h_c)) hm fun a4_found W4_ W4 l_found el_found g4 s g02 kk ff ho_found hm => ?_
        have h_relief := PyI.st g4.st h_relief
        have h_r := PyI.st g4.st h_r
        have h_c := PyI.st g4.st h_c
        have sl2 := sl2.trans g4.st
        have sl3 := sl3.trans g4.st
        have g0 := g0.trans g4
        have h_relief := PyI.st s h_relief
        have h_r := PyI.st s h_r
        have h_c := PyI.st s h_c
        have sl2 := sl2.trans s
        have sl3 := sl3.trans s
        have g0 := g02
        exact kn3 a4_found _ W4 ⟨v_found, fp_found, _, rfl, g0, sl3, ho_found⟩ hm
      ·
        obtain ⟨v_found, fp_found, o_c, rfl, g0, sl3, ho_found⟩ := hI
        have h_relief := PyI.st sl3 h_relief
        have h_r := PyI.st sl3 h_r
        have sl2 := sl2.trans sl3
        exact kn2 z3 _ Wi3 ⟨v_found, fp_found, _, _, rfl, g0, sl2, ho_found⟩ hm
    ·
      obtain ⟨v_found, fp_found, o_r, o_c, rfl, g0, sl2, ho_found⟩ := hI
      have h_relief := PyI.st sl2 h_relief
      exact ⟨_, rfl, hm _ Wi2 g0 rfl ⟨fp_found, ho_found.own, fun b m => ⟨ho_found.fr b m, Var.nS g00 ho_found b m, ho_found.nF b m⟩⟩⟩
abbrev s__law_sides : Stmt := top 21
abbrev N__law_sides : List Str := ["square", "r", "c"]
abbrev P__law_sides : List Str := ["square"]
theorem sc__law_sides : FnScope N__law_sides P__law_sides (defScope s__law_sides) := ⟨rfl, rfl, rfl, by decide +kernel, rfl, by decide +kernel, by decide +kernel⟩
def m__law_sides (a_square : Sq) : WP (List Sq) := (WP.pure a_square).bind fun a1_r_c => (WP.row (WP.consE (WP.pair (WP.sub (WP.pure a1_r_c.1) (WP.pure (1 : Int))) (WP.pure a1_r_c.2)) (WP.consE (WP.pair (WP.pure a1_r_c.1) (WP.sub (WP.pure a1_r_c.2) (WP.pure (1 : Int)))) (WP.consE (WP.pair (WP.pure a1_r_c.1) (WP.add (WP.pure a1_r_c.2) (WP.pure (1 : Int)))) (WP.consE (WP.pair (WP.add (WP.pure a1_r_c.1) (WP.pure (1 : Int))) (WP.pure a1_r_c.2)) (WP.pure ([] : List Sq))))))).bind fun r2 => (WP.pure r2)
def sp__law_sides : Sp := fun vs H Q _ => ∃ (W : Wo) (a_square : Sq) (v_square : V), vs = [v_square] ∧ W.H = H ∧ Good ef0 W ∧ Rp W a_square v_square ∧ (m__law_sides a_square).run W.n fun n r => ∀ v W', Gw ef0 W W' → W'.n = n → (sN (e := ef0) (kL Sq)).post W W' r v → Q v W'.H
theorem ev__law_sides {e : Ef} {σ : L2.St} {W : Wo} {E : XK} {t0 : TE} {w0 : WP Sq} (h0 : EvW e t0 σ W sI w0) : EvW e (tCall sp__law_sides [] E (tCons t0 tNil)) σ W (sN (kL Sq)) (WP.b1 w0 m__law_sides) := ew_call1N h0 fun W2 b0 x0 g2 r0 Q q E => by
  exact ⟨W2, b0, x0, rfl, rfl, g2.z, r0, WP.mono _ (fun n c h v W3 g3 hn p => h v W3 (Gw.up g2 g3) hn (sN_up g2 p)) q⟩
theorem ok__law_sides (F : At K mg "_law_sides" s__law_sides P__law_sides) (G : Glb mg)  : Has P w K mg base "_law_sides" 1 P__law_sides sp__law_sides := by
  refine Has.of F sc__law_sides (fun vs H Q E h => ?_) (fun f cdv A outer s H0 vs Q E hr h => ?_)
  · obtain ⟨W0, a_square, v_square, rfl, _⟩ := h
    rfl
  · obtain ⟨W0, a_square, v_square, rfl, rfl, g00, h_square, hm⟩ := h
    have sc := sc__law_sides
    have g0 := Gw.refl g00
    unfold m__law_sides at hm
    refine ⟨_, (pss_cons (ps_asg (pv 0) (pg_tup rfl (pgs_cons (pg_name (i := 1) sc.nd rfl (Or.inl rfl)) (pgs_cons (pg_name (i := 2) sc.nd rfl (Or.inl rfl)) pgs_nil))))
      (pss_one (ps_ret (pe_lst (pa_cons (pe_tup (pa_cons (pe_op op_sub (pv 1) pe_int) (pa_cons (pv 2) pa_nil))) (pa_cons (pe_tup (pa_cons (pv 1) (pa_cons (pe_op op_sub (pv 2) pe_int) pa_nil))) (pa_cons (pe_tup (pa_cons (pv 1) (pa_cons (pe_op op_add (pv 2) pe_int) pa_nil))) (pa_cons (pe_tup (pa_cons (pe_op op_add (pv 1) pe_int) (pa_cons (pv 2) pa_nil))) pa_nil)))))))), ?_⟩
    refine q_un2 (W := W0) (ew_var (v := v_square) rfl h_square) g0.ok hm fun a1_r_c v_r v_c W1 g1 h_r h_c hm => ?_
    have h_square := PyI.st g1.st h_square
    have g0 := g0.trans g1
    first | refine norm_st (σ' := [some v_square, some v_r, some v_c]) rfl ?_ | skip
    refine st_ret (W := W1) (ew_lst (eas_cons (ew_pair (ew_sub (ew_var (v := v_r) rfl h_r) ew_int) (ew_var (v := v_c) rfl h_c)) (eas_cons (ew_pair (ew_var (v := v_r) rfl h_r) (ew_sub (ew_var (v := v_c) rfl h_c) ew_int)) (eas_cons (ew_pair (ew_var (v := v_r) rfl h_r) (ew_add (ew_var (v := v_c) rfl h_c) ew_int)) (eas_cons (ew_pair (ew_add (ew_var (v := v_r) rfl h_r) ew_int) (ew_var (v := v_c) rfl h_c)) (eas_nil (α := Sq))))))) g0.ok hm fun r2 v_ret W2 g2 hp hm => ?_
    exact hm v_ret W2 (g0.trans g2) rfl ((sN (kL Sq)).back g0 hp)
abbrev s__law_height : Stmt := top 22
abbrev N__law_height : List Str := ["deal", "style", "span", "r", "c", "rows", "columns", "edge", "drawn"]
abbrev P__law_height : List Str := ["deal", "style", "span", "r", "c", "rows", "columns"]
theorem sc__law_height : FnScope N__law_height P__law_height (defScope s__law_height) := ⟨rfl, rfl, rfl, by decide +kernel, rfl, by decide +kernel, by decide +kernel⟩
def m__law_height (_ : Unit) (a_style : Int) (a_span : Int) (a_r : Int) (a_c : Int) (a_rows : Int) (a_columns : Int) : WP Int := (WP.min4 (WP.pure a_r) (WP.pure a_c) (WP.sub (WP.sub (WP.pure a_rows) (WP.pure (1 : Int))) (WP.pure a_r)) (WP.sub (WP.sub (WP.pure a_columns) (WP.pure (1 : Int))) (WP.pure a_c))).bind fun a1_edge => (WP.b2 (WP.pure ()) (WP.pure a_span) m_take).bind fun a2_drawn => (WP.eq (WP.pure a_style) (WP.pure (1 : Int))).bind fun b => WP.cond b ((WP.min2 (WP.sub (WP.pure a_span) (WP.pure (1 : Int))) (WP.add (WP.pure a1_edge) (WP.mod (WP.pure a2_drawn) (WP.pure (2 : Int))))).bind fun r4 => (WP.pure r4)) ((WP.eq (WP.pure a_style) (WP.pure (2 : Int))).bind fun b => WP.cond b ((WP.max2 (WP.pure (0 : Int)) (WP.sub (WP.sub (WP.sub (WP.pure a_span) (WP.pure (1 : Int))) (WP.pure a1_edge)) (WP.mod (WP.pure a2_drawn) (WP.pure (2 : Int))))).bind fun r6 => (WP.pure r6)) ((WP.eq (WP.pure a_style) (WP.pure (3 : Int))).bind fun b => WP.cond b ((WP.ite (WP.eq (WP.mod (WP.pure a1_edge) (WP.pure (2 : Int))) (WP.pure (0 : Int))) (WP.pure a2_drawn) (WP.fdiv (WP.pure a2_drawn) (WP.pure (3 : Int)))).bind fun r8 => (WP.pure r8)) ((WP.eq (WP.pure a_style) (WP.pure (4 : Int))).bind fun b => WP.cond b ((WP.ite (WP.or (WP.eq (WP.mod (WP.pure a_r) (WP.pure (2 : Int))) (WP.pure (0 : Int))) (WP.eq (WP.pure a_c) (WP.ix (WP.row (WP.consE (WP.pure (0 : Int)) (WP.consE (WP.sub (WP.pure a_columns) (WP.pure (1 : Int))) (WP.pure ([] : List Int))))) (WP.mod (WP.fdiv (WP.pure a_r) (WP.pure (2 : Int))) (WP.pure (2 : Int)))))) (WP.sub (WP.pure a_span) (WP.pure (1 : Int))) (WP.fdiv (WP.pure a2_drawn) (WP.pure (2 : Int)))).bind fun r10 => (WP.pure r10)) ((WP.eq (WP.pure a_style) (WP.pure (5 : Int))).bind fun b => WP.cond b ((WP.ite (WP.or (WP.eq (WP.mod (WP.pure a_r) (WP.pure (2 : Int))) (WP.pure (0 : Int))) (WP.eq (WP.pure a_c) (WP.ix (WP.row (WP.consE (WP.pure (0 : Int)) (WP.consE (WP.sub (WP.pure a_columns) (WP.pure (1 : Int))) (WP.pure ([] : List Int))))) (WP.mod (WP.fdiv (WP.pure a_r) (WP.pure (2 : Int))) (WP.pure (2 : Int)))))) (WP.fdiv (WP.pure a2_drawn) (WP.pure (2 : Int))) (WP.sub (WP.pure a_span) (WP.pure (1 : Int)))).bind fun r12 => (WP.pure r12)) ((WP.eq (WP.pure a_style) (WP.pure (6 : Int))).bind fun b => WP.cond b ((WP.ite (WP.eq (WP.mod (WP.add (WP.pure a_r) (WP.pure a_c)) (WP.pure (2 : Int))) (WP.pure (0 : Int))) (WP.pure a2_drawn) (WP.sub (WP.sub (WP.pure a_span) (WP.pure (1 : Int))) (WP.fdiv (WP.pure a2_drawn) (WP.pure (3 : Int))))).bind fun r14 => (WP.pure r14)) ((WP.eq (WP.pure a_style) (WP.pure (7 : Int))).bind fun b => WP.cond b ((WP.mod (WP.add (WP.fdiv (WP.pure a_r) (WP.pure (2 : Int))) (WP.mul (WP.fdiv (WP.pure a_c) (WP.pure (2 : Int))) (WP.pure (2 : Int)))) (WP.pure a_span)).bind fun r16 => (WP.pure r16)) ((WP.pure a2_drawn).bind fun r17 => (WP.pure r17))))))))
def sp__law_height : Sp := fun vs H Q _ => ∃ (d : Dl) (W : Wo) (a_style : Int) (a_span : Int) (a_r : Int) (a_c : Int) (a_rows : Int) (a_columns : Int) (v_style v_span v_r v_c v_rows v_columns : V), vs = [.ref d.p, v_style, v_span, v_r, v_c, v_rows, v_columns] ∧ W.H = H ∧ Good (efD d) W ∧ Rp W a_style v_style ∧ Rp W a_span v_span ∧ Rp W a_r v_r ∧ Rp W a_c v_c ∧ Rp W a_rows v_rows ∧ Rp W a_columns v_columns ∧ (m__law_height () a_style a_span a_r a_c a_rows a_columns).run W.n fun n r => ∀ v W', Gw (efD d) W W' → W'.n = n → (sI (e := (efD d)) (α := Int)).post W W' r v → Q v W'.H
theorem ev__law_height {d : Dl} {σ : L2.St} {W : Wo} {E : XK} {t0 t1 t2 t3 t4 t5 t6 : TE} {w0 : WP Unit} {w1 : WP Int} {w2 : WP Int} {w3 : WP Int} {w4 : WP Int} {w5 : WP Int} {w6 : WP Int} (h0 : EvW (efD d) t0 σ W (sD d) w0) (h1 : EvW (efD d) t1 σ W sI w1) (h2 : EvW (efD d) t2 σ W sI w2) (h3 : EvW (efD d) t3 σ W sI w3) (h4 : EvW (efD d) t4 σ W sI w4) (h5 : EvW (efD d) t5 σ W sI w5) (h6 : EvW (efD d) t6 σ W sI w6) : EvW (efD d) (tCall sp__law_height [] E (tCons t0 (tCons t1 (tCons t2 (tCons t3 (tCons t4 (tCons t5 (tCons t6 tNil)))))))) σ W (sI (α := Int)) (WP.b7 w0 w1 w2 w3 w4 w5 w6 m__law_height) := ew_call7N h0 h1 h2 h3 h4 h5 h6 fun W2 b0 b1 b2 b3 b4 b5 b6 x0 x1 x2 x3 x4 x5 x6 g2 r0 r1 r2 r3 r4 r5 r6 Q q E => by
  cases r0
  exact ⟨d, W2, b1, b2, b3, b4, b5, b6, x1, x2, x3, x4, x5, x6, rfl, rfl, g2, r1, r2, r3, r4, r5, r6, WP.mono _ (fun n c h v W3 g3 hn p => h v W3 g3 hn p) q⟩
theorem ok__law_height (F : At K mg "_law_height" s__law_height P__law_height) (G : Glb mg) (H__law_take : Has P w K mg base "_law_take" 1 P__law_take sp_take) : Has P w K mg base "_law_height" 2 P__law_height sp__law_height := by
  refine Has.of F sc__law_height (fun vs H Q E h => ?_) (fun f cdv A outer s H0 vs Q E hr h => ?_)
  · obtain ⟨d, W0, a_style, a_span, a_r, a_c, a_rows, a_columns, v_style, v_span, v_r, v_c, v_rows, v_columns, rfl, _⟩ := h
    rfl
  · obtain ⟨d, W0, a_style, a_span, a_r, a_c, a_rows, a_columns, v_style, v_span, v_r, v_c, v_rows, v_columns, rfl, rfl, g00, h_style, h_span, h_r, h_c, h_rows, h_columns, hm⟩ := h
    have sc := sc__law_height
    have g0 := Gw.refl g00
    unfold m__law_height at hm
    refine ⟨_, (pss_cons (ps_set (i := 7) sc.nd rfl (Or.inl rfl) (pe_callB (call_min4 rfl) (by rfl) G.min (by decide +kernel) (pa_cons (pv 3) (pa_cons (pv 4) (pa_cons (pe_op op_sub (pe_op op_sub (pv 5) pe_int) (pv 3)) (pa_cons (pe_op op_sub (pe_op op_sub (pv 6) pe_int) (pv 4)) pa_nil))))))
      (pss_cons (ps_set (i := 8) sc.nd rfl (Or.inl rfl) (pe_user H__law_take (hr.mono (by decide)) rfl (pa_cons (pv 0) (pa_cons (pv 2) pa_nil))))
      (pss_cons (ps_if (pt_cmpR op_eq (pv 1) pe_int (nomark _)) (pss_one (ps_ret (pe_callB (call_min2 rfl) (by rfl) G.min (by decide +kernel) (pa_cons (pe_op op_sub (pv 2) pe_int) (pa_cons (pe_op op_add (pv 7) (pe_op op_mod (pv 8) pe_int)) pa_nil))))) pss_nil)
      (pss_cons (ps_if (pt_cmpR op_eq (pv 1) pe_int (nomark _)) (pss_one (ps_ret (pe_callB (call_max2 rfl) (by rfl) G.max (by decide +kernel) (pa_cons pe_int (pa_cons (pe_op op_sub (pe_op op_sub (pe_op op_sub (pv 2) pe_int) (pv 7)) (pe_op op_mod (pv 8) pe_int)) pa_nil))))) pss_nil)
      (pss_cons (ps_if (pt_cmpR op_eq (pv 1) pe_int (nomark _)) (pss_one (ps_ret (pe_ifExp (pt_cmpR op_eq (pe_op op_mod (pv 7) pe_int) pe_int (nomark _)) (pv 8) (pe_op op_fdiv (pv 8) pe_int)))) pss_nil)
      (pss_cons (ps_if (pt_cmpR op_eq (pv 1) pe_int (nomark _)) (pss_one (ps_ret (pe_ifExp (PW.pt (pw_or (pt_cmpR op_eq (pe_op op_mod (pv 3) pe_int) pe_int (nomark _)) (pw_or1 (pt_cmpR op_eq (pv 4) (pe_ix ix_list (pe_lst (pa_cons pe_int (pa_cons (pe_op op_sub (pv 6) pe_int) pa_nil))) (pe_op op_mod (pe_op op_fdiv (pv 3) pe_int) pe_int) (fun _ _ => rfl)) (nomark _))))) (pe_op op_sub (pv 2) pe_int) (pe_op op_fdiv (pv 8) pe_int)))) pss_nil)
      (pss_cons (ps_if (pt_cmpR op_eq (pv 1) pe_int (nomark _)) (pss_one (ps_ret (pe_ifExp (PW.pt (pw_or (pt_cmpR op_eq (pe_op op_mod (pv 3) pe_int) pe_int (nomark _)) (pw_or1 (pt_cmpR op_eq (pv 4) (pe_ix ix_list (pe_lst (pa_cons pe_int (pa_cons (pe_op op_sub (pv 6) pe_int) pa_nil))) (pe_op op_mod (pe_op op_fdiv (pv 3) pe_int) pe_int) (fun _ _ => rfl)) (nomark _))))) (pe_op op_fdiv (pv 8) pe_int) (pe_op op_sub (pv 2) pe_int)))) pss_nil)
      (pss_cons (ps_if (pt_cmpR op_eq (pv 1) pe_int (nomark _)) (pss_one (ps_ret (pe_ifExp (pt_cmpR op_eq (pe_op op_mod (pe_op op_add (pv 3) (pv 4)) pe_int) pe_int (nomark _)) (pv 8) (pe_op op_sub (pe_op op_sub (pv 2) pe_int) (pe_op op_fdiv (pv 8) pe_int))))) pss_nil)
      (pss_cons (ps_if (pt_cmpR op_eq (pv 1) pe_int (nomark _)) (pss_one (ps_ret (pe_op op_mod (pe_op op_add (pe_op op_fdiv (pv 3) pe_int) (pe_op op_mul (pe_op op_fdiv (pv 4) pe_int) pe_int)) (pv 2)))) pss_nil)
      (pss_one (ps_ret (pv 8)))))))))))), ?_⟩
    refine q_asg (W := W0) (ew_min4 (ew_var (v := v_r) rfl h_r) (ew_var (v := v_c) rfl h_c) (ew_sub (ew_sub (ew_var (v := v_rows) rfl h_rows) ew_int) (ew_var (v := v_r) rfl h_r)) (ew_sub (ew_sub (ew_var (v := v_columns) rfl h_columns) ew_int) (ew_var (v := v_c) rfl h_c))) g0.ok hm fun a1_edge v_edge W1 g1 h_edge hm => ?_
    have h_style := PyI.st g1.st h_style
    have h_span := PyI.st g1.st h_span
    have h_r := PyI.st g1.st h_r
    have h_c := PyI.st g1.st h_c
    have h_rows := PyI.st g1.st h_rows
    have h_columns := PyI.st g1.st h_columns
    have g0 := g0.trans g1
    refine q_asg (W := W1) (ev_take (ew_deal rfl) (ew_var (v := v_span) rfl h_span)) g0.ok hm fun a2_drawn v_drawn W2 g2 h_drawn hm => ?_
    have h_style := PyI.st g2.st h_style
    have h_span := PyI.st g2.st h_span
    have h_r := PyI.st g2.st h_r
    have h_c := PyI.st g2.st h_c
    have h_rows := PyI.st g2.st h_rows
    have h_columns := PyI.st g2.st h_columns
    have h_edge := PyI.st g2.st h_edge
    have g0 := g0.trans g2
    first | refine norm_st (σ' := [some (.ref d.p), some v_style, some v_span, some v_r, some v_c, some v_rows, some v_columns, some v_edge, some v_drawn]) rfl ?_ | skip
    refine q_if (W := W2) (et_t (ew_eq (ew_var (v := v_style) rfl h_style) ew_int)) g0.ok hm (fun W3 g3 hm => ?_) (fun W3 g3 hm => ?_)
    ·
      have h_style := PyI.st g3.st h_style
      have h_span := PyI.st g3.st h_span
      have h_r := PyI.st g3.st h_r
      have h_c := PyI.st g3.st h_c
      have h_rows := PyI.st g3.st h_rows
      have h_columns := PyI.st g3.st h_columns
      have h_edge := PyI.st g3.st h_edge
      have h_drawn := PyI.st g3.st h_drawn
      have g0 := g0.trans g3
      refine st_ret (W := W3) (ew_min2 (ew_sub (ew_var (v := v_span) rfl h_span) ew_int) (ew_add (ew_var (v := v_edge) rfl h_edge) (ew_mod (ew_var (v := v_drawn) rfl h_drawn) ew_int))) g0.ok hm fun r4 v_ret W4 g4 hp hm => ?_
      exact hm v_ret W4 (g0.trans g4) rfl hp
    ·
      have h_style := PyI.st g3.st h_style
      have h_span := PyI.st g3.st h_span
      have h_r := PyI.st g3.st h_r
      have h_c := PyI.st g3.st h_c
      have h_rows := PyI.st g3.st h_rows
      have h_columns := PyI.st g3.st h_columns
      have h_edge := PyI.st g3.st h_edge
      have h_drawn := PyI.st g3.st h_drawn
      have g0 := g0.trans g3
      refine st_next ?_
      refine q_if (W := W3) (et_t (ew_eq (ew_var (v := v_style) rfl h_style) ew_int)) g0.ok hm (fun W5 g5 hm => ?_) (fun W5 g5 hm => ?_)
      ·
        have h_style := PyI.st g5.st h_style
        have h_span := PyI.st g5.st h_span
        have h_r := PyI.st g5.st h_r
        have h_c := PyI.st g5.st h_c
        have h_rows := PyI.st g5.st h_rows
        have h_columns := PyI.st g5.st h_columns
        have h_edge := PyI.st g5.st h_edge
        have h_drawn := PyI.st g5.st h_drawn
        have g0 := g0.trans g5
        refine st_ret (W := W5) (ew_max2 ew_int (ew_sub (ew_sub (ew_sub (ew_var (v := v_span) rfl h_span) ew_int) (ew_var (v := v_edge) rfl h_edge)) (ew_mod (ew_var (v := v_drawn) rfl h_drawn) ew_int))) g0.ok hm fun r6 v_ret W6 g6 hp hm => ?_
        exact hm v_ret W6 (g0.trans g6) rfl hp
      ·
        have h_style := PyI.st g5.st h_style
        have h_span := PyI.st g5.st h_span
        have h_r := PyI.st g5.st h_r
        have h_c := PyI.st g5.st h_c
        have h_rows := PyI.st g5.st h_rows
        have h_columns := PyI.st g5.st h_columns
        have h_edge := PyI.st g5.st h_edge
        have h_drawn := PyI.st g5.st h_drawn
        have g0 := g0.trans g5
        refine st_next ?_
        refine q_if (W := W5) (et_t (ew_eq (ew_var (v := v_style) rfl h_style) ew_int)) g0.ok hm (fun W7 g7 hm => ?_) (fun W7 g7 hm => ?_)
        ·
          have h_style := PyI.st g7.st h_style
          have h_span := PyI.st g7.st h_span
          have h_r := PyI.st g7.st h_r
          have h_c := PyI.st g7.st h_c
          have h_rows := PyI.st g7.st h_rows
          have h_columns := PyI.st g7.st h_columns
          have h_edge := PyI.st g7.st h_edge
          have h_drawn := PyI.st g7.st h_drawn
          have g0 := g0.trans g7
          refine st_ret (W := W7) (ew_ifE (et_t (ew_eq (ew_mod (ew_var (v := v_edge) rfl h_edge) ew_int) ew_int)) (ew_var (v := v_drawn) rfl h_drawn) (ew_fdiv (ew_var (v := v_drawn) rfl h_drawn) ew_int)) g0.ok hm fun r8 v_ret W8 g8 hp hm => ?_
          exact hm v_ret W8 (g0.trans g8) rfl hp
        ·
          have h_style := PyI.st g7.st h_style
          have h_span := PyI.st g7.st h_span
          have h_r := PyI.st g7.st h_r
          have h_c := PyI.st g7.st h_c
          have h_rows := PyI.st g7.st h_rows
          have h_columns := PyI.st g7.st h_columns
          have h_edge := PyI.st g7.st h_edge
          have h_drawn := PyI.st g7.st h_drawn
          have g0 := g0.trans g7
          refine st_next ?_
          refine q_if (W := W7) (et_t (ew_eq (ew_var (v := v_style) rfl h_style) ew_int)) g0.ok hm (fun W9 g9 hm => ?_) (fun W9 g9 hm => ?_)
          ·
            have h_style := PyI.st g9.st h_style
            have h_span := PyI.st g9.st h_span
            have h_r := PyI.st g9.st h_r
            have h_c := PyI.st g9.st h_c
            have h_rows := PyI.st g9.st h_rows
            have h_columns := PyI.st g9.st h_columns
            have h_edge := PyI.st g9.st h_edge
            have h_drawn := PyI.st g9.st h_drawn
            have g0 := g0.trans g9
            refine st_ret (W := W9) (ew_ifE (et_or (et_t (ew_eq (ew_mod (ew_var (v := v_r) rfl h_r) ew_int) ew_int)) (et_t (ew_eq (ew_var (v := v_c) rfl h_c) (ew_ixL (ew_rd (ew_lst (eas_cons ew_int (eas_cons (ew_sub (ew_var (v := v_columns) rfl h_columns) ew_int) (eas_nil (α := Int)))))) (ew_mod (ew_fdiv (ew_var (v := v_r) rfl h_r) ew_int) ew_int))))) (ew_sub (ew_var (v := v_span) rfl h_span) ew_int) (ew_fdiv (ew_var (v := v_drawn) rfl h_drawn) ew_int)) g0.ok hm fun r10 v_ret W10 g10 hp hm => ?_
            exact hm v_ret W10 (g0.trans g10) rfl hp
          ·
            have h_style := PyI.st g9.st h_style
            have h_span := PyI.st g9.st h_span
            have h_r := PyI.st g9.st h_r
            have h_c := PyI.st g9.st h_c
            have h_rows := PyI.st g9.st h_rows
            have h_columns := PyI.st g9.st h_columns
            have h_edge := PyI.st g9.st h_edge
            have h_drawn := PyI.st g9.st h_drawn
            have g0 := g0.trans g9
            refine st_next ?_
            refine q_if (W := W9) (et_t (ew_eq (ew_var (v := v_style) rfl h_style) ew_int)) g0.ok hm (fun W11 g11 hm => ?_) (fun W11 g11 hm => ?_)
            ·
              have h_style := PyI.st g11.st h_style
              have h_span := PyI.st g11.st h_span
              have h_r := PyI.st g11.st h_r
              have h_c := PyI.st g11.st h_c
              have h_rows := PyI.st g11.st h_rows
              have h_columns := PyI.st g11.st h_columns
              have h_edge := PyI.st g11.st h_edge
              have h_drawn := PyI.st g11.st h_drawn
              have g0 := g0.trans g11
              refine st_ret (W := W11) (ew_ifE (et_or (et_t (ew_eq (ew_mod (ew_var (v := v_r) rfl h_r) ew_int) ew_int)) (et_t (ew_eq (ew_var (v := v_c) rfl h_c) (ew_ixL (ew_rd (ew_lst (eas_cons ew_int (eas_cons (ew_sub (ew_var (v := v_columns) rfl h_columns) ew_int) (eas_nil (α := Int)))))) (ew_mod (ew_fdiv (ew_var (v := v_r) rfl h_r) ew_int) ew_int))))) (ew_fdiv (ew_var (v := v_drawn) rfl h_drawn) ew_int) (ew_sub (ew_var (v := v_span) rfl h_span) ew_int)) g0.ok hm fun r12 v_ret W12 g12 hp hm => ?_
              exact hm v_ret W12 (g0.trans g12) rfl hp
            ·
              have h_style := PyI.st g11.st h_style
              have h_span := PyI.st g11.st h_span
              have h_r := PyI.st g11.st h_r
              have h_c := PyI.st g11.st h_c
              have h_rows := PyI.st g11.st h_rows
              have h_columns := PyI.st g11.st h_columns
              have h_edge := PyI.st g11.st h_edge
              have h_drawn := PyI.st g11.st h_drawn
              have g0 := g0.trans g11
              refine st_next ?_
              refine q_if (W := W11) (et_t (ew_eq (ew_var (v := v_style) rfl h_style) ew_int)) g0.ok hm (fun W13 g13 hm => ?_) (fun W13 g13 hm => ?_)
              ·
                have h_style := PyI.st g13.st h_style
                have h_span := PyI.st g13.st h_span
                have h_r := PyI.st g13.st h_r
                have h_c := PyI.st g13.st h_c
                have h_rows := PyI.st g13.st h_rows
                have h_columns := PyI.st g13.st h_columns
                have h_edge := PyI.st g13.st h_edge
                have h_drawn := PyI.st g13.st h_drawn
                have g0 := g0.trans g13
                refine st_ret (W := W13) (ew_ifE (et_t (ew_eq (ew_mod (ew_add (ew_var (v := v_r) rfl h_r) (ew_var (v := v_c) rfl h_c)) ew_int) ew_int)) (ew_var (v := v_drawn) rfl h_drawn) (ew_sub (ew_sub (ew_var (v := v_span) rfl h_span) ew_int) (ew_fdiv (ew_var (v := v_drawn) rfl h_drawn) ew_int))) g0.ok hm fun r14 v_ret W14 g14 hp hm => ?_
                exact hm v_ret W14 (g0.trans g14) rfl hp
              ·
                have h_style := PyI.st g13.st h_style
                have h_span := PyI.st g13.st h_span
                have h_r := PyI.st g13.st h_r
                have h_c := PyI.st g13.st h_c
                have h_rows := PyI.st g13.st h_rows
                have h_columns := PyI.st g13.st h_columns
                have h_edge := PyI.st g13.st h_edge
                have h_drawn := PyI.st g13.st h_drawn
                have g0 := g0.trans g13
                refine st_next ?_
                refine q_if (W := W13) (et_t (ew_eq (ew_var (v := v_style) rfl h_style) ew_int)) g0.ok hm (fun W15 g15 hm => ?_) (fun W15 g15 hm => ?_)
                ·
                  have h_style := PyI.st g15.st h_style
                  have h_span := PyI.st g15.st h_span
                  have h_r := PyI.st g15.st h_r
                  have h_c := PyI.st g15.st h_c
                  have h_rows := PyI.st g15.st h_rows
                  have h_columns := PyI.st g15.st h_columns
                  have h_edge := PyI.st g15.st h_edge
                  have h_drawn := PyI.st g15.st h_drawn
                  have g0 := g0.trans g15
                  refine st_ret (W := W15) (ew_mod (ew_add (ew_fdiv (ew_var (v := v_r) rfl h_r) ew_int) (ew_mul (ew_fdiv (ew_var (v := v_c) rfl h_c) ew_int) ew_int)) (ew_var (v := v_span) rfl h_span)) g0.ok hm fun r16 v_ret W16 g16 hp hm => ?_
                  exact hm v_ret W16 (g0.trans g16) rfl hp
                ·
                  have h_style := PyI.st g15.st h_style
                  have h_span := PyI.st g15.st h_span
                  have h_r := PyI.st g15.st h_r
                  have h_c := PyI.st g15.st h_c
                  have h_rows := PyI.st g15.st h_rows
                  have h_columns := PyI.st g15.st h_columns
                  have h_edge := PyI.st g15.st h_edge
                  have h_drawn := PyI.st g15.st h_drawn
                  have g0 := g0.trans g15
                  refine st_next ?_
                  refine st_ret (W := W15) (ew_var (v := v_drawn) rfl h_drawn) g0.ok hm fun r17 v_ret W17 g17 hp hm => ?_
                  exact hm v_ret W17 (g0.trans g17) rfl hp
abbrev s__law_relief : Stmt := top 23
abbrev N__law_relief : List Str := ["deal", "rows", "columns", "span", "base", "style", "grid", "r", "row", "c", "k", "number"]
abbrev P__law_relief : List Str := ["deal", "rows", "columns"]
theorem sc__law_relief : FnScope N__law_relief P__law_relief (defScope s__law_relief) := ⟨rfl, rfl, rfl, by decide +kernel, rfl, by decide +kernel, by decide +kernel⟩
def m__law_relief (_ : Unit) (a_rows : Int) (a_columns : Int) : WP (List Str) := (WP.ix (WP.row (WP.consE (WP.pure (2 : Int)) (WP.consE (WP.pure (3 : Int)) (WP.consE (WP.pure (5 : Int)) (WP.consE (WP.pure (10 : Int)) (WP.pure ([] : List Int))))))) (WP.b2 (WP.pure ()) (WP.pure (4 : Int)) m_take)).bind fun a1_span => (WP.b2 (WP.pure ()) (WP.sub (WP.pure (11 : Int)) (WP.pure a1_span)) m_take).bind fun a2_base => (WP.b2 (WP.pure ()) (WP.pure (10 : Int)) m_take).bind fun a3_style => (WP.row (WP.pure ([] : List (List Int)))).bind fun a4_grid => (WP.range1 (WP.pure a_rows)).bind fun xs5 => WP.after (WP.loop (γ := (List Str)) (fun c5 (y5 : (List (List Int))) => (WP.row (WP.pure ([] : List Int))).bind fun a6_row => (WP.range1 (WP.pure a_columns)).bind fun xs7 => WP.after (WP.loop (γ := (List Str)) (fun c7 (y7 : (List Int)) => ((WP.add (WP.pure a2_base) (WP.b7 (WP.pure ()) (WP.pure a3_style) (WP.pure a1_span) (WP.pure c5) (WP.pure c7) (WP.pure a_rows) (WP.pure a_columns) m__law_height)).bind fun a => WP.req (y7.length < 100000) (y7 ++ [a])).bind fun a8_row => (WP.pure (.nx a8_row))) xs7 a6_row) (fun (z7 : (List Int)) => (WP.req (y5.length < 100000) (y5 ++ [z7])).bind fun a9_grid => (WP.pure (.nx a9_grid))) (fun r => (WP.pure (.rt r)))) xs5 a4_grid) (fun (z5 : (List (List Int))) => (WP.range1 (WP.b2 (WP.pure ()) (WP.pure (5 : Int)) m_take)).bind fun xs10 => WP.after (WP.loop (γ := (List Str)) (fun c10 (y10 : (List (List Int))) => (WP.b2 (WP.pure ()) (WP.pure a_rows) m_take).bind fun a11_r => (WP.b2 (WP.pure ()) (WP.pure a_columns) m_take).bind fun a12_c => (WP.gset y10 (WP.add (WP.pure a2_base) (WP.b2 (WP.pure ()) (WP.pure a1_span) m_take)) (WP.pure a11_r) (WP.pure a12_c)).bind fun a13_grid => (WP.pure (.nx a13_grid))) xs10 z5) (fun (z10 : (List (List Int))) => ((WP.lc (WP.pure z10) (fun c1 => (WP.pure true)) (fun c1 => (WP.join (WP.pure (Str.ofString "")) (WP.lc (WP.pure c1) (fun c2 => (WP.pure true)) (fun c2 => (WP.str' (WP.pure c2))))))).bind fun xs => WP.pure (α := List _) xs).bind fun r14 => (WP.pure r14)) (fun r => (WP.pure r))) (fun r => (WP.pure r))
def sp__law_relief : Sp := fun vs H Q _ => ∃ (d : Dl) (W : Wo) (a_rows : Int) (a_columns : Int) (v_rows v_columns : V), vs = [.ref d.p, v_rows, v_columns] ∧ W.H = H ∧ Good (efD d) W ∧ Rp W a_rows v_rows ∧ Rp W a_columns v_columns ∧ (m__law_relief () a_rows a_columns).run W.n fun n r => ∀ v W', Gw (efD d) W W' → W'.n = n → (sI (e := (efD d)) (α := (List Str))).post W W' r v → Q v W'.H
theorem ev__law_relief {d : Dl} {σ : L2.St} {W : Wo} {E : XK} {t0 t1 t2 : TE} {w0 : WP Unit} {w1 : WP Int} {w2 : WP Int} (h0 : EvW (efD d) t0 σ W (sD d) w0) (h1 : EvW (efD d) t1 σ W sI w1) (h2 : EvW (efD d) t2 σ W sI w2) : EvW (efD d) (tCall sp__law_relief [] E (tCons t0 (tCons t1 (tCons t2 tNil)))) σ W (sI (α := (List Str))) (WP.b3 w0 w1 w2 m__law_relief) := ew_call3N h0 h1 h2 fun W2 b0 b1 b2 x0 x1 x2 g2 r0 r1 r2 Q q E => by
  cases r0
  exact ⟨d, W2, b1, b2, x1, x2, rfl, rfl, g2, r1, r2, WP.mono _ (fun n c h v W3 g3 hn p => h v W3 g3 hn p) q⟩
theorem ok__law_relief (F : At K mg "_law_relief" s__law_relief P__law_relief) (G : Glb mg) (H__law_height : Has P w K mg base "_law_height" 2 P__law_height sp__law_height) (H__law_take : Has P w K mg base "_law_take" 1 P__law_take sp_take) : Has P w K mg base "_law_relief" 3 P__law_relief sp__law_relief := by
  refine Has.of F sc__law_relief (fun vs H Q E h => ?_) (fun f cdv A outer s H0 vs Q E hr h => ?_)
  · obtain ⟨d, W0, a_rows, a_columns, v_rows, v_columns, rfl, _⟩ := h
    rfl
  · obtain ⟨d, W0, a_rows, a_columns, v_rows, v_columns, rfl, rfl, g00, h_rows, h_columns, hm⟩ := h
    have sc := sc__law_relief
    have g0 := Gw.refl g00
    unfold m__law_relief at hm
    refine ⟨_, (pss_cons (ps_set (i := 3) sc.nd rfl (Or.inl rfl) (pe_ix ix_list (pe_lst (pa_cons pe_int (pa_cons pe_int (pa_cons pe_int (pa_cons pe_int pa_nil))))) (pe_user H__law_take (hr.mono (by decide)) rfl (pa_cons (pv 0) (pa_cons pe_int pa_nil))) (fun _ _ => rfl)))
      (pss_cons (ps_set (i := 4) sc.nd rfl (Or.inl rfl) (pe_user H__law_take (hr.mono (by decide)) rfl (pa_cons (pv 0) (pa_cons (pe_op op_sub pe_int (pv 3)) pa_nil))))
      (pss_cons (ps_set (i := 5) sc.nd rfl (Or.inl rfl) (pe_user H__law_take (hr.mono (by decide)) rfl (pa_cons (pv 0) (pa_cons pe_int pa_nil))))
      (pss_cons (ps_set (i := 6) sc.nd rfl (Or.inl rfl) (pe_lst pa_nil))
      (pss_cons (ps_for PassesOwn.never rfl (pi_range1 rfl G.range (pa_cons (pv 1) pa_nil)) (pg_name (i := 7) sc.nd rfl (Or.inl rfl))
      (pss_cons (ps_set (i := 8) sc.nd rfl (Or.inl rfl) (pe_lst pa_nil))
      (pss_cons (ps_for PassesOwn.never rfl (pi_range1 rfl G.range (pa_cons (pv 2) pa_nil)) (pg_name (i := 9) sc.nd rfl (Or.inl rfl))
      (pss_one (ps_expr (pe_bm PySem.F.plainAttrs_list PySem.F.slot_list_append PySem.F.type_list_append mt_append (pv 8) (pa_cons (pe_op op_add (pv 4) (pe_user H__law_height (hr.mono (by decide)) rfl (pa_cons (pv 0) (pa_cons (pv 5) (pa_cons (pv 3) (pa_cons (pv 7) (pa_cons (pv 9) (pa_cons (pv 1) (pa_cons (pv 2) pa_nil))))))))) pa_nil)))))
      (pss_one (ps_expr (pe_bm PySem.F.plainAttrs_list PySem.F.slot_list_append PySem.F.type_list_append mt_append (pv 6) (pa_cons (pv 8) pa_nil)))))))
      (pss_cons (ps_for PassesOwn.never rfl (pi_range1 rfl G.range (pa_cons (pe_user H__law_take (hr.mono (by decide)) rfl (pa_cons (pv 0) (pa_cons pe_int pa_nil))) pa_nil)) (pg_name (i := 10) sc.nd rfl (Or.inl rfl))
      (pss_cons (ps_set (i := 7) sc.nd rfl (Or.inl rfl) (pe_user H__law_take (hr.mono (by decide)) rfl (pa_cons (pv 0) (pa_cons (pv 1) pa_nil))))
      (pss_cons (ps_set (i := 9) sc.nd rfl (Or.inl rfl) (pe_user H__law_take (hr.mono (by decide)) rfl (pa_cons (pv 0) (pa_cons (pv 2) pa_nil))))
      (pss_one (ps_asg (pe_op op_add (pv 4) (pe_user H__law_take (hr.mono (by decide)) rfl (pa_cons (pv 0) (pa_cons (pv 3) pa_nil)))) (pg_sub (pe_ix ix_list (pv 6) (pv 7) (fun _ _ => rfl)) (pv 9) set_list))))))
      (pss_one (ps_ret (pe_callTy call_tuple_of (by rfl) G.tuple (by decide +kernel) (pa_cons (pe_lc (own := [("row", 8)]) (g := gName 8) (tt := tYes) rfl sc.nd (pi_list (pv 6)) (blkOk_by (N := N__law_relief) (sc := defScope s__law_relief) (by decide +kernel)) (fun _ _ _ _ _ => (pg_name (i := 8) sc.nd rfl (Or.inl rfl))) (fun _ _ _ _ _ => pts_nil) (fun _ _ _ _ _ => (pe_joinK (K := K) rfl pe_str (pe_lc (own := [("number", 11)]) (g := gName 11) (tt := tYes) rfl sc.nd (pi_listK (K := K) rfl (pv 8)) (blkOk_by (by rfl)) (fun _ _ _ _ _ => (pg_name (i := 11) sc.nd rfl (Or.inl rfl))) (fun _ _ _ _ _ => pts_nil) (fun _ _ _ _ _ => (pe_callTy call_str_int (by rfl) G.str (by decide +kernel) (pa_cons (pv 11) pa_nil))))))) pa_nil)))))))))), ?_⟩
    refine q_asg (W := W0) (ew_ixL (ew_rd (ew_lst (eas_cons ew_int (eas_cons ew_int (eas_cons ew_int (eas_cons ew_int (eas_nil (α := Int)))))))) (ev_take (ew_deal rfl) ew_int)) g0.ok hm fun a1_span v_span W1 g1 h_span hm => ?_
    have h_rows := PyI.st g1.st h_rows
    have h_columns := PyI.st g1.st h_columns
    have g0 := g0.trans g1
    refine q_asg (W := W1) (ev_take (ew_deal rfl) (ew_sub ew_int (ew_var (v := v_span) rfl h_span))) g0.ok hm fun a2_base v_base W2 g2 h_base hm => ?_
    have h_rows := PyI.st g2.st h_rows
    have h_columns := PyI.st g2.st h_columns
    have h_span := PyI.st g2.st h_span
    have g0 := g0.trans g2
    first | refine norm_st (σ' := [some (.ref d.p), some v_rows, some v_columns, some v_span, some v_base, none, none, none, none, none, none, none]) rfl ?_ | skip
    refine q_asg (W := W2) (ev_take (ew_deal rfl) ew_int) g0.ok hm fun a3_style v_style W3 g3 h_style hm => ?_
    have h_rows := PyI.st g3.st h_rows
    have h_columns := PyI.st g3.st h_columns
    have h_span := PyI.st g3.st h_span
    have h_base := PyI.st g3.st h_base
    have g0 := g0.trans g3
    refine q_asg (W := W3) (ew_gnil (α := Int)) g0.ok hm fun a4_grid v_grid W4 g4 ⟨fp_grid, ho0_grid, hf_grid⟩ hm => ?_
    have hz_grid : ∀ a ∈ fp_grid, W0.H a = none := fun a m => g0.live a (hf_grid a m).1
    have h_rows := PyI.st g4.st h_rows
    have h_columns := PyI.st g4.st h_columns
    have h_span := PyI.st g4.st h_span
    have h_base := PyI.st g4.st h_base
    have h_style := PyI.st g4.st h_style
    have g0 := g0.trans g4
    have ho_grid : Var (kG Int) W0 W4 fp_grid a4_grid v_grid := ⟨ho0_grid, hz_grid, fun b m => (hf_grid b m).2.2⟩
    first | refine norm_st (σ' := [some (.ref d.p), some v_rows, some v_columns, some v_span, some v_base, some v_style, some v_grid, none, none, none, none, none]) rfl ?_ | skip
    refine q_forR1 (W := W4) (ew_var (v := v_rows) rfl h_rows) g0.ok hm fun W5 g5 => ?_
    have h_rows := PyI.st g5.st h_rows
    have h_columns := PyI.st g5.st h_columns
    have h_span := PyI.st g5.st h_span
    have h_base := PyI.st g5.st h_base
    have h_style := PyI.st g5.st h_style
    have ho_grid := ho_grid.go g00 g5
    have g0 := g0.trans g5
    refine ⟨fun y σ' W' => ∃ (v_grid : V) (fp_grid : List Addr) (o_r : Option V) (o_row : Option V) (o_c : Option V), σ' = [some (.ref d.p), some v_rows, some v_columns, some v_span, some v_base, some v_style, some v_grid, o_r, o_row, o_c, none, none] ∧ Gw (efD d) W0 W' ∧ St W5 W' ∧ Var (kG Int) W0 W' fp_grid y v_grid, ⟨v_grid, fp_grid, _, _, _, rfl, g0, (St.refl _), ho_grid⟩, fun c5 y5 σi s2 Wi5 R5 nx5 ht hI hm kn5 kb5 kr5 => ?_, fun z5 σi Wi5 hI hm => ?_⟩
    ·
      obtain ⟨v_grid, fp_grid, o_r, o_row, o_c, rfl, g0, sl5, ho_grid⟩ := hI
      have h_rows := PyI.st sl5 h_rows
      have h_columns := PyI.st sl5 h_columns
      have h_span := PyI.st sl5 h_span
      have h_base := PyI.st sl5 h_base
      have h_style := PyI.st sl5 h_style
      obtain ⟨v_r, rfl, h_r⟩ := ht
      refine q_asg (W := Wi5) (ew_lst (eas_nil (α := Int))) g0.ok hm fun a6_row v_row W6 g6 ⟨fp_row, ho0_row, hf_row⟩ hm => ?_
      have dj_grid_row : ∀ b ∈ fp_grid, b ∉ fp_row := fun b m z => (kG Int).live ho_grid.own b m (hf_row b z).1
      have hz_row : ∀ a ∈ fp_row, W0.H a = none := fun a m => g0.live a (hf_row a m).1
      have h_rows := PyI.st g6.st h_rows
      have h_columns := PyI.st g6.st h_columns
      have h_span := PyI.st g6.st h_span
      have h_base := PyI.st g6.st h_base
      have h_style := PyI.st g6.st h_style
      have ho_grid := ho_grid.go g00 g6
      have h_r := PyI.st g6.st h_r
      have sl5 := sl5.trans g6.st
      have g0 := g0.trans g6
      have ho_row : Var (kL Int) W0 W6 fp_row a6_row v_row := ⟨ho0_row, hz_row, fun b m => (hf_row b m).2.2⟩
      refine q_forR1 (W := W6) (ew_var (v := v_columns) rfl h_columns) g0.ok hm fun W7 g7 => ?_
      have h_rows := PyI.st g7.st h_rows
      have h_columns := PyI.st g7.st h_columns
      have h_span := PyI.st g7.st h_span
      have h_base := PyI.st g7.st h_base
      have h_style := PyI.st g7.st h_style
      have ho_grid := ho_grid.go g00 g7
      have h_r := PyI.st g7.st h_r
      have ho_row := ho_row.go g00 g7
      have sl5 := sl5.trans g7.st
      have g0 := g0.trans g7
      refine ⟨fun y σ' W' => ∃ (v_row : V) (fp_row : List Addr) (o_c : Option V), σ' = [some (.ref d.p), some v_rows, some v_columns, some v_span, some v_base, some v_style, some v_grid, some v_r, some v_row, o_c, none, none] ∧ Gw (efD d) W0 W' ∧ St W7 W' ∧ Var (kL Int) W0 W' fp_row y v_row ∧ Var (kG Int) W0 W' fp_grid y5 v_grid ∧ (∀ b ∈ fp_grid, b ∉ fp_row), ⟨v_row, fp_row, _, rfl, g0, (St.refl _), ho_row, ho_grid, dj_grid_row⟩, fun c7 y7 σi s2 Wi7 R7 nx7 ht hI hm kn7 kb7 kr7 => ?_, fun z7 σi Wi7 hI hm => ?_⟩
      ·
        obtain ⟨v_row, fp_row, o_c, rfl, g0, sl7, ho_row, ho_grid, dj_grid_row⟩ := hI
        have h_rows := PyI.st sl7 h_rows
        have h_columns := PyI.st sl7 h_columns
        have h_span := PyI.st sl7 h_span
        have h_base := PyI.st sl7 h_base
        have h_style := PyI.st sl7 h_style
        have h_r := PyI.st sl7 h_r
        have sl5 := sl5.trans sl7
        obtain ⟨v_c, rfl, h_c⟩ := ht
        refine st_app (W := Wi7) g00 g0 rfl ho_row (ew_add (ew_var (v := v_base) rfl h_base) (ev__law_height (ew_deal rfl) (ew_var (v := v_style) rfl h_style) (ew_var (v := v_span) rfl h_span) (ew_var (v := v_r) rfl h_r) (ew_var (v := v_c) rfl h_c) (ew_var (v := v_rows) rfl h_rows) (ew_var (v := v_columns) rfl h_columns))) hm fun a8_row W8_ W8 l_row el_row g8 s g02 kk ff ho_row hm => ?_
        have h_rows := PyI.st g8.st h_rows
        have h_columns := PyI.st g8.st h_columns
        have h_span := PyI.st g8.st h_span
        have h_base := PyI.st g8.st h_base
        have h_style := PyI.st g8.st h_style
        have ho_grid := ho_grid.go g00 g8
        have h_r := PyI.st g8.st h_r
        have h_c := PyI.st g8.st h_c
        have sl5 := sl5.trans g8.st
        have sl7 := sl7.trans g8.st
        have g0 := g0.trans g8
        have h_rows := PyI.st s h_rows
        have h_columns := PyI.st s h_columns
        have h_span := PyI.st s h_span
        have h_base := PyI.st s h_base
        have h_style := PyI.st s h_style
        have ho_grid := ho_grid.kept s kk ff dj_grid_row
        have h_r := PyI.st s h_r
        have h_c := PyI.st s h_c
        have sl5 := sl5.trans s
        have sl7 := sl7.trans s
        have g0 := g02
        exact kn7 a8_row _ W8 ⟨v_row, fp_row, _, rfl, g0, sl7, ho_row, ho_grid, dj_grid_row⟩ hm
      ·
        obtain ⟨v_row, fp_row, o_c, rfl, g0, sl7, ho_row, ho_grid, dj_grid_row⟩ := hI
        have h_rows := PyI.st sl7 h_rows
        have h_columns := PyI.st sl7 h_columns
        have h_span := PyI.st sl7 h_span
        have h_base := PyI.st sl7 h_base
        have h_style := PyI.st sl7 h_style
        have h_r := PyI.st sl7 h_r
        have sl5 := sl5.trans sl7
        refine st_gapp (W := Wi7) g00 g0 rfl rfl ho_grid ho_row dj_grid_row hm fun a9_grid W9 fp_grid hsub s g02 kk ff ho_grid hm => ?_
        have h_rows := PyI.st s h_rows
        have h_columns := PyI.st s h_columns
        have h_span := PyI.st s h_span
        have h_base := PyI.st s h_base
        have h_style := PyI.st s h_style
        have h_r := PyI.st s h_r
        have sl5 := sl5.trans s
        have g0 := g02
        exact kn5 a9_grid _ W9 ⟨v_grid, fp_grid, _, _, _, rfl, g0, sl5, ho_grid⟩ hm
    ·
      obtain ⟨v_grid, fp_grid, o_r, o_row, o_c, rfl, g0, sl5, ho_grid⟩ := hI
      have h_rows := PyI.st sl5 h_rows
      have h_columns := PyI.st sl5 h_columns
      have h_span := PyI.st sl5 h_span
      have h_base := PyI.st sl5 h_base
      have h_style := PyI.st sl5 h_style
      refine q_forR1 (W := Wi5) (ev_take (ew_deal rfl) ew_int) g0.ok hm fun W10 g10 => ?_
      have h_rows := PyI.st g10.st h_rows
      have h_columns := PyI.st g10.st h_columns
      have h_span := PyI.st g10.st h_span
      have h_base := PyI.st g10.st h_base
      have h_style := PyI.st g10.st h_style
      have ho_grid := ho_grid.go g00 g10
      have g0 := g0.trans g10
      refine ⟨fun y σ' W' => ∃ (v_grid : V) (fp_grid : List Addr) (o_r : Option V) (o_c : Option V) (o_k : Option V), σ' = [some (.ref d.p), some v_rows, some v_columns, some v_span, some v_base, some v_style, some v_grid, o_r, o_row, o_c, o_k, none] ∧ Gw (efD d) W0 W' ∧ St W10 W' ∧ Var (kG Int) W0 W' fp_grid y v_grid, ⟨v_grid, fp_grid, _, _, _, rfl, g0, (St.refl _), ho_grid⟩, fun c10 y10 σi s2 Wi10 R10 nx10 ht hI hm kn10 kb10 kr10 => ?_, fun z10 σi Wi10 hI hm => ?_⟩
      ·
        obtain ⟨v_grid, fp_grid, o_r, o_c, o_k, rfl, g0, sl10, ho_grid⟩ := hI
        have h_rows := PyI.st sl10 h_rows
        have h_columns := PyI.st sl10 h_columns
        have h_span := PyI.st sl10 h_span
        have h_base := PyI.st sl10 h_base
        have h_style := PyI.st sl10 h_style
        obtain ⟨v_k, rfl, h_k⟩ := ht
        refine q_asg (W := Wi10) (ev_take (ew_deal rfl) (ew_var (v := v_rows) rfl h_rows)) g0.ok hm fun a11_r v_r W11 g11 h_r hm => ?_
        have h_rows := PyI.st g11.st h_rows
        have h_columns := PyI.st g11.st h_columns
        have h_span := PyI.st g11.st h_span
        have h_base := PyI.st g11.st h_base
        have h_style := PyI.st g11.st h_style
        have ho_grid := ho_grid.go g00 g11
        have h_k := PyI.st g11.st h_k
        have sl10 := sl10.trans g11.st
        have g0 := g0.trans g11
        first | refine norm_st (σ' := [some (.ref d.p), some v_rows, some v_columns, some v_span, some v_base, some v_style, some v_grid, some v_r, o_row, o_c, some v_k, none]) rfl ?_ | skip
        refine q_asg (W := W11) (ev_take (ew_deal rfl) (ew_var (v := v_columns) rfl h_columns)) g0.ok hm fun a12_c v_c W12 g12 h_c hm => ?_
        have h_rows := PyI.st g12.st h_rows
        have h_columns := PyI.st g12.st h_columns
        have h_span := PyI.st g12.st h_span
        have h_base := PyI.st g12.st h_base
        have h_style := PyI.st g12.st h_style
        have ho_grid := ho_grid.go g00 g12
        have h_r := PyI.st g12.st h_r
        have h_k := PyI.st g12.st h_k
        have sl10 := sl10.trans g12.st
        have g0 := g0.trans g12
        refine st_gset (W := W12) g00 g0 rfl ho_grid (ew_add (ew_var (v := v_base) rfl h_base) (ev_take (ew_deal rfl) (ew_var (v := v_span) rfl h_span))) (ew_var (v := v_r) rfl h_r) (ew_var (v := v_c) rfl h_c) hm fun a13_grid W13_ W13 g13 s g02 kk ff ho_grid hm => ?_
        have h_rows := PyI.st g13.st h_rows
        have h_columns := PyI.st g13.st h_columns
        have h_span := PyI.st g13.st h_span
        have h_base := PyI.st g13.st h_base
        have h_style := PyI.st g13.st h_style
        have h_r := PyI.st g13.st h_r
        have h_c := PyI.st g13.st h_c
        have h_k := PyI.st g13.st h_k
        have sl10 := sl10.trans g13.st
        have g0 := g0.trans g13
        have h_rows := PyI.st s h_rows
        have h_columns := PyI.st s h_columns
        have h_span := PyI.st s h_span
        have h_base := PyI.st s h_base
        have h_style := PyI.st s h_style
        have h_r := PyI.st s h_r
        have h_c := PyI.st s h_c
        have h_k := PyI.st s h_k
        have sl10 := sl10.trans s
        have g0 := g02
        exact kn10 a13_grid _ W13 ⟨v_grid, fp_grid, _, _, _, rfl, g0, sl10, ho_grid⟩ hm
      ·
        obtain ⟨v_grid, fp_grid, o_r, o_c, o_k, rfl, g0, sl10, ho_grid⟩ := hI
        have h_rows := PyI.st sl10 h_rows
        have h_columns := PyI.st sl10 h_columns
        have h_span := PyI.st sl10 h_span
        have h_base := PyI.st sl10 h_base
        have h_style := PyI.st sl10 h_style
        first | refine norm_st (σ' := [some (.ref d.p), some v_rows, some v_columns, some v_span, some v_base, some v_style, some v_grid, o_r, o_row, o_c, o_k, none]) rfl ?_ | skip
        refine st_ret (W := Wi10) (ew_tuple (ew_rd (ew_lcG (ew_varR (v := v_grid) rfl (Var.nS g00 ho_grid) ho_grid.own) takes_R (fun _ _ _ h => by obtain ⟨v_row, fp_row, ec, hb_row, hS_row⟩ := h; subst ec; rfl) (fun c1 Wc1 s2 gc1 h => by obtain ⟨v_row, fp_row, ec, hb_row, hS_row⟩ := h; subst ec; have ho_grid := ho_grid.go g00 gc1; exact et_yes) (fun c1 Wc1 s2 gc1 h => by obtain ⟨v_row, fp_row, ec, hb_row, hS_row⟩ := h; subst ec; have ho_grid := ho_grid.go g00 gc1; exact (ew_join ew_str (ew_rd (ew_lcL (ew_varR rfl hS_row hb_row) takes_N (fun _ _ _ h => by obtain ⟨v_number, ec, h_number⟩ := h; subst ec; rfl) (fun c2 Wc2 s2 gc2 h => by obtain ⟨v_number, ec, h_number⟩ := h; subst ec; have hb_row := Kd.go gc2 hS_row hb_row; exact et_yes) (fun c2 Wc2 s2 gc2 h => by obtain ⟨v_number, ec, h_number⟩ := h; subst ec; have hb_row := Kd.go gc2 hS_row hb_row; exact (ew_str' (ew_var (v := v_number) rfl h_number)))))))))) g0.ok hm fun r14 v_ret W14 g14 hp hm => ?_
        exact hm v_ret W14 (g0.trans g14) rfl hp
abbrev s__law_sizes : Stmt := top 24
abbrev N__law_sizes : List Str := ["deal", "most", "rows", "columns", "kind"]
abbrev P__law_sizes : List Str := ["deal", "most"]
theorem sc__law_sizes : FnScope N__law_sizes P__law_sizes (defScope s__law_sizes) := ⟨rfl, rfl, rfl, by decide +kernel, rfl, by decide +kernel, by decide +kernel⟩
def m__law_sizes (_ : Unit) (a_most : Int) : WP Sq := (WP.add (WP.pure (1 : Int)) (WP.b2 (WP.pure ()) (WP.pure a_most) m_take)).bind fun a1_rows => (WP.add (WP.pure (1 : Int)) (WP.b2 (WP.pure ()) (WP.pure a_most) m_take)).bind fun a2_columns => (WP.b2 (WP.pure ()) (WP.pure (16 : Int)) m_take).bind fun a3_kind => ((WP.eq (WP.pure a3_kind) (WP.pure (1 : Int))).bind fun b => WP.cond b ((WP.add (WP.pure (1 : Int)) (WP.b2 (WP.pure ()) (WP.mul (WP.pure (2 : Int)) (WP.pure a_most)) m_take)).bind fun a12_rows => (WP.add (WP.pure (1 : Int)) (WP.b2 (WP.pure ()) (WP.mul (WP.pure (2 : Int)) (WP.pure a_most)) m_take)).bind fun a13_columns => (WP.pure (a12_rows, a13_columns))) ((WP.pure (a1_rows, a2_columns)))).bind fun (y4 : Int × Int) => ((WP.eq (WP.pure a3_kind) (WP.pure (2 : Int))).bind fun b => WP.cond b ((WP.add (WP.pure (1 : Int)) (WP.b2 (WP.pure ()) (WP.pure (40 : Int)) m_take)).bind fun a10_rows => (WP.add (WP.pure (1 : Int)) (WP.b2 (WP.pure ()) (WP.pure (2 : Int)) m_take)).bind fun a11_columns => (WP.pure (a10_rows, a11_columns))) ((WP.pure (y4.1, y4.2)))).bind fun (y5 : Int × Int) => ((WP.eq (WP.pure a3_kind) (WP.pure (3 : Int))).bind fun b => WP.cond b ((WP.add (WP.pure (1 : Int)) (WP.b2 (WP.pure ()) (WP.pure (2 : Int)) m_take)).bind fun a8_rows => (WP.add (WP.pure (1 : Int)) (WP.b2 (WP.pure ()) (WP.pure (40 : Int)) m_take)).bind fun a9_columns => (WP.pure (a8_rows, a9_columns))) ((WP.pure (y5.1, y5.2)))).bind fun (y6 : Int × Int) => (WP.pair (WP.pure y6.1) (WP.pure y6.2)).bind fun r7 => (WP.pure r7)
def sp__law_sizes : Sp := fun vs H Q _ => ∃ (d : Dl) (W : Wo) (a_most : Int) (v_most : V), vs = [.ref d.p, v_most] ∧ W.H = H ∧ Good (efD d) W ∧ Rp W a_most v_most ∧ (m__law_sizes () a_most).run W.n fun n r => ∀ v W', Gw (efD d) W W' → W'.n = n → (sI (e := (efD d)) (α := Sq)).post W W' r v → Q v W'.H
theorem ev__law_sizes {d : Dl} {σ : L2.St} {W : Wo} {E : XK} {t0 t1 : TE} {w0 : WP Unit} {w1 : WP Int} (h0 : EvW (efD d) t0 σ W (sD d) w0) (h1 : EvW (efD d) t1 σ W sI w1) : EvW (efD d) (tCall sp__law_sizes [] E (tCons t0 (tCons t1 tNil))) σ W (sI (α := Sq)) (WP.b2 w0 w1 m__law_sizes) := ew_call2N h0 h1 fun W2 b0 b1 x0 x1 g2 r0 r1 Q q E => by
  cases r0
  exact ⟨d, W2, b1, x1, rfl, rfl, g2, r1, WP.mono _ (fun n c h v W3 g3 hn p => h v W3 g3 hn p) q⟩
theorem ok__law_sizes (F : At K mg "_law_sizes" s__law_sizes P__law_sizes) (G : Glb mg) (H__law_take : Has P w K mg base "_law_take" 1 P__law_take sp_take) : Has P w K mg base "_law_sizes" 2 P__law_sizes sp__law_sizes := by
  refine Has.of F sc__law_sizes (fun vs H Q E h => ?_) (fun f cdv A outer s H0 vs Q E hr h => ?_)
  · obtain ⟨d, W0, a_most, v_most, rfl, _⟩ := h
    rfl
  · obtain ⟨d, W0, a_most, v_most, rfl, rfl, g00, h_most, hm⟩ := h
    have sc := sc__law_sizes
    have g0 := Gw.refl g00
    unfold m__law_sizes at hm
    refine ⟨_, (pss_cons (ps_set (i := 2) sc.nd rfl (Or.inl rfl) (pe_op op_add pe_int (pe_user H__law_take (hr.mono (by decide)) rfl (pa_cons (pv 0) (pa_cons (pv 1) pa_nil)))))
      (pss_cons (ps_set (i := 3) sc.nd rfl (Or.inl rfl) (pe_op op_add pe_int (pe_user H__law_take (hr.mono (by decide)) rfl (pa_cons (pv 0) (pa_cons (pv 1) pa_nil)))))
      (pss_cons (ps_set (i := 4) sc.nd rfl (Or.inl rfl) (pe_user H__law_take (hr.mono (by decide)) rfl (pa_cons (pv 0) (pa_cons pe_int pa_nil))))
      (pss_cons (ps_if (pt_cmpR op_eq (pv 4) pe_int (nomark _)) (pss_cons (ps_set (i := 2) sc.nd rfl (Or.inl rfl) (pe_op op_add pe_int (pe_user H__law_take (hr.mono (by decide)) rfl (pa_cons (pv 0) (pa_cons (pe_op op_mul pe_int (pv 1)) pa_nil)))))
      (pss_one (ps_set (i := 3) sc.nd rfl (Or.inl rfl) (pe_op op_add pe_int (pe_user H__law_take (hr.mono (by decide)) rfl (pa_cons (pv 0) (pa_cons (pe_op op_mul pe_int (pv 1)) pa_nil))))))) pss_nil)
      (pss_cons (ps_if (pt_cmpR op_eq (pv 4) pe_int (nomark _)) (pss_cons (ps_set (i := 2) sc.nd rfl (Or.inl rfl) (pe_op op_add pe_int (pe_user H__law_take (hr.mono (by decide)) rfl (pa_cons (pv 0) (pa_cons pe_int pa_nil)))))
      (pss_one (ps_set (i := 3) sc.nd rfl (Or.inl rfl) (pe_op op_add pe_int (pe_user H__law_take (hr.mono (by decide)) rfl (pa_cons (pv 0) (pa_cons pe_int pa_nil))))))) pss_nil)
      (pss_cons (ps_if (pt_cmpR op_eq (pv 4) pe_int (nomark _)) (pss_cons (ps_set (i := 2) sc.nd rfl (Or.inl rfl) (pe_op op_add pe_int (pe_user H__law_take (hr.mono (by decide)) rfl (pa_cons (pv 0) (pa_cons pe_int pa_nil)))))
      (pss_one (ps_set (i := 3) sc.nd rfl (Or.inl rfl) (pe_op op_add pe_int (pe_user H__law_take (hr.mono (by decide)) rfl (pa_cons (pv 0) (pa_cons pe_int pa_nil))))))) pss_nil)
      (pss_one (ps_ret (pe_tup (pa_cons (pv 2) (pa_cons (pv 3) pa_nil))))))))))), ?_⟩
    refine q_asg (W := W0) (ew_add ew_int (ev_take (ew_deal rfl) (ew_var (v := v_most) rfl h_most))) g0.ok hm fun a1_rows v_rows W1 g1 h_rows hm => ?_
    have h_most := PyI.st g1.st h_most
    have g0 := g0.trans g1
    refine q_asg (W := W1) (ew_add ew_int (ev_take (ew_deal rfl) (ew_var (v := v_most) rfl h_most))) g0.ok hm fun a2_columns v_columns W2 g2 h_columns hm => ?_
    have h_most := PyI.st g2.st h_most
    have h_rows := PyI.st g2.st h_rows
    have g0 := g0.trans g2
    first | refine norm_st (σ' := [some (.ref d.p), some v_most, some v_rows, some v_columns, none]) rfl ?_ | skip
    refine q_asg (W := W2) (ev_take (ew_deal rfl) ew_int) g0.ok hm fun a3_kind v_kind W3 g3 h_kind hm => ?_
    have h_most := PyI.st g3.st h_most
    have h_rows := PyI.st g3.st h_rows
    have h_columns := PyI.st g3.st h_columns
    have g0 := g0.trans g3
    refine q_join (W := W3) (s := Int × Int) (fun y σ' W' => ∃ (v_rows : V) (v_columns : V), σ' = [some (.ref d.p), some v_most, some v_rows, some v_columns, some v_kind] ∧ Gw (efD d) W0 W' ∧ St W3 W' ∧ Rp W' y.1 v_rows ∧ Rp W' y.2 v_columns) (et_t (ew_eq (ew_var (v := v_kind) rfl h_kind) ew_int)) g0.ok hm (fun y4 σj Wj4 hI hm => ?_) (fun W4 R4 g4 hm kj => ?_) (fun W4 R4 g4 hm kj => ?_)
    ·
      obtain ⟨v_rows, v_columns, rfl, g0, sj4, h_rows, h_columns⟩ := hI
      have h_most := PyI.st sj4 h_most
      have h_kind := PyI.st sj4 h_kind
      refine q_join (W := Wj4) (s := Int × Int) (fun y σ' W' => ∃ (v_rows : V) (v_columns : V), σ' = [some (.ref d.p), some v_most, some v_rows, some v_columns, some v_kind] ∧ Gw (efD d) W0 W' ∧ St Wj4 W' ∧ Rp W' y.1 v_rows ∧ Rp W' y.2 v_columns) (et_t (ew_eq (ew_var (v := v_kind) rfl h_kind) ew_int)) g0.ok hm (fun y5 σj Wj5 hI hm => ?_) (fun W5 R5 g5 hm kj => ?_) (fun W5 R5 g5 hm kj => ?_)
      ·
        obtain ⟨v_rows, v_columns, rfl, g0, sj5, h_rows, h_columns⟩ := hI
        have h_most := PyI.st sj5 h_most
        have h_kind := PyI.st sj5 h_kind
        refine q_join (W := Wj5) (s := Int × Int) (fun y σ' W' => ∃ (v_rows : V) (v_columns : V), σ' = [some (.ref d.p), some v_most, some v_rows, some v_columns, some v_kind] ∧ Gw (efD d) W0 W' ∧ St Wj5 W' ∧ Rp W' y.1 v_rows ∧ Rp W' y.2 v_columns) (et_t (ew_eq (ew_var (v := v_kind) rfl h_kind) ew_int)) g0.ok hm (fun y6 σj Wj6 hI hm => ?_) (fun W6 R6 g6 hm kj => ?_) (fun W6 R6 g6 hm kj => ?_)
        ·
          obtain ⟨v_rows, v_columns, rfl, g0, sj6, h_rows, h_columns⟩ := hI
          have h_most := PyI.st sj6 h_most
          have h_kind := PyI.st sj6 h_kind
          refine st_ret (W := Wj6) (ew_pair (ew_var (v := v_rows) rfl h_rows) (ew_var (v := v_columns) rfl h_columns)) g0.ok hm fun r7 v_ret W7 g7 hp hm => ?_
          exact hm v_ret W7 (g0.trans g7) rfl hp
        ·
          have h_most := PyI.st g6.st h_most
          have h_rows := PyI.st g6.st h_rows
          have h_columns := PyI.st g6.st h_columns
          have h_kind := PyI.st g6.st h_kind
          have g0 := g0.trans g6
          have sj6 := g6.st
          refine q_asg (W := W6) (ew_add ew_int (ev_take (ew_deal rfl) ew_int)) g0.ok hm fun a8_rows v_rows W8 g8 h_rows hm => ?_
          have h_most := PyI.st g8.st h_most
          have h_columns := PyI.st g8.st h_columns
          have h_kind := PyI.st g8.st h_kind
          have sj6 := sj6.trans g8.st
          have g0 := g0.trans g8
          first | refine norm_st (σ' := [some (.ref d.p), some v_most, some v_rows, some v_columns, some v_kind]) rfl ?_ | skip
          refine st_asg (W := W8) (ew_add ew_int (ev_take (ew_deal rfl) ew_int)) g0.ok hm fun a9_columns v_columns W9 g9 h_columns hm => ?_
          have h_most := PyI.st g9.st h_most
          have h_rows := PyI.st g9.st h_rows
          have h_kind := PyI.st g9.st h_kind
          have sj6 := sj6.trans g9.st
          have g0 := g0.trans g9
          exact kj (a8_rows, a9_columns) _ W9 ⟨v_rows, v_columns, rfl, g0, sj6, h_rows, h_columns⟩ hm
        ·
          have h_most := PyI.st g6.st h_most
          have h_rows := PyI.st g6.st h_rows
          have h_columns := PyI.st g6.st h_columns
          have h_kind := PyI.st g6.st h_kind
          have g0 := g0.trans g6
          have sj6 := g6.st
          refine st_next ?_
          exact kj (y5.1, y5.2) _ W6 ⟨v_rows, v_columns, rfl, g0, sj6, h_rows, h_columns⟩ hm
      ·
        have h_most := PyI.st g5.st h_most
        have h_rows := PyI.st g5.st h_rows
        have h_columns := PyI.st g5.st h_columns
        have h_kind := PyI.st g5.st h_kind
        have g0 := g0.trans g5
        have sj5 := g5.st
        refine q_asg (W := W5) (ew_add ew_int (ev_take (ew_deal rfl) ew_int)) g0.ok hm fun a10_rows v_rows W10 g10 h_rows hm => ?_
        have h_most := PyI.st g10.st h_most
        have h_columns := PyI.st g10.st h_columns
        have h_kind := PyI.st g10.st h_kind
        have sj5 := sj5.trans g10.st
        have g0 := g0.trans g10
        first | refine norm_st (σ' := [some (.ref d.p), some v_most, some v_rows, some v_columns, some v_kind]) rfl ?_ | skip
        refine st_asg (W := W10) (ew_add ew_int (ev_take (ew_deal rfl) ew_int)) g0.ok hm fun a11_columns v_columns W11 g11 h_columns hm => ?_
        have h_most := PyI.st g11.st h_most
        have h_rows := PyI.st g11.st h_rows
        have h_kind := PyI.st g11.st h_kind
        have sj5 := sj5.trans g11.st
        have g0 := g0.trans g11
        exact kj (a10_rows, a11_columns) _ W11 ⟨v_rows, v_columns, rfl, g0, sj5, h_rows, h_columns⟩ hm
      ·
        have h_most := PyI.st g5.st h_most
        have h_rows := PyI.st g5.st h_rows
        have h_columns := PyI.st g5.st h_columns
        have h_kind := PyI.st g5.st h_kind
        have g0 := g0.trans g5
        have sj5 := g5.st
        refine st_next ?_
        exact kj (y4.1, y4.2) _ W5 ⟨v_rows, v_columns, rfl, g0, sj5, h_rows, h_columns⟩ hm
    ·
      have h_most := PyI.st g4.st h_most
      have h_rows := PyI.st g4.st h_rows
      have h_columns := PyI.st g4.st h_columns
      have h_kind := PyI.st g4.st h_kind
      have g0 := g0.trans g4
      have sj4 := g4.st
      refine q_asg (W := W4) (ew_add ew_int (ev_take (ew_deal rfl) (ew_mul ew_int (ew_var (v := v_most) rfl h_most)))) g0.ok hm fun a12_rows v_rows W12 g12 h_rows hm => ?_
      have h_most := PyI.st g12.st h_most
      have h_columns := PyI.st g12.st h_columns
      have h_kind := PyI.st g12.st h_kind
      have sj4 := sj4.trans g12.st
      have g0 := g0.trans g12
      first | refine norm_st (σ' := [some (.ref d.p), some v_most, some v_rows, some v_columns, some v_kind]) rfl ?_ | skip
      refine st_asg (W := W12) (ew_add ew_int (ev_take (ew_deal rfl) (ew_mul ew_int (ew_var (v := v_most) rfl h_most)))) g0.ok hm fun a13_columns v_columns W13 g13 h_columns hm => ?_
      have h_most := PyI.st g13.st h_most
      have h_rows := PyI.st g13.st h_rows
      have h_kind := PyI.st g13.st h_kind
      have sj4 := sj4.trans g13.st
      have g0 := g0.trans g13
      exact kj (a12_rows, a13_columns) _ W13 ⟨v_rows, v_columns, rfl, g0, sj4, h_rows, h_columns⟩ hm
    ·
      have h_most := PyI.st g4.st h_most
      have h_rows := PyI.st g4.st h_rows
      have h_columns := PyI.st g4.st h_columns
      have h_kind := PyI.st g4.st h_kind
      have g0 := g0.trans g4
      have sj4 := g4.st
      refine st_next ?_
      exact kj (a1_rows, a2_columns) _ W4 ⟨v_rows, v_columns, rfl, g0, sj4, h_rows, h_columns⟩ hm
abbrev s__law_tide : Stmt := top 25
abbrev N__law_tide : List Str := ["deal", "many", "style", "base", "tide", "k", "level"]
abbrev P__law_tide : List Str := ["deal"]
theorem sc__law_tide : FnScope N__law_tide P__law_tide (defScope s__law_tide) := ⟨rfl, rfl, rfl, by decide +kernel, rfl, by decide +kernel, by decide +kernel⟩
def m__law_tide (_ : Unit) : WP (List Int) := (WP.add (WP.pure (1 : Int)) (WP.b2 (WP.pure ()) (WP.pure (4 : Int)) m_take)).bind fun a1_many => ((WP.eq (WP.b2 (WP.pure ()) (WP.pure (8 : Int)) m_take) (WP.pure (0 : Int))).bind fun b => WP.cond b ((WP.add (WP.pure (1 : Int)) (WP.b2 (WP.pure ()) (WP.pure (12 : Int)) m_take)).bind fun a18_many => (WP.pure a18_many)) ((WP.pure a1_many))).bind fun (y2 : Int) => (WP.b2 (WP.pure ()) (WP.pure (5 : Int)) m_take).bind fun a3_style => (WP.b2 (WP.pure ()) (WP.pure (6 : Int)) m_take).bind fun a4_base => (WP.row (WP.pure ([] : List Int))).bind fun a5_tide => (WP.range1 (WP.pure y2)).bind fun xs6 => WP.after (WP.loop (γ := (List Int)) (fun c6 (y6 : (List Int)) => (WP.b2 (WP.pure ()) (WP.pure (11 : Int)) m_take).bind fun a7_level => ((WP.eq (WP.pure a3_style) (WP.pure (1 : Int))).bind fun b => WP.cond b ((WP.fdiv (WP.pure a7_level) (WP.pure (2 : Int))).bind fun a16_level => (WP.pure a16_level)) ((WP.pure a7_level))).bind fun (y8 : Int) => ((WP.eq (WP.pure a3_style) (WP.pure (2 : Int))).bind fun b => WP.cond b ((WP.add (WP.pure a4_base) (WP.mod (WP.pure y8) (WP.pure (2 : Int)))).bind fun a15_level => (WP.pure a15_level)) ((WP.pure y8))).bind fun (y9 : Int) => ((WP.eq (WP.pure a3_style) (WP.pure (3 : Int))).bind fun b => WP.cond b ((WP.ite (WP.eq (WP.mod (WP.pure c6) (WP.pure (2 : Int))) (WP.pure (0 : Int))) (WP.pure a4_base) (WP.pure y9)).bind fun a14_level => (WP.pure a14_level)) ((WP.pure y9))).bind fun (y10 : Int) => ((WP.eq (WP.pure a3_style) (WP.pure (4 : Int))).bind fun b => WP.cond b ((WP.fdiv (WP.pure y10) (WP.pure (4 : Int))).bind fun a13_level => (WP.pure a13_level)) ((WP.pure y10))).bind fun (y11 : Int) => ((WP.pure y11).bind fun a => WP.req (y6.length < 100000) (y6 ++ [a])).bind fun a12_tide => (WP.pure (.nx a12_tide))) xs6 a5_tide) (fun (z6 : (List Int)) => ((WP.pure z6).bind fun xs => WP.pure (α := List _) xs).bind fun r17 => (WP.pure r17)) (fun r => (WP.pure r))
def sp__law_tide : Sp := fun vs H Q _ => ∃ (d : Dl) (W : Wo), vs = [.ref d.p] ∧ W.H = H ∧ Good (efD d) W ∧ (m__law_tide ()).run W.n fun n r => ∀ v W', Gw (efD d) W W' → W'.n = n → (sI (e := (efD d)) (α := (List Int))).post W W' r v → Q v W'.H
theorem ev__law_tide {d : Dl} {σ : L2.St} {W : Wo} {E : XK} {t0 : TE} {w0 : WP Unit} (h0 : EvW (efD d) t0 σ W (sD d) w0) : EvW (efD d) (tCall sp__law_tide [] E (tCons t0 tNil)) σ W (sI (α := (List Int))) (WP.b1 w0 m__law_tide) := ew_call1N h0 fun W2 b0 x0 g2 r0 Q q E => by
  cases r0
  exact ⟨d, W2, rfl, rfl, g2, WP.mono _ (fun n c h v W3 g3 hn p => h v W3 g3 hn p) q⟩
theorem ok__law_tide (F : At K mg "_law_tide" s__law_tide P__law_tide) (G : Glb mg) (H__law_take : Has P w K mg base "_law_take" 1 P__law_take sp_take) : Has P w K mg base "_law_tide" 2 P__law_tide sp__law_tide := by
  refine Has.of F sc__law_tide (fun vs H Q E h => ?_) (fun f cdv A outer s H0 vs Q E hr h => ?_)
  · obtain ⟨d, W0, rfl, _⟩ := h
    rfl
  · obtain ⟨d, W0, rfl, rfl, g00, hm⟩ := h
    have sc := sc__law_tide
    have g0 := Gw.refl g00
    unfold m__law_tide at hm
    refine ⟨_, (pss_cons (ps_set (i := 1) sc.nd rfl (Or.inl rfl) (pe_op op_add pe_int (pe_user H__law_take (hr.mono (by decide)) rfl (pa_cons (pv 0) (pa_cons pe_int pa_nil)))))
      (pss_cons (ps_if (pt_cmpR op_eq (pe_user H__law_take (hr.mono (by decide)) rfl (pa_cons (pv 0) (pa_cons pe_int pa_nil))) pe_int (nomark _)) (pss_one (ps_set (i := 1) sc.nd rfl (Or.inl rfl) (pe_op op_add pe_int (pe_user H__law_take (hr.mono (by decide)) rfl (pa_cons (pv 0) (pa_cons pe_int pa_nil)))))) pss_nil)
      (pss_cons (ps_set (i := 2) sc.nd rfl (Or.inl rfl) (pe_user H__law_take (hr.mono (by decide)) rfl (pa_cons (pv 0) (pa_cons pe_int pa_nil))))
      (pss_cons (ps_set (i := 3) sc.nd rfl (Or.inl rfl) (pe_user H__law_take (hr.mono (by decide)) rfl (pa_cons (pv 0) (pa_cons pe_int pa_nil))))
      (pss_cons (ps_set (i := 4) sc.nd rfl (Or.inl rfl) (pe_lst pa_nil))
      (pss_cons (ps_for PassesOwn.never rfl (pi_range1 rfl G.range (pa_cons (pv 1) pa_nil)) (pg_name (i := 5) sc.nd rfl (Or.inl rfl))
      (pss_cons (ps_set (i := 6) sc.nd rfl (Or.inl rfl) (pe_user H__law_take (hr.mono (by decide)) rfl (pa_cons (pv 0) (pa_cons pe_int pa_nil))))
      (pss_cons (ps_if (pt_cmpR op_eq (pv 2) pe_int (nomark _)) (pss_one (ps_set (i := 6) sc.nd rfl (Or.inl rfl) (pe_op op_fdiv (pv 6) pe_int))) pss_nil)
      (pss_cons (ps_if (pt_cmpR op_eq (pv 2) pe_int (nomark _)) (pss_one (ps_set (i := 6) sc.nd rfl (Or.inl rfl) (pe_op op_add (pv 3) (pe_op op_mod (pv 6) pe_int)))) pss_nil)
      (pss_cons (ps_if (pt_cmpR op_eq (pv 2) pe_int (nomark _)) (pss_one (ps_set (i := 6) sc.nd rfl (Or.inl rfl) (pe_ifExp (pt_cmpR op_eq (pe_op op_mod (pv 5) pe_int) pe_int (nomark _)) (pv 3) (pv 6)))) pss_nil)
      (pss_cons (ps_if (pt_cmpR op_eq (pv 2) pe_int (nomark _)) (pss_one (ps_set (i := 6) sc.nd rfl (Or.inl rfl) (pe_op op_fdiv (pv 6) pe_int))) pss_nil)
      (pss_one (ps_expr (pe_bm PySem.F.plainAttrs_list PySem.F.slot_list_append PySem.F.type_list_append mt_append (pv 4) (pa_cons (pv 6) pa_nil))))))))))
      (pss_one (ps_ret (pe_callTy call_tuple_of (by rfl) G.tuple (by decide +kernel) (pa_cons (pv 4) pa_nil)))))))))), ?_⟩
    refine q_asg (W := W0) (ew_add ew_int (ev_take (ew_deal rfl) ew_int)) g0.ok hm fun a1_many v_many W1 g1 h_many hm => ?_
    have g0 := g0.trans g1
    first | refine norm_st (σ' := [some (.ref d.p), some v_many, none, none, none, none, none]) rfl ?_ | skip
    refine q_join (W := W1) (s := Int) (fun y σ' W' => ∃ (v_many : V), σ' = [some (.ref d.p), some v_many, none, none, none, none, none] ∧ Gw (efD d) W0 W' ∧ St W1 W' ∧ Rp W' y v_many) (et_t (ew_eq (ev_take (ew_deal rfl) ew_int) ew_int)) g0.ok hm (fun y2 σj Wj2 hI hm => ?_) (fun W2 R2 g2 hm kj => ?_) (fun W2 R2 g2 hm kj => ?_)
    ·
      obtain ⟨v_many, rfl, g0, sj2, h_many⟩ := hI
      refine q_asg (W := Wj2) (ev_take (ew_deal rfl) ew_int) g0.ok hm fun a3_style v_style W3 g3 h_style hm => ?_
      have h_many := PyI.st g3.st h_many
      have g0 := g0.trans g3
      refine q_asg (W := W3) (ev_take (ew_deal rfl) ew_int) g0.ok hm fun a4_base v_base W4 g4 h_base hm => ?_
      have h_many := PyI.st g4.st h_many
      have h_style := PyI.st g4.st h_style
      have g0 := g0.trans g4
      first | refine norm_st (σ' := [some (.ref d.p), some v_many, some v_style, some v_base, none, none, none]) rfl ?_ | skip
      refine q_asg (W := W4) (ew_lst (eas_nil (α := Int))) g0.ok hm fun a5_tide v_tide W5 g5 ⟨fp_tide, ho0_tide, hf_tide⟩ hm => ?_
      have hz_tide : ∀ a ∈ fp_tide, W0.H a = none := fun a m => g0.live a (hf_tide a m).1
      have h_many := PyI.st g5.st h_many
      have h_style := PyI.st g5.st h_style
      have h_base := PyI.st g5.st h_base
      have g0 := g0.trans g5
      have ho_tide : Var (kL Int) W0 W5 fp_tide a5_tide v_tide := ⟨ho0_tide, hz_tide, fun b m => (hf_tide b m).2.2⟩
      refine q_forR1 (W := W5) (ew_var (v := v_many) rfl h_many) g0.ok hm fun W6 g6 => ?_
      have h_many := PyI.st g6.st h_many
      have h_style := PyI.st g6.st h_style
      have h_base := PyI.st g6.st h_base
      have ho_tide := ho_tide.go g00 g6
      have g0 := g0.trans g6
      refine ⟨fun y σ' W' => ∃ (v_tide : V) (fp_tide : List Addr) (o_k : Option V) (o_level : Option V), σ' = [some (.ref d.p), some v_many, some v_style, some v_base, some v_tide, o_k, o_level] ∧ Gw (efD d) W0 W' ∧ St W6 W' ∧ Var (kL Int) W0 W' fp_tide y v_tide, ⟨v_tide, fp_tide, _, _, rfl, g0, (St.refl _), ho_tide⟩, fun c6 y6 σi s2 Wi6 R6 nx6 ht hI hm kn6 kb6 kr6 => ?_, fun z6 σi Wi6 hI hm => ?_⟩
      ·
        obtain ⟨v_tide, fp_tide, o_k, o_level, rfl, g0, sl6, ho_tide⟩ := hI
        have h_many := PyI.st sl6 h_many
        have h_style := PyI.st sl6 h_style
        have h_base := PyI.st sl6 h_base
        obtain ⟨v_k, rfl, h_k⟩ := ht
        refine q_asg (W := Wi6) (ev_take (ew_deal rfl) ew_int) g0.ok hm fun a7_level v_level W7 g7 h_level hm => ?_
        have h_many := PyI.st g7.st h_many
        have h_style := PyI.st g7.st h_style
        have h_base := PyI.st g7.st h_base
        have ho_tide := ho_tide.go g00 g7
        have h_k := PyI.st g7.st h_k
        have sl6 := sl6.trans g7.st
        have g0 := g0.trans g7
        first | refine norm_st (σ' := [some (.ref d.p), some v_many, some v_style, some v_base, some v_tide, some v_k, some v_level]) rfl ?_ | skip
        refine q_join (W := W7) (s := Int) (fun y σ' W' => ∃ (v_level : V), σ' = [some (.ref d.p), some v_many, some v_style, some v_base, some v_tide, some v_k, some v_level] ∧ Gw (efD d) W0 W' ∧ St W7 W' ∧ Rp W' y v_level ∧ Var (kL Int) W0 W' fp_tide y6 v_tide) (et_t (ew_eq (ew_var (v := v_style) rfl h_style) ew_int)) g0.ok hm (fun y8 σj Wj8 hI hm => ?_) (fun W8 R8 g8 hm kj => ?_) (fun W8 R8 g8 hm kj => ?_)
        ·
          obtain ⟨v_level, rfl, g0, sj8, h_level, ho_tide⟩ := hI
          have h_many := PyI.st sj8 h_many
          have h_style := PyI.st sj8 h_style
          have h_base := PyI.st sj8 h_base
          have h_k := PyI.st sj8 h_k
          have sl6 := sl6.trans sj8
          refine q_join (W := Wj8) (s := Int) (fun y σ' W' => ∃ (v_level : V), σ' = [some (.ref d.p), some v_many, some v_style, some v_base, some v_tide, some v_k, some v_level] ∧ Gw (efD d) W0 W' ∧ St Wj8 W' ∧ Rp W' y v_level ∧ Var (kL Int) W0 W' fp_tide y6 v_tide) (et_t (ew_eq (ew_var (v := v_style) rfl h_style) ew_int)) g0.ok hm (fun y9 σj Wj9 hI hm => ?_) (fun W9 R9 g9 hm kj => ?_) (fun W9 R9 g9 hm kj => ?_)
          ·
            obtain ⟨v_level, rfl, g0, sj9, h_level, ho_tide⟩ := hI
            have h_many := PyI.st sj9 h_many
            have h_style := PyI.st sj9 h_style
            have h_base := PyI.st sj9 h_base
            have h_k := PyI.st sj9 h_k
            have sl6 := sl6.trans sj9
            refine q_join (W := Wj9) (s := Int) (fun y σ' W' => ∃ (v_level : V), σ' = [some (.ref d.p), some v_many, some v_style, some v_base, some v_tide, some v_k, some v_level] ∧ Gw (efD d) W0 W' ∧ St Wj9 W' ∧ Rp W' y v_level ∧ Var (kL Int) W0 W' fp_tide y6 v_tide) (et_t (ew_eq (ew_var (v := v_style) rfl h_style) ew_int)) g0.ok hm (fun y10 σj Wj10 hI hm => ?_) (fun W10 R10 g10 hm kj => ?_) (fun W10 R10 g10 hm kj => ?_)
            ·
              obtain ⟨v_level, rfl, g0, sj10, h_level, ho_tide⟩ := hI
              have h_many := PyI.st sj10 h_many
              have h_style := PyI.st sj10 h_style
              have h_base := PyI.st sj10 h_base
              have h_k := PyI.st sj10 h_k
              have sl6 := sl6.trans sj10
              refine q_join (W := Wj10) (s := Int) (fun y σ' W' => ∃ (v_level : V), σ' = [some (.ref d.p), some v_many, some v_style, some v_base, some v_tide, some v_k, some v_level] ∧ Gw (efD d) W0 W' ∧ St Wj10 W' ∧ Rp W' y v_level ∧ Var (kL Int) W0 W' fp_tide y6 v_tide) (et_t (ew_eq (ew_var (v := v_style) rfl h_style) ew_int)) g0.ok hm (fun y11 σj Wj11 hI hm => ?_) (fun W11 R11 g11 hm kj => ?_) (fun W11 R11 g11 hm kj => ?_)
              ·
                obtain ⟨v_level, rfl, g0, sj11, h_level, ho_tide⟩ := hI
                have h_many := PyI.st sj11 h_many
                have h_style := PyI.st sj11 h_style
                have h_base := PyI.st sj11 h_base
                have h_k := PyI.st sj11 h_k
                have sl6 := sl6.trans sj11
                refine st_app (W := Wj11) g00 g0 rfl ho_tide (ew_var (v := v_level) rfl h_level) hm fun a12_tide W12_ W12 l_tide el_tide g12 s g02 kk ff ho_tide hm => ?_
                have h_many := PyI.st g12.st h_many
                have h_style := PyI.st g12.st h_style
                have h_base := PyI.st g12.st h_base
                have h_k := PyI.st g12.st h_k
                have h_level := PyI.st g12.st h_level
                have sl6 := sl6.trans g12.st
                have g0 := g0.trans g12
                have h_many := PyI.st s h_many
                have h_style := PyI.st s h_style
                have h_base := PyI.st s h_base
                have h_k := PyI.st s h_k
                have h_level := PyI.st s h_level
                have sl6 := sl6.trans s
                have g0 := g02
                exact kn6 a12_tide _ W12 ⟨v_tide, fp_tide, _, _, rfl, g0, sl6, ho_tide⟩ hm
              ·
                have h_many := PyI.st g11.st h_many
                have h_style := PyI.st g11.st h_style
                have h_base := PyI.st g11.st h_base
                have ho_tide := ho_tide.go g00 g11
                have h_k := PyI.st g11.st h_k
                have h_level := PyI.st g11.st h_level
                have sl6 := sl6.trans g11.st
                have g0 := g0.trans g11
                have sj11 := g11.st
                refine st_asg (W := W11) (ew_fdiv (ew_var (v := v_level) rfl h_level) ew_int) g0.ok hm fun a13_level v_level W13 g13 h_level hm => ?_
                have h_many := PyI.st g13.st h_many
                have h_style := PyI.st g13.st h_style
                have h_base := PyI.st g13.st h_base
                have ho_tide := ho_tide.go g00 g13
                have h_k := PyI.st g13.st h_k
                have sl6 := sl6.trans g13.st
                have sj11 := sj11.trans g13.st
                have g0 := g0.trans g13
                exact kj a13_level _ W13 ⟨v_level, rfl, g0, sj11, h_level, ho_tide⟩ hm
              ·
                have h_many := PyI.st g11.st h_many
                have h_style := PyI.st g11.st h_style
                have h_base := PyI.st g11.st h_base
                have ho_tide := ho_tide.go g00 g11
                have h_k := PyI.st g11.st h_k
                have h_level := PyI.st g11.st h_level
                have sl6 := sl6.trans g11.st
                have g0 := g0.trans g11
                have sj11 := g11.st
                refine st_next ?_
                exact kj y10 _ W11 ⟨v_level, rfl, g0, sj11, h_level, ho_tide⟩ hm
            ·
              have h_many := PyI.st g10.st h_many
              have h_style := PyI.st g10.st h_style
              have h_base := PyI.st g10.st h_base
              have ho_tide := ho_tide.go g00 g10
              have h_k := PyI.st g10.st h_k
              have h_level := PyI.st g10.st h_level
              have sl6 := sl6.trans g10.st
              have g0 := g0.trans g10
              have sj10 := g10.st
              refine st_asg (W := W10) (ew_ifE (et_t (ew_eq (ew_mod (ew_var (v := v_k) rfl h_k) ew_int) ew_int)) (ew_var (v := v_base) rfl h_base) (ew_var (v := v_level) rfl h_level)) g0.ok hm fun a14_level v_level W14 g14 h_level hm => ?_
              have h_many := PyI.st g14.st h_many
              have h_style := PyI.st g14.st h_style
              have h_base := PyI.st g14.st h_base
              have ho_tide := ho_tide.go g00 g14
              have h_k := PyI.st g14.st h_k
              have sl6 := sl6.trans g14.st
              have sj10 := sj10.trans g14.st
              have g0 := g0.trans g14
              exact kj a14_level _ W14 ⟨v_level, rfl, g0, sj10, h_level, ho_tide⟩ hm
            ·
              have h_many := PyI.st g10.st h_many
              have h_style := PyI.st g10.st h_style
              have h_base := PyI.st g10.st h_base
              have ho_tide := ho_tide.go g00 g10
              have h_k := PyI.st g10.st h_k
              have h_level := PyI.st g10.st h_level
              have sl6 := sl6.trans g10.st
              have g0 := g0.trans g10
              have sj10 := g10.st
              refine st_next ?_
              exact kj y9 _ W10 ⟨v_level, rfl, g0, sj10, h_level, ho_tide⟩ hm
          ·
            have h_many := PyI.st g9.st h_many
            have h_style := PyI.st g9.st h_style
            have h_base := PyI.st g9.st h_base
            have ho_tide := ho_tide.go g00 g9
            have h_k := PyI.st g9.st h_k
            have h_level := PyI.st g9.st h_level
            have sl6 := sl6.trans g9.st
            have g0 := g0.trans g9
            have sj9 := g9.st
            first | refine norm_st (σ' := [some (.ref d.p), some v_many, some v_style, some v_base, some v_tide, some v_k, some v_level]) rfl ?_ | skip
            refine st_asg (W := W9) (ew_add (ew_var (v := v_base) rfl h_base) (ew_mod (ew_var (v := v_level) rfl h_level) ew_int)) g0.ok hm fun a15_level v_level W15 g15 h_level hm => ?_
            have h_many := PyI.st g15.st h_many
            have h_style := PyI.st g15.st h_style
            have h_base := PyI.st g15.st h_base
            have ho_tide := ho_tide.go g00 g15
            have h_k := PyI.st g15.st h_k
            have sl6 := sl6.trans g15.st
            have sj9 := sj9.trans g15.st
            have g0 := g0.trans g15
            exact kj a15_level _ W15 ⟨v_level, rfl, g0, sj9, h_level, ho_tide⟩ hm
          ·
            have h_many := PyI.st g9.st h_many
            have h_style := PyI.st g9.st h_style
            have h_base := PyI.st g9.st h_base
            have ho_tide := ho_tide.go g00 g9
            have h_k := PyI.st g9.st h_k
            have h_level := PyI.st g9.st h_level
            have sl6 := sl6.trans g9.st
            have g0 := g0.trans g9
            have sj9 := g9.st
            refine st_next ?_
            exact kj y8 _ W9 ⟨v_level, rfl, g0, sj9, h_level, ho_tide⟩ hm
        ·
          have h_many := PyI.st g8.st h_many
          have h_style := PyI.st g8.st h_style
          have h_base := PyI.st g8.st h_base
          have ho_tide := ho_tide.go g00 g8
          have h_k := PyI.st g8.st h_k
          have h_level := PyI.st g8.st h_level
          have sl6 := sl6.trans g8.st
          have g0 := g0.trans g8
          have sj8 := g8.st
          refine st_asg (W := W8) (ew_fdiv (ew_var (v := v_level) rfl h_level) ew_int) g0.ok hm fun a16_level v_level W16 g16 h_level hm => ?_
          have h_many := PyI.st g16.st h_many
          have h_style := PyI.st g16.st h_style
          have h_base := PyI.st g16.st h_base
          have ho_tide := ho_tide.go g00 g16
          have h_k := PyI.st g16.st h_k
          have sl6 := sl6.trans g16.st
          have sj8 := sj8.trans g16.st
          have g0 := g0.trans g16
          exact kj a16_level _ W16 ⟨v_level, rfl, g0, sj8, h_level, ho_tide⟩ hm
        ·
          have h_many := PyI.st g8.st h_many
          have h_style := PyI.st g8.st h_style
          have h_base := PyI.st g8.st h_base
          have ho_tide := ho_tide.go g00 g8
          have h_k := PyI.st g8.st h_k
          have h_level := PyI.st g8.st h_level
          have sl6 := sl6.trans g8.st
          have g0 := g0.trans g8
          have sj8 := g8.st
          refine st_next ?_
          exact kj a7_level _ W8 ⟨v_level, rfl, g0, sj8, h_level, ho_tide⟩ hm
      ·
        obtain ⟨v_tide, fp_tide, o_k, o_level, rfl, g0, sl6, ho_tide⟩ := hI
        have h_many := PyI.st sl6 h_many
        have h_style := PyI.st sl6 h_style
        have h_base := PyI.st sl6 h_base
        first | refine norm_st (σ' := [some (.ref d.p), some v_many, some v_style, some v_base, some v_tide, o_k, o_level]) rfl ?_ | skip
        refine st_ret (W := Wi6) (ew_tuple (ew_varR (v := v_tide) rfl (Var.nS g00 ho_tide) ho_tide.own)) g0.ok hm fun r17 v_ret W17 g17 hp hm => ?_
        exact hm v_ret W17 (g0.trans g17) rfl hp
    ·
      have h_many := PyI.st g2.st h_many
      have g0 := g0.trans g2
      have sj2 := g2.st
      refine st_asg (W := W2) (ew_add ew_int (ev_take (ew_deal rfl) ew_int)) g0.ok hm fun a18_many v_many W18 g18 h_many hm => ?_
      have sj2 := sj2.trans g18.st
      have g0 := g0.trans g18
      exact kj a18_many _ W18 ⟨v_many, rfl, g0, sj2, h_many⟩ hm
    ·
      have h_many := PyI.st g2.st h_many
      have g0 := g0.trans g2
      have sj2 := g2.st
      refine st_next ?_
      exact kj a1_many _ W2 ⟨v_many, rfl, g0, sj2, h_many⟩ hm
abbrev s__law_dry : Stmt := top 26
abbrev N__law_dry : List Str := ["relief", "tide", "square", "time"]
abbrev P__law_dry : List Str := ["relief", "tide", "square", "time"]
theorem sc__law_dry : FnScope N__law_dry P__law_dry (defScope s__law_dry) := ⟨rfl, rfl, rfl, by decide +kernel, rfl, by decide +kernel, by decide +kernel⟩
def m__law_dry (a_relief : (List Str)) (a_tide : (List Int)) (a_square : Sq) (a_time : Int) : WP Bool := (WP.and (WP.b2 (WP.pure a_relief) (WP.pure a_square) m__law_in) (WP.ge (WP.b2 (WP.pure a_relief) (WP.pure a_square) m__law_high) (WP.ix (WP.pure a_tide) (WP.mod (WP.pure a_time) (WP.len (WP.pure a_tide)))))).bind fun r1 => (WP.pure r1)
def sp__law_dry : Sp := fun vs H Q _ => ∃ (W : Wo) (a_relief : (List Str)) (a_tide : (List Int)) (a_square : Sq) (a_time : Int) (v_relief v_tide v_square v_time : V), vs = [v_relief, v_tide, v_square, v_time] ∧ W.H = H ∧ Good ef0 W ∧ Rp W a_relief v_relief ∧ Rp W a_tide v_tide ∧ Rp W a_square v_square ∧ Rp W a_time v_time ∧ (m__law_dry a_relief a_tide a_square a_time).run W.n fun n r => ∀ v W', Gw ef0 W W' → W'.n = n → (sI (e := ef0) (α := Bool)).post W W' r v → Q v W'.H
theorem ev__law_dry {e : Ef} {σ : L2.St} {W : Wo} {E : XK} {t0 t1 t2 t3 : TE} {w0 : WP (List Str)} {w1 : WP (List Int)} {w2 : WP Sq} {w3 : WP Int} (h0 : EvW e t0 σ W sI w0) (h1 : EvW e t1 σ W sI w1) (h2 : EvW e t2 σ W sI w2) (h3 : EvW e t3 σ W sI w3) : EvW e (tCall sp__law_dry [] E (tCons t0 (tCons t1 (tCons t2 (tCons t3 tNil))))) σ W (sI (α := Bool)) (WP.b4 w0 w1 w2 w3 m__law_dry) := ew_call4N h0 h1 h2 h3 fun W2 b0 b1 b2 b3 x0 x1 x2 x3 g2 r0 r1 r2 r3 Q q E => by
  exact ⟨W2, b0, b1, b2, b3, x0, x1, x2, x3, rfl, rfl, g2.z, r0, r1, r2, r3, WP.mono _ (fun n c h v W3 g3 hn p => h v W3 (Gw.up g2 g3) hn p) q⟩
theorem ok__law_dry (F : At K mg "_law_dry" s__law_dry P__law_dry) (G : Glb mg) (H__law_high : Has P w K mg base "_law_high" 1 P__law_high sp__law_high) (H__law_in : Has P w K mg base "_law_in" 1 P__law_in sp__law_in) : Has P w K mg base "_law_dry" 2 P__law_dry sp__law_dry := by
  refine Has.of F sc__law_dry (fun vs H Q E h => ?_) (fun f cdv A outer s H0 vs Q E hr h => ?_)
  · obtain ⟨W0, a_relief, a_tide, a_square, a_time, v_relief, v_tide, v_square, v_time, rfl, _⟩ := h
    rfl
  · obtain ⟨W0, a_relief, a_tide, a_square, a_time, v_relief, v_tide, v_square, v_time, rfl, rfl, g00, h_relief, h_tide, h_square, h_time, hm⟩ := h
    have sc := sc__law_dry
    have g0 := Gw.refl g00
    unfold m__law_dry at hm
    refine ⟨_, (pss_one (ps_ret (pe_and (pe_user H__law_in (hr.mono (by decide)) rfl (pa_cons (pv 0) (pa_cons (pv 2) pa_nil))) (pe_one (pe_cmpR op_ge (pe_user H__law_high (hr.mono (by decide)) rfl (pa_cons (pv 0) (pa_cons (pv 2) pa_nil))) (pe_ix ix_tup (pv 1) (pe_op op_mod (pv 3) (pe_callB call_len_seq (by rfl) G.len PySem.boot_len (pa_cons (pv 1) pa_nil))) (fun _ _ => rfl)) (nomark _)))))), ?_⟩
    refine st_ret (W := W0) (ew_andV (ev__law_in (ew_var (v := v_relief) rfl h_relief) (ew_var (v := v_square) rfl h_square)) (ew_ge (ev__law_high (ew_var (v := v_relief) rfl h_relief) (ew_var (v := v_square) rfl h_square)) (ew_ixT (ew_var (v := v_tide) rfl h_tide) (ew_mod (ew_var (v := v_time) rfl h_time) (ew_lenT (ew_var (v := v_tide) rfl h_tide)))))) g0.ok hm fun r1 v_ret W1 g1 hp hm => ?_
    exact hm v_ret W1 (g0.trans g1) rfl hp
abbrev s__law_stays : Stmt := top 27
abbrev N__law_stays : List Str := ["square"]
abbrev P__law_stays : List Str := ["square"]
theorem sc__law_stays : FnScope N__law_stays P__law_stays (defScope s__law_stays) := ⟨rfl, rfl, rfl, by decide +kernel, rfl, by decide +kernel, by decide +kernel⟩
def m__law_stays (a_square : Sq) : WP (List Sq) := (WP.cat (WP.row (WP.consE (WP.pure a_square) (WP.pure ([] : List Sq)))) (WP.b1 (WP.pure a_square) m__law_sides)).bind fun r1 => (WP.pure r1)
def sp__law_stays : Sp := fun vs H Q _ => ∃ (W : Wo) (a_square : Sq) (v_square : V), vs = [v_square] ∧ W.H = H ∧ Good ef0 W ∧ Rp W a_square v_square ∧ (m__law_stays a_square).run W.n fun n r => ∀ v W', Gw ef0 W W' → W'.n = n → (sN (e := ef0) (kL Sq)).post W W' r v → Q v W'.H
theorem ev__law_stays {e : Ef} {σ : L2.St} {W : Wo} {E : XK} {t0 : TE} {w0 : WP Sq} (h0 : EvW e t0 σ W sI w0) : EvW e (tCall sp__law_stays [] E (tCons t0 tNil)) σ W (sN (kL Sq)) (WP.b1 w0 m__law_stays) := ew_call1N h0 fun W2 b0 x0 g2 r0 Q q E => by
  exact ⟨W2, b0, x0, rfl, rfl, g2.z, r0, WP.mono _ (fun n c h v W3 g3 hn p => h v W3 (Gw.up g2 g3) hn (sN_up g2 p)) q⟩
theorem ok__law_stays (F : At K mg "_law_stays" s__law_stays P__law_stays) (G : Glb mg) (H__law_sides : Has P w K mg base "_law_sides" 1 P__law_sides sp__law_sides) : Has P w K mg base "_law_stays" 2 P__law_stays sp__law_stays := by
  refine Has.of F sc__law_stays (fun vs H Q E h => ?_) (fun f cdv A outer s H0 vs Q E hr h => ?_)
  · obtain ⟨W0, a_square, v_square, rfl, _⟩ := h
    rfl
  · obtain ⟨W0, a_square, v_square, rfl, rfl, g00, h_square, hm⟩ := h
    have sc := sc__law_stays
    have g0 := Gw.refl g00
    unfold m__law_stays at hm
    refine ⟨_, (pss_one (ps_ret (pe_op op_cat (pe_lst (pa_cons (pv 0) pa_nil)) (pe_user H__law_sides (hr.mono (by decide)) rfl (pa_cons (pv 0) pa_nil))))), ?_⟩
    refine st_ret (W := W0) (ew_cat (ew_rd (ew_lst (eas_cons (ew_var (v := v_square) rfl h_square) (eas_nil (α := Sq))))) (ew_rd (ev__law_sides (ew_var (v := v_square) rfl h_square)))) g0.ok hm fun r1 v_ret W1 g1 hp hm => ?_
    exact hm v_ret W1 (g0.trans g1) rfl ((sN (kL Sq)).back g0 hp)
abbrev s__law_start : Stmt := top 28
abbrev N__law_start : List Str := ["deal", "relief", "tide", "squares", "dry", "square"]
abbrev P__law_start : List Str := ["deal", "relief", "tide"]
theorem sc__law_start : FnScope N__law_start P__law_start (defScope s__law_start) := ⟨rfl, rfl, rfl, by decide +kernel, rfl, by decide +kernel, by decide +kernel⟩
def m__law_start (_ : Unit) (a_relief : (List Str)) (a_tide : (List Int)) : WP Sq := (WP.b1 (WP.pure a_relief) m__law_all).bind fun a1_squares => (WP.lc (WP.pure a1_squares) (fun c1 => (WP.b4 (WP.pure a_relief) (WP.pure a_tide) (WP.pure c1) (WP.pure (0 : Int)) m__law_dry)) (fun c1 => (WP.pure c1))).bind fun a2_dry => (WP.or (WP.eq (WP.len (WP.pure a2_dry)) (WP.pure (0 : Int))) (WP.eq (WP.b2 (WP.pure ()) (WP.pure (8 : Int)) m_take) (WP.pure (0 : Int)))).bind fun b => WP.cond b ((WP.b2 (WP.pure ()) (WP.pure a1_squares) m__law_pick).bind fun r4 => (WP.pure r4)) ((WP.b2 (WP.pure ()) (WP.pure a2_dry) m__law_pick).bind fun r5 => (WP.pure r5))
def sp__law_start : Sp := fun vs H Q _ => ∃ (d : Dl) (W : Wo) (a_relief : (List Str)) (a_tide : (List Int)) (v_relief v_tide : V), vs = [.ref d.p, v_relief, v_tide] ∧ W.H = H ∧ Good (efD d) W ∧ Rp W a_relief v_relief ∧ Rp W a_tide v_tide ∧ (m__law_start () a_relief a_tide).run W.n fun n r => ∀ v W', Gw (efD d) W W' → W'.n = n → (sI (e := (efD d)) (α := Sq)).post W W' r v → Q v W'.H
theorem ev__law_start {d : Dl} {σ : L2.St} {W : Wo} {E : XK} {t0 t1 t2 : TE} {w0 : WP Unit} {w1 : WP (List Str)} {w2 : WP (List Int)} (h0 : EvW (efD d) t0 σ W (sD d) w0) (h1 : EvW (efD d) t1 σ W sI w1) (h2 : EvW (efD d) t2 σ W sI w2) : EvW (efD d) (tCall sp__law_start [] E (tCons t0 (tCons t1 (tCons t2 tNil)))) σ W (sI (α := Sq)) (WP.b3 w0 w1 w2 m__law_start) := ew_call3N h0 h1 h2 fun W2 b0 b1 b2 x0 x1 x2 g2 r0 r1 r2 Q q E => by
  cases r0
  exact ⟨d, W2, b1, b2, x1, x2, rfl, rfl, g2, r1, r2, WP.mono _ (fun n c h v W3 g3 hn p => h v W3 g3 hn p) q⟩
theorem ok__law_start (F : At K mg "_law_start" s__law_start P__law_start) (G : Glb mg) (H__law_all : Has P w K mg base "_law_all" 1 P__law_all sp__law_all) (H__law_dry : Has P w K mg base "_law_dry" 2 P__law_dry sp__law_dry) (H__law_pick : Has P w K mg base "_law_pick" 2 P__law_pick sp__law_pick) (H__law_take : Has P w K mg base "_law_take" 1 P__law_take sp_take) : Has P w K mg base "_law_start" 3 P__law_start sp__law_start := by
  refine Has.of F sc__law_start (fun vs H Q E h => ?_) (fun f cdv A outer s H0 vs Q E hr h => ?_)
  · obtain ⟨d, W0, a_relief, a_tide, v_relief, v_tide, rfl, _⟩ := h
    rfl
  · obtain ⟨d, W0, a_relief, a_tide, v_relief, v_tide, rfl, rfl, g00, h_relief, h_tide, hm⟩ := h
    have sc := sc__law_start
    have g0 := Gw.refl g00
    unfold m__law_start at hm
    refine ⟨_, (pss_cons (ps_set (i := 3) sc.nd rfl (Or.inl rfl) (pe_user H__law_all (hr.mono (by decide)) rfl (pa_cons (pv 1) pa_nil)))
      (pss_cons (ps_setLc (i := 4) (own := [("square", 5)]) (g := gName 5) rfl sc.nd rfl rfl (sw_true rfl rfl rfl (by decide +kernel)) (pi_list (pv 3)) (blkOk_by (N := N__law_start) (sc := defScope s__law_start) (by decide +kernel)) (fun _ _ _ _ _ => (pg_name (i := 5) sc.nd rfl (Or.inl rfl))) (fun _ _ _ _ _ => (pts_one (pt_val (pe_user H__law_dry (hr.mono (by decide)) rfl (pa_cons (pv 1) (pa_cons (pv 2) (pa_cons (pv 5) (pa_cons pe_int pa_nil)))))))) (fun _ _ _ _ _ => (pv 5)))
      (pss_cons (ps_if (PW.pt (pw_or (pt_cmpR op_eq (pe_callB call_len_seq (by rfl) G.len PySem.boot_len (pa_cons (pv 4) pa_nil)) pe_int (nomark _)) (pw_or1 (pt_cmpR op_eq (pe_user H__law_take (hr.mono (by decide)) rfl (pa_cons (pv 0) (pa_cons pe_int pa_nil))) pe_int (nomark _))))) (pss_one (ps_ret (pe_user H__law_pick (hr.mono (by decide)) rfl (pa_cons (pv 0) (pa_cons (pv 3) pa_nil))))) pss_nil)
      (pss_one (ps_ret (pe_user H__law_pick (hr.mono (by decide)) rfl (pa_cons (pv 0) (pa_cons (pv 4) pa_nil)))))))), ?_⟩
    refine q_asg (W := W0) (ev__law_all (ew_var (v := v_relief) rfl h_relief)) g0.ok hm fun a1_squares v_squares W1 g1 ⟨fp_squares, ho0_squares, hf_squares⟩ hm => ?_
    have hz_squares : ∀ a ∈ fp_squares, W0.H a = none := fun a m => g0.live a (hf_squares a m).1
    have h_relief := PyI.st g1.st h_relief
    have h_tide := PyI.st g1.st h_tide
    have g0 := g0.trans g1
    have ho_squares : Var (kL Sq) W0 W1 fp_squares a1_squares v_squares := ⟨ho0_squares, hz_squares, fun b m => (hf_squares b m).2.2⟩
    first | refine norm_st (σ' := [some (.ref d.p), some v_relief, some v_tide, some v_squares, none, none]) rfl ?_ | skip
    refine q_asg (W := W1) (ew_lcL (ew_varR (v := v_squares) rfl (Var.nS g00 ho_squares) ho_squares.own) takes_N (fun _ _ _ h => by obtain ⟨v_square, ec, h_square⟩ := h; subst ec; rfl) (fun c1 Wc1 s2 gc1 h => by obtain ⟨v_square, ec, h_square⟩ := h; subst ec; have h_relief := PyI.st gc1.st h_relief; have h_tide := PyI.st gc1.st h_tide; have ho_squares := ho_squares.go g00 gc1; exact (et_B (ev__law_dry (ew_var (v := v_relief) rfl h_relief) (ew_var (v := v_tide) rfl h_tide) (ew_var (v := v_square) rfl h_square) ew_int))) (fun c1 Wc1 s2 gc1 h => by obtain ⟨v_square, ec, h_square⟩ := h; subst ec; have h_relief := PyI.st gc1.st h_relief; have h_tide := PyI.st gc1.st h_tide; have ho_squares := ho_squares.go g00 gc1; exact (ew_var (v := v_square) rfl h_square))) g0.ok hm fun a2_dry v_dry W2 g2 ⟨fp_dry, ho0_dry, hf_dry⟩ hm => ?_
    have dj_squares_dry : ∀ b ∈ fp_squares, b ∉ fp_dry := fun b m z => (kL Sq).live ho_squares.own b m (hf_dry b z).1
    have hz_dry : ∀ a ∈ fp_dry, W0.H a = none := fun a m => g0.live a (hf_dry a m).1
    have h_relief := PyI.st g2.st h_relief
    have h_tide := PyI.st g2.st h_tide
    have ho_squares := ho_squares.go g00 g2
    have g0 := g0.trans g2
    have ho_dry : Var (kL Sq) W0 W2 fp_dry a2_dry v_dry := ⟨ho0_dry, hz_dry, fun b m => (hf_dry b m).2.2⟩
    refine q_if (W := W2) (et_or (et_t (ew_eq (ew_lenL (ew_varR (v := v_dry) rfl (Var.nS g00 ho_dry) ho_dry.own)) ew_int)) (et_t (ew_eq (ev_take (ew_deal rfl) ew_int) ew_int))) g0.ok hm (fun W3 g3 hm => ?_) (fun W3 g3 hm => ?_)
    ·
      have h_relief := PyI.st g3.st h_relief
      have h_tide := PyI.st g3.st h_tide
      have ho_squares := ho_squares.go g00 g3
      have ho_dry := ho_dry.go g00 g3
      have g0 := g0.trans g3
      refine st_ret (W := W3) (ev__law_pick (ew_deal rfl) (ew_varR (v := v_squares) rfl (Var.nS g00 ho_squares) ho_squares.own)) g0.ok hm fun r4 v_ret W4 g4 hp hm => ?_
      exact hm v_ret W4 (g0.trans g4) rfl hp
    ·
      have h_relief := PyI.st g3.st h_relief
      have h_tide := PyI.st g3.st h_tide
      have ho_squares := ho_squares.go g00 g3
      have ho_dry := ho_dry.go g00 g3
      have g0 := g0.trans g3
      refine st_next ?_
      refine st_ret (W := W3) (ev__law_pick (ew_deal rfl) (ew_varR (v := v_dry) rfl (Var.nS g00 ho_dry) ho_dry.own)) g0.ok hm fun r5 v_ret W5 g5 hp hm => ?_
      exact hm v_ret W5 (g0.trans g5) rfl hp
abbrev s__law_is_late : Stmt := top 29
abbrev N__law_is_late : List Str := ["relief", "tide", "start", "goal", "number", "paper", "heights", "square", "index", "own", "other", "beside"]
abbrev P__law_is_late : List Str := ["relief", "tide", "start", "goal", "number", "paper"]
theorem sc__law_is_late : FnScope N__law_is_late P__law_is_late (defScope s__law_is_late) := ⟨rfl, rfl, rfl, by decide +kernel, rfl, by decide +kernel, by decide +kernel⟩
def m__law_is_late (a_relief : (List Str)) (a_tide : (List Int)) (a_start : Sq) (a_goal : Sq) (a_number : Int) (a_paper : (Ls (Tri Sq Int Int))) : WP Bool := (WP.pure ([] : (List ((Sq × Int) × Int)))).bind fun a1_heights => ((WP.pure a_paper).bind fun x => WP.pure x.l).bind fun xs2 => WP.after (WP.loop (γ := Bool) (fun c2 (y2 : (List ((Sq × Int) × Int))) => (WP.or (WP.not (WP.b2 (WP.pure a_relief) (WP.pure c2.a) m__law_in)) (WP.or (WP.not (WP.chain (fun i j => decide (i ≤ j)) (fun i j => decide (i < j)) (WP.pure (0 : Int)) (WP.pure c2.b) (WP.len (WP.pure a_tide)))) (WP.or (WP.lt (WP.pure c2.c) (WP.pure (0 : Int))) (WP.nin (WP.pair (WP.pure c2.a) (WP.pure c2.b)) (WP.pure y2))))).bind fun b => WP.cond b ((WP.pure false).bind fun r4 => (WP.pure (.rt r4))) ((WP.b2 (WP.pure c2.c) (WP.pair (WP.pure c2.a) (WP.pure c2.b)) fun b q => WP.req (y2.length < 100000) (putD y2 q b)).bind fun a5_heights => (WP.pure (.nx a5_heights)))) xs2 a1_heights) (fun (z2 : (List ((Sq × Int) × Int))) => (WP.and (WP.b4 (WP.pure a_relief) (WP.pure a_tide) (WP.pure a_start) (WP.pure (0 : Int)) m__law_dry) (WP.lt (WP.ngetD (WP.pure z2) (WP.pair (WP.pure a_start) (WP.pure (0 : Int))) (WP.pure (0 : Int))) (WP.pure a_number))).bind fun b => WP.cond b ((WP.pure false).bind fun r7 => (WP.pure r7)) ((WP.range1 (WP.len (WP.pure a_tide))).bind fun xs8 => WP.after (WP.loop (γ := Bool) (fun c8 (y8 : Unit) => (WP.and (WP.b4 (WP.pure a_relief) (WP.pure a_tide) (WP.pure a_goal) (WP.pure c8) m__law_dry) (WP.ne (WP.ngetD (WP.pure z2) (WP.pair (WP.pure a_goal) (WP.pure c8)) (WP.pure (0 : Int))) (WP.pure (0 : Int)))).bind fun b => WP.cond b ((WP.pure false).bind fun r10 => (WP.pure (.rt r10))) ((WP.pure (.nx ())))) xs8 ()) (fun (z8 : Unit) => (WP.nkeys (WP.pure z2)).bind fun xs11 => WP.after (WP.loop (γ := Bool) (fun c11 (y11 : Unit) => (WP.b4 (WP.pure a_relief) (WP.pure a_tide) (WP.pure c11.1) (WP.pure c11.2) m__law_dry).bind fun b => WP.cond b ((WP.b1 (WP.pure c11.1) m__law_stays).bind fun xs13 => WP.after (WP.loop (γ := Bool) (fun c13 (y13 : Unit) => (WP.ngetD (WP.pure z2) (WP.pair (WP.pure c13) (WP.mod (WP.add (WP.pure c11.2) (WP.pure (1 : Int))) (WP.len (WP.pure a_tide)))) (WP.pure (0 : Int))).bind fun a14_beside => (WP.and (WP.b4 (WP.pure a_relief) (WP.pure a_tide) (WP.pure c13) (WP.add (WP.pure c11.2) (WP.pure (1 : Int))) m__law_dry) (WP.gt (WP.nget (WP.pure z2) (WP.pair (WP.pure c11.1) (WP.pure c11.2))) (WP.add (WP.pure a14_beside) (WP.pure (1 : Int))))).bind fun b => WP.cond b ((WP.pure false).bind fun r16 => (WP.pure (.rt r16))) ((WP.pure (.nx ())))) xs13 ()) (fun (z13 : Unit) => (WP.pure (.nx ()))) (fun r => (WP.pure (.rt r)))) ((WP.pure (.nx ())))) xs11 ()) (fun (z11 : Unit) => (WP.pure true).bind fun r17 => (WP.pure r17)) (fun r => (WP.pure r))) (fun r => (WP.pure r)))) (fun r => (WP.pure r))
def sp__law_is_late : Sp := fun vs H Q _ => ∃ (W : Wo) (a_relief : (List Str)) (a_tide : (List Int)) (a_start : Sq) (a_goal : Sq) (a_number : Int) (a_paper : (Ls (Tri Sq Int Int))) (v_relief v_tide v_start v_goal v_number v_paper : V), vs = [v_relief, v_tide, v_start, v_goal, v_number, v_paper] ∧ W.H = H ∧ Good ef0 W ∧ Rp W a_relief v_relief ∧ Rp W a_tide v_tide ∧ Rp W a_start v_start ∧ Rp W a_goal v_goal ∧ Rp W a_number v_number ∧ Rp W a_paper v_paper ∧ (m__law_is_late a_relief a_tide a_start a_goal a_number a_paper).run W.n fun n r => ∀ v W', Gw ef0 W W' → W'.n = n → (sI (e := ef0) (α := Bool)).post W W' r v → Q v W'.H
theorem ev__law_is_late {e : Ef} {σ : L2.St} {W : Wo} {E : XK} {t0 t1 t2 t3 t4 t5 : TE} {w0 : WP (List Str)} {w1 : WP (List Int)} {w2 : WP Sq} {w3 : WP Sq} {w4 : WP Int} {w5 : WP (Ls (Tri Sq Int Int))} (h0 : EvW e t0 σ W sI w0) (h1 : EvW e t1 σ W sI w1) (h2 : EvW e t2 σ W sI w2) (h3 : EvW e t3 σ W sI w3) (h4 : EvW e t4 σ W sI w4) (h5 : EvW e t5 σ W sI w5) : EvW e (tCall sp__law_is_late [] E (tCons t0 (tCons t1 (tCons t2 (tCons t3 (tCons t4 (tCons t5 tNil))))))) σ W (sI (α := Bool)) (WP.b6 w0 w1 w2 w3 w4 w5 m__law_is_late) := ew_call6N h0 h1 h2 h3 h4 h5 fun W2 b0 b1 b2 b3 b4 b5 x0 x1 x2 x3 x4 x5 g2 r0 r1 r2 r3 r4 r5 Q q E => by
  exact ⟨W2, b0, b1, b2, b3, b4, b5, x0, x1, x2, x3, x4, x5, rfl, rfl, g2.z, r0, r1, r2, r3, r4, r5, WP.mono _ (fun n c h v W3 g3 hn p => h v W3 (Gw.up g2 g3) hn p) q⟩
theorem ok__law_is_late (F : At K mg "_law_is_late" s__law_is_late P__law_is_late) (G : Glb mg) (H__law_dry : Has P w K mg base "_law_dry" 2 P__law_dry sp__law_dry) (H__law_in : Has P w K mg base "_law_in" 1 P__law_in sp__law_in) (H__law_stays : Has P w K mg base "_law_stays" 2 P__law_stays sp__law_stays) : Has P w K mg base "_law_is_late" 3 P__law_is_late sp__law_is_late := by
  refine Has.of F sc__law_is_late (fun vs H Q E h => ?_) (fun f cdv A outer s H0 vs Q E hr h => ?_)
  · obtain ⟨W0, a_relief, a_tide, a_start, a_goal, a_number, a_paper, v_relief, v_tide, v_start, v_goal, v_number, v_paper, rfl, _⟩ := h
    rfl
  · obtain ⟨W0, a_relief, a_tide, a_start, a_goal, a_number, a_paper, v_relief, v_tide, v_start, v_goal, v_number, v_paper, rfl, rfl, g00, h_relief, h_tide, h_start, h_goal, h_number, h_paper, hm⟩ := h
    have sc := sc__law_is_late
    have g0 := Gw.refl g00
    unfold m__law_is_late at hm
    refine ⟨_, (pss_cons (ps_set (i := 6) sc.nd rfl (Or.inl rfl) pe_nnew)
      (pss_cons (ps_for PassesOwn.never rfl (pi_list (pv 5)) (pg_tup rfl (pgs_cons (pg_name (i := 7) sc.nd rfl (Or.inl rfl)) (pgs_cons (pg_name (i := 8) sc.nd rfl (Or.inl rfl)) (pgs_cons (pg_name (i := 9) sc.nd rfl (Or.inl rfl)) pgs_nil))))
      (pss_cons (ps_if (PW.pt (pw_or (pt_not (pt_val (pe_user H__law_in (hr.mono (by decide)) rfl (pa_cons (pv 0) (pa_cons (pv 7) pa_nil))))) (pw_or (pt_not (pt_chain op_le op_lt pe_int (pv 8) (pe_callB call_len_seq (by rfl) G.len PySem.boot_len (pa_cons (pv 1) pa_nil)))) (pw_or (pt_cmpR op_lt (pv 9) pe_int (nomark _)) (pw_or1 (pt_cmp (pc_nin (hn10 (hu65 hr)) (pe_tup (pa_cons (pv 7) (pa_cons (pv 8) pa_nil))) (pv 6)))))))) (pss_one (ps_ret pe_bl)) pss_nil)
      (pss_one (ps_nput (hn10 (hu65 hr)) (pv 6) (pe_tup (pa_cons (pv 7) (pa_cons (pv 8) pa_nil))) (pv 9) rfl))))
      (pss_cons (ps_if (PW.pt (pw_and (pt_val (pe_user H__law_dry (hr.mono (by decide)) rfl (pa_cons (pv 0) (pa_cons (pv 1) (pa_cons (pv 2) (pa_cons pe_int pa_nil)))))) (pw_and1 (pt_cmpR op_lt (pe_nget2 (hn10 (hu65 hr)) (pv 6) (pe_tup (pa_cons (pv 2) (pa_cons pe_int pa_nil))) pe_int ⟨rfl, rfl, rfl, rfl⟩) (pv 4) (nomark _))))) (pss_one (ps_ret pe_bl)) pss_nil)
      (pss_cons (ps_for PassesOwn.never rfl (pi_range1 rfl G.range (pa_cons (pe_callB call_len_seq (by rfl) G.len PySem.boot_len (pa_cons (pv 1) pa_nil)) pa_nil)) (pg_name (i := 8) sc.nd rfl (Or.inl rfl))
      (pss_one (ps_if (PW.pt (pw_and (pt_val (pe_user H__law_dry (hr.mono (by decide)) rfl (pa_cons (pv 0) (pa_cons (pv 1) (pa_cons (pv 3) (pa_cons (pv 8) pa_nil)))))) (pw_and1 (pt_cmpR op_ne (pe_nget2 (hn10 (hu65 hr)) (pv 6) (pe_tup (pa_cons (pv 3) (pa_cons (pv 8) pa_nil))) pe_int ⟨rfl, rfl, rfl, rfl⟩) pe_int (nomark _))))) (pss_one (ps_ret pe_bl)) pss_nil)))
      (pss_cons (ps_for PassesOwn.never rfl (pi_list (pe_callTy (call_list_N' rfl) (by rfl) G.list (by decide +kernel) (pa_cons (pv 6) pa_nil))) (pg_tup rfl (pgs_cons (pg_name (i := 7) sc.nd rfl (Or.inl rfl)) (pgs_cons (pg_name (i := 8) sc.nd rfl (Or.inl rfl)) pgs_nil)))
      (pss_one (ps_if (pt_val (pe_user H__law_dry (hr.mono (by decide)) rfl (pa_cons (pv 0) (pa_cons (pv 1) (pa_cons (pv 7) (pa_cons (pv 8) pa_nil)))))) (pss_one (ps_for PassesOwn.never rfl (pi_list (pe_user H__law_stays (hr.mono (by decide)) rfl (pa_cons (pv 7) pa_nil))) (pg_name (i := 10) sc.nd rfl (Or.inl rfl))
      (pss_cons (ps_set (i := 11) sc.nd rfl (Or.inl rfl) (pe_nget2 (hn10 (hu65 hr)) (pv 6) (pe_tup (pa_cons (pv 10) (pa_cons (pe_op op_mod (pe_op op_add (pv 8) pe_int) (pe_callB call_len_seq (by rfl) G.len PySem.boot_len (pa_cons (pv 1) pa_nil))) pa_nil))) pe_int ⟨rfl, rfl, rfl, rfl⟩))
      (pss_one (ps_if (PW.pt (pw_and (pt_val (pe_user H__law_dry (hr.mono (by decide)) rfl (pa_cons (pv 0) (pa_cons (pv 1) (pa_cons (pv 10) (pa_cons (pe_op op_add (pv 8) pe_int) pa_nil)))))) (pw_and1 (pt_cmpR op_gt (pe_nget (hn10 (hu65 hr)) (pv 6) (pe_tup (pa_cons (pv 7) (pa_cons (pv 8) pa_nil))) (fun _ _ => rfl)) (pe_op op_add (pv 11) pe_int) (nomark _))))) (pss_one (ps_ret pe_bl)) pss_nil))))) pss_nil)))
      (pss_one (ps_ret pe_bl))))))), ?_⟩
    refine q_asg (W := W0) (ew_nnew (P := P) (w := w) (κ := (Sq × Int)) (β := Int)) g0.ok hm fun a1_heights v_heights W1 g1 ⟨fp_heights, ho0_heights, hf_heights⟩ hm => ?_
    have hz_heights : ∀ a ∈ fp_heights, W0.H a = none := fun a m => g0.live a (hf_heights a m).1
    have h_relief := PyI.st g1.st h_relief
    have h_tide := PyI.st g1.st h_tide
    have h_start := PyI.st g1.st h_start
    have h_goal := PyI.st g1.st h_goal
    have h_number := PyI.st g1.st h_number
    have h_paper := PyI.st g1.st h_paper
    have g0 := g0.trans g1
    have ho_heights : Var (kN P w (Sq × Int) Int) W0 W1 fp_heights a1_heights v_heights := ⟨ho0_heights, hz_heights, fun b m => (hf_heights b m).2.2⟩
    first | refine norm_st (σ' := [some v_relief, some v_tide, some v_start, some v_goal, some v_number, some v_paper, some v_heights, none, none, none, none, none]) rfl ?_ | skip
    refine q_forF (W := W1) tk_T3 (ew_var (v := v_paper) rfl h_paper) g0.ok hm fun xs2 W2 g2 => ?_
    have h_relief := PyI.st g2.st h_relief
    have h_tide := PyI.st g2.st h_tide
    have h_start := PyI.st g2.st h_start
    have h_goal := PyI.st g2.st h_goal
    have h_number := PyI.st g2.st h_number
    have h_paper := PyI.st g2.st h_paper
    have ho_heights := ho_heights.go g00 g2
    have g0 := g0.trans g2
    refine ⟨fun y σ' W' => ∃ (v_heights : V) (fp_heights : List Addr) (o_square : Option V) (o_index : Option V) (o_own : Option V), σ' = [some v_relief, some v_tide, some v_start, some v_goal, some v_number, some v_paper, some v_heights, o_square, o_index, o_own, none, none] ∧ Gw ef0 W0 W' ∧ St W2 W' ∧ Var (kN P w (Sq × Int) Int) W0 W' fp_heights y v_heights, ⟨v_heights, fp_heights, _, _, _, rfl, g0, (St.refl _), ho_heights⟩, fun _ _ _ hI => ?_, fun c2 y2 σi s2 Wi2 R2 nx2 ht hI hm kn2 kb2 kr2 => ?_, fun z2 σi Wi2 hI hm => ?_⟩
    · obtain ⟨v_heights, fp_heights, o_square, o_index, o_own, rfl, g0, sl2, ho_heights⟩ := hI
      exact sl2
    ·
      obtain ⟨v_heights, fp_heights, o_square, o_index, o_own, rfl, g0, sl2, ho_heights⟩ := hI
      have h_relief := PyI.st sl2 h_relief
      have h_tide := PyI.st sl2 h_tide
      have h_start := PyI.st sl2 h_start
      have h_goal := PyI.st sl2 h_goal
      have h_number := PyI.st sl2 h_number
      have h_paper := PyI.st sl2 h_paper
      obtain ⟨v_square, v_index, v_own, rfl, h_square, h_index, h_own⟩ := ht
      refine q_if (W := Wi2) (et_or (et_not (et_B (ev__law_in (ew_var (v := v_relief) rfl h_relief) (ew_var (v := v_square) rfl h_square)))) (et_or (et_not (et_t (ew_chain (C := fun i j => decide (i ≤ j)) (C' := fun i j => decide (i < j)) ew_int (ew_var (v := v_index) rfl h_index) (ew_lenT (ew_var (v := v_tide) rfl h_tide))))) (et_or (et_t (ew_lt (ew_var (v := v_own) rfl h_own) ew_int)) (et_B (ew_nin (ew_pair (ew_var (v := v_square) rfl h_square) (ew_var (v := v_index) rfl h_index)) (ew_nr (ew_varR (v := v_heights) rfl (Var.nS g00 ho_heights) ho_heights.own))))))) g0.ok hm (fun W3 g3 hm => ?_) (fun W3 g3 hm => ?_)
      ·
        have h_relief := PyI.st g3.st h_relief
        have h_tide := PyI.st g3.st h_tide
        have h_start := PyI.st g3.st h_start
        have h_goal := PyI.st g3.st h_goal
        have h_number := PyI.st g3.st h_number
        have h_paper := PyI.st g3.st h_paper
        have ho_heights := ho_heights.go g00 g3
        have h_square := PyI.st g3.st h_square
        have h_index := PyI.st g3.st h_index
        have h_own := PyI.st g3.st h_own
        have sl2 := sl2.trans g3.st
        have g0 := g0.trans g3
        refine st_ret (W := W3) ew_bl g0.ok hm fun r4 v_ret W4 g4 hp hm => ?_
        have hm := kr2 _ _ hm
        exact hm v_ret W4 (g0.trans g4) rfl hp
      ·
        have h_relief := PyI.st g3.st h_relief
        have h_tide := PyI.st g3.st h_tide
        have h_start := PyI.st g3.st h_start
        have h_goal := PyI.st g3.st h_goal
        have h_number := PyI.st g3.st h_number
        have h_paper := PyI.st g3.st h_paper
        have ho_heights := ho_heights.go g00 g3
        have h_square := PyI.st g3.st h_square
        have h_index := PyI.st g3.st h_index
        have h_own := PyI.st g3.st h_own
        have sl2 := sl2.trans g3.st
        have g0 := g0.trans g3
        refine st_next ?_
        refine st_nput (W := W3) g00 g0 rfl ho_heights (ew_var (v := v_own) rfl h_own) (ew_pair (ew_var (v := v_square) rfl h_square) (ew_var (v := v_index) rfl h_index)) hm fun a5_heights W5_ W5 l_heights el_heights g5 s g02 kk ff ho_heights hm => ?_
        have h_relief := PyI.st g5.st h_relief
        have h_tide := PyI.st g5.st h_tide
        have h_start := PyI.st g5.st h_start
        have h_goal := PyI.st g5.st h_goal
        have h_number := PyI.st g5.st h_number
        have h_paper := PyI.st g5.st h_paper
        have h_square := PyI.st g5.st h_square
        have h_index := PyI.st g5.st h_index
        have h_own := PyI.st g5.st h_own
        have sl2 := sl2.trans g5.st
        have g0 := g0.trans g5
        have h_relief := PyI.st s h_relief
        have h_tide := PyI.st s h_tide
        have h_start := PyI.st s h_start
        have h_goal := PyI.st s h_goal
        have h_number := PyI.st s h_number
        have h_paper := PyI.st s h_paper
        have h_square := PyI.st s h_square
        have h_index := PyI.st s h_index
        have h_own := PyI.st s h_own
        have sl2 := sl2.trans s
        have g0 := g02
        exact kn2 a5_heights _ W5 ⟨v_heights, fp_heights, _, _, _, rfl, g0, sl2, ho_heights⟩ hm
    ·
      obtain ⟨v_heights, fp_heights, o_square, o_index, o_own, rfl, g0, sl2, ho_heights⟩ := hI
      have h_relief := PyI.st sl2 h_relief
      have h_tide := PyI.st sl2 h_tide
      have h_start := PyI.st sl2 h_start
      have h_goal := PyI.st sl2 h_goal
      have h_number := PyI.st sl2 h_number
      have h_paper := PyI.st sl2 h_paper
      refine q_if (W := Wi2) (et_and (et_B (ev__law_dry (ew_var (v := v_relief) rfl h_relief) (ew_var (v := v_tide) rfl h_tide) (ew_var (v := v_start) rfl h_start) ew_int)) (et_t (ew_lt (ew_ngetD (ew_nr (ew_varR (v := v_heights) rfl (Var.nS g00 ho_heights) ho_heights.own)) (ew_pair (ew_var (v := v_start) rfl h_start) ew_int) ew_int) (ew_var (v := v_number) rfl h_number)))) g0.ok hm (fun W6 g6 hm => ?_) (fun W6 g6 hm => ?_)
      ·
        have h_relief := PyI.st g6.st h_relief
        have h_tide := PyI.st g6.st h_tide
        have h_start := PyI.st g6.st h_start
        have h_goal := PyI.st g6.st h_goal
        have h_number := PyI.st g6.st h_number
        have h_paper := PyI.st g6.st h_paper
        have ho_heights := ho_heights.go g00 g6
        have g0 := g0.trans g6
        refine st_ret (W := W6) ew_bl g0.ok hm fun r7 v_ret W7 g7 hp hm => ?_
        exact hm v_ret W7 (g0.trans g7) rfl hp
      ·
        have h_relief := PyI.st g6.st h_relief
        have h_tide := PyI.st g6.st h_tide
        have h_start := PyI.st g6.st h_start
        have h_goal := PyI.st g6.st h_goal
        have h_number := PyI.st g6.st h_number
        have h_paper := PyI.st g6.st h_paper
        have ho_heights := ho_heights.go g00 g6
        have g0 := g0.trans g6
        refine st_next ?_
        refine q_forR1 (W := W6) (ew_lenT (ew_var (v := v_tide) rfl h_tide)) g0.ok hm fun W8 g8 => ?_
        have h_relief := PyI.st g8.st h_relief
        have h_tide := PyI.st g8.st h_tide
        have h_start := PyI.st g8.st h_start
        have h_goal := PyI.st g8.st h_goal
        have h_number := PyI.st g8.st h_number
        have h_paper := PyI.st g8.st h_paper
        have ho_heights := ho_heights.go g00 g8
        have g0 := g0.trans g8
        refine ⟨fun y σ' W' => ∃ (o_index : Option V), σ' = [some v_relief, some v_tide, some v_start, some v_goal, some v_number, some v_paper, some v_heights, o_square, o_index, o_own, none, none] ∧ Gw ef0 W0 W' ∧ St W8 W' ∧ Var (kN P w (Sq × Int) Int) W0 W' fp_heights z2 v_heights, ⟨_, rfl, g0, (St.refl _), ho_heights⟩, fun c8 y8 σi s2 Wi8 R8 nx8 ht hI hm kn8 kb8 kr8 => ?_, fun z8 σi Wi8 hI hm => ?_⟩
        ·
          obtain ⟨o_index, rfl, g0, sl8, ho_heights⟩ := hI
          have h_relief := PyI.st sl8 h_relief
          have h_tide := PyI.st sl8 h_tide
          have h_start := PyI.st sl8 h_start
          have h_goal := PyI.st sl8 h_goal
          have h_number := PyI.st sl8 h_number
          have h_paper := PyI.st sl8 h_paper
          obtain ⟨v_index, rfl, h_index⟩ := ht
          refine st_if (W := Wi8) (et_and (et_B (ev__law_dry (ew_var (v := v_relief) rfl h_relief) (ew_var (v := v_tide) rfl h_tide) (ew_var (v := v_goal) rfl h_goal) (ew_var (v := v_index) rfl h_index))) (et_t (ew_ne (ew_ngetD (ew_nr (ew_varR (v := v_heights) rfl (Var.nS g00 ho_heights) ho_heights.own)) (ew_pair (ew_var (v := v_goal) rfl h_goal) (ew_var (v := v_index) rfl h_index)) ew_int) ew_int))) g0.ok hm (fun W9 g9 hm => ?_) (fun W9 g9 hm => ?_)
          ·
            have h_relief := PyI.st g9.st h_relief
            have h_tide := PyI.st g9.st h_tide
            have h_start := PyI.st g9.st h_start
            have h_goal := PyI.st g9.st h_goal
            have h_number := PyI.st g9.st h_number
            have h_paper := PyI.st g9.st h_paper
            have ho_heights := ho_heights.go g00 g9
            have h_index := PyI.st g9.st h_index
            have sl8 := sl8.trans g9.st
            have g0 := g0.trans g9
            refine st_ret (W := W9) ew_bl g0.ok hm fun r10 v_ret W10 g10 hp hm => ?_
            have hm := kr8 _ _ hm
            exact hm v_ret W10 (g0.trans g10) rfl hp
          ·
            have h_relief := PyI.st g9.st h_relief
            have h_tide := PyI.st g9.st h_tide
            have h_start := PyI.st g9.st h_start
            have h_goal := PyI.st g9.st h_goal
            have h_number := PyI.st g9.st h_number
            have h_paper := PyI.st g9.st h_paper
            have ho_heights := ho_heights.go g00 g9
            have h_index := PyI.st g9.st h_index
            have sl8 := sl8.trans g9.st
            have g0 := g0.trans g9
            refine st_next ?_
            exact kn8 () _ W9 ⟨_, rfl, g0, sl8, ho_heights⟩ hm
        ·
          obtain ⟨o_index, rfl, g0, sl8, ho_heights⟩ := hI
          have h_relief := PyI.st sl8 h_relief
          have h_tide := PyI.st sl8 h_tide
          have h_start := PyI.st sl8 h_start
          have h_goal := PyI.st sl8 h_goal
          have h_number := PyI.st sl8 h_number
          have h_paper := PyI.st sl8 h_paper
          refine q_forN (W := Wi8) tk_P (ew_nkeys (ew_nr (ew_varR (v := v_heights) rfl (Var.nS g00 ho_heights) ho_heights.own))) g0.ok hm fun xs11 p_it11 vs_it11 W11 g11 hn_it11 hF_it11 hp_it11 hr_it11 => ?_
          have dj_it11_heights : ∀ b ∈ [p_it11], b ∉ fp_heights := fun b m z => by cases mem_one m; exact (kN P w (Sq × Int) Int).live ho_heights.own _ z hn_it11
          have nS_it11 : ¬ ef0.S p_it11 := fun z => g0.ok.S _ z hn_it11
          have h_relief := PyI.st g11.st h_relief
          have h_tide := PyI.st g11.st h_tide
          have h_start := PyI.st g11.st h_start
          have h_goal := PyI.st g11.st h_goal
          have h_number := PyI.st g11.st h_number
          have h_paper := PyI.st g11.st h_paper
          have ho_heights := ho_heights.go g00 g11
          have g0 := g0.trans g11
          refine ⟨fun y σ' W' => ∃ (o_square : Option V) (o_index : Option V) (o_other : Option V) (o_beside : Option V), σ' = [some v_relief, some v_tide, some v_start, some v_goal, some v_number, some v_paper, some v_heights, o_square, o_index, o_own, o_other, o_beside] ∧ Gw ef0 W0 W' ∧ St W11 W' ∧ Var (kN P w (Sq × Int) Int) W0 W' fp_heights z2 v_heights ∧ W'.H p_it11 = some (.lst vs_it11), ⟨_, _, _, _, rfl, g0, (St.refl _), ho_heights, hp_it11⟩, fun _ _ _ hI => ?_, fun c11 y11 σi s2 Wi11 R11 nx11 ht hI hm kn11 kb11 kr11 => ?_, fun z11 σi Wi11 hI hm => ?_⟩
          · obtain ⟨o_square, o_index, o_other, o_beside, rfl, g0, sl11, ho_heights, hp_it11⟩ := hI
            exact ⟨sl11, hp_it11⟩
          ·
            obtain ⟨o_square, o_index, o_other, o_beside, rfl, g0, sl11, ho_heights, hp_it11⟩ := hI
            have h_relief := PyI.st sl11 h_relief
            have h_tide := PyI.st sl11 h_tide
            have h_start := PyI.st sl11 h_start
            have h_goal := PyI.st sl11 h_goal
            have h_number := PyI.st sl11 h_number
            have h_paper := PyI.st sl11 h_paper
            obtain ⟨v_square, v_index, rfl, h_square, h_index⟩ := ht
            refine st_if (W := Wi11) (et_B (ev__law_dry (ew_var (v := v_relief) rfl h_relief) (ew_var (v := v_tide) rfl h_tide) (ew_var (v := v_square) rfl h_square) (ew_var (v := v_index) rfl h_index))) g0.ok hm (fun W12 g12 hm => ?_) (fun W12 g12 hm => ?_)
            ·
              have h_relief := PyI.st g12.st h_relief
              have h_tide := PyI.st g12.st h_tide
              have h_start := PyI.st g12.st h_start
              have h_goal := PyI.st g12.st h_goal
              have h_number := PyI.st g12.st h_number
              have h_paper := PyI.st g12.st h_paper
              have ho_heights := ho_heights.go g00 g12
              have h_square := PyI.st g12.st h_square
              have h_index := PyI.st g12.st h_index
              have sl11 := sl11.trans g12.st
              have hp_it11 := g12.keep _ _ hp_it11 nS_it11
              have g0 := g0.trans g12
              refine st_forN (W := W12) tk_N (ev__law_stays (ew_var (v := v_square) rfl h_square)) g0.ok hm fun xs13 p_it13 vs_it13 W13 g13 hn_it13 hF_it13 hp_it13 hr_it13 => ?_
              have dj_it13_heights : ∀ b ∈ [p_it13], b ∉ fp_heights := fun b m z => by cases mem_one m; exact (kN P w (Sq × Int) Int).live ho_heights.own _ z hn_it13
              have nS_it13 : ¬ ef0.S p_it13 := fun z => g0.ok.S _ z hn_it13
              have h_relief := PyI.st g13.st h_relief
              have h_tide := PyI.st g13.st h_tide
              have h_start := PyI.st g13.st h_start
              have h_goal := PyI.st g13.st h_goal
              have h_number := PyI.st g13.st h_number
              have h_paper := PyI.st g13.st h_paper
              have ho_heights := ho_heights.go g00 g13
              have h_square := PyI.st g13.st h_square
              have h_index := PyI.st g13.st h_index
              have sl11 := sl11.trans g13.st
              have hp_it11 := g13.keep _ _ hp_it11 nS_it11
              have g0 := g0.trans g13
              refine ⟨fun y σ' W' => ∃ (o_other : Option V) (o_beside : Option V), σ' = [some v_relief, some v_tide, some v_start, some v_goal, some v_number, some v_paper, some v_heights, some v_square, some v_index, o_own, o_other, o_beside] ∧ Gw ef0 W0 W' ∧ St W13 W' ∧ Var (kN P w (Sq × Int) Int) W0 W' fp_heights z2 v_heights ∧ W'.H p_it11 = some (.lst vs_it11) ∧ W'.H p_it13 = some (.lst vs_it13), ⟨_, _, rfl, g0, (St.refl _), ho_heights, hp_it11, hp_it13⟩, fun _ _ _ hI => ?_, fun c13 y13 σi s2 Wi13 R13 nx13 ht hI hm kn13 kb13 kr13 => ?_, fun z13 σi Wi13 hI hm => ?_⟩
              · obtain ⟨o_other, o_beside, rfl, g0, sl13, ho_heights, hp_it11, hp_it13⟩ := hI
                exact ⟨sl13, hp_it13⟩
              ·
                obtain ⟨o_other, o_beside, rfl, g0, sl13, ho_heights, hp_it11, hp_it13⟩ := hI
                have h_relief := PyI.st sl13 h_relief
                have h_tide := PyI.st sl13 h_tide
                have h_start := PyI.st sl13 h_start
                have h_goal := PyI.st sl13 h_goal
                have h_number := PyI.st sl13 h_number
                have h_paper := PyI.st sl13 h_paper
                have h_square := PyI.st sl13 h_square
                have h_index := PyI.st sl13 h_index
                have sl11 := sl11.trans sl13
                obtain ⟨v_other, rfl, h_other⟩ := ht
                refine q_asg (W := Wi13) (ew_ngetD (ew_nr (ew_varR (v := v_heights) rfl (Var.nS g00 ho_heights) ho_heights.own)) (ew_pair (ew_var (v := v_other) rfl h_other) (ew_mod (ew_add (ew_var (v := v_index) rfl h_index) ew_int) (ew_lenT (ew_var (v := v_tide) rfl h_tide)))) ew_int) g0.ok hm fun a14_beside v_beside W14 g14 h_beside hm => ?_
                have h_relief := PyI.st g14.st h_relief
                have h_tide := PyI.st g14.st h_tide
                have h_start := PyI.st g14.st h_start
                have h_goal := PyI.st g14.st h_goal
                have h_number := PyI.st g14.st h_number
                have h_paper := PyI.st g14.st h_paper
                have ho_heights := ho_heights.go g00 g14
                have h_square := PyI.st g14.st h_square
                have h_index := PyI.st g14.st h_index
                have h_other := PyI.st g14.st h_other
                have sl11 := sl11.trans g14.st
                have sl13 := sl13.trans g14.st
                have hp_it11 := g14.keep _ _ hp_it11 nS_it11
                have hp_it13 := g14.keep _ _ hp_it13 nS_it13
                have g0 := g0.trans g14
                first | refine norm_st (σ' := [some v_relief, some v_tide, some v_start, some v_goal, some v_number, some v_paper, some v_heights, some v_square, some v_index, o_own, some v_other, some v_beside]) rfl ?_ | skip
                refine st_if (W := W14) (et_and (et_B (ev__law_dry (ew_var (v := v_relief) rfl h_relief) (ew_var (v := v_tide) rfl h_tide) (ew_var (v := v_other) rfl h_other) (ew_add (ew_var (v := v_index) rfl h_index) ew_int))) (et_t (ew_gt (ew_nget (ew_nr (ew_varR (v := v_heights) rfl (Var.nS g00 ho_heights) ho_heights.own)) (ew_pair (ew_var (v := v_square) rfl h_square) (ew_var (v := v_index) rfl h_index))) (ew_add (ew_var (v := v_beside) rfl h_beside) ew_int)))) g0.ok hm (fun W15 g15 hm => ?_) (fun W15 g15 hm => ?_)
                ·
                  have h_relief := PyI.st g15.st h_relief
                  have h_tide := PyI.st g15.st h_tide
                  have h_start := PyI.st g15.st h_start
                  have h_goal := PyI.st g15.st h_goal
                  have h_number := PyI.st g15.st h_number
                  have h_paper := PyI.st g15.st h_paper
                  have ho_heights := ho_heights.go g00 g15
                  have h_square := PyI.st g15.st h_square
                  have h_index := PyI.st g15.st h_index
                  have h_other := PyI.st g15.st h_other
                  have h_beside := PyI.st g15.st h_beside
                  have sl11 := sl11.trans g15.st
                  have sl13 := sl13.trans g15.st
                  have hp_it11 := g15.keep _ _ hp_it11 nS_it11
                  have hp_it13 := g15.keep _ _ hp_it13 nS_it13
                  have g0 := g0.trans g15
                  refine st_ret (W := W15) ew_bl g0.ok hm fun r16 v_ret W16 g16 hp hm => ?_
                  have hm := kr13 _ _ hm
                  have hm := kr11 _ _ hm
                  exact hm v_ret W16 (g0.trans g16) rfl hp
                ·
                  have h_relief := PyI.st g15.st h_relief
                  have h_tide := PyI.st g15.st h_tide
                  have h_start := PyI.st g15.st h_start
                  have h_goal := PyI.st g15.st h_goal
                  have h_number := PyI.st g15.st h_number
                  have h_paper := PyI.st g15.st h_paper
                  have ho_heights := ho_heights.go g00 g15
                  have h_square := PyI.st g15.st h_square
                  have h_index := PyI.st g15.st h_index
                  have h_other := PyI.st g15.st h_other
                  have h_beside := PyI.st g15.st h_beside
                  have sl11 := sl11.trans g15.st
                  have sl13 := sl13.trans g15.st
                  have hp_it11 := g15.keep _ _ hp_it11 nS_it11
                  have hp_it13 := g15.keep _ _ hp_it13 nS_it13
                  have g0 := g0.trans g15
                  refine st_next ?_
                  exact kn13 () _ W15 ⟨_, _, rfl, g0, sl13, ho_heights, hp_it11, hp_it13⟩ hm
              ·
                obtain ⟨o_other, o_beside, rfl, g0, sl13, ho_heights, hp_it11, hp_it13⟩ := hI
                have h_relief := PyI.st sl13 h_relief
                have h_tide := PyI.st sl13 h_tide
                have h_start := PyI.st sl13 h_start
                have h_goal := PyI.st sl13 h_goal
                have h_number := PyI.st sl13 h_number
                have h_paper := PyI.st sl13 h_paper
                have h_square := PyI.st sl13 h_square
                have h_index := PyI.st sl13 h_index
                have sl11 := sl11.trans sl13
                exact kn11 () _ Wi13 ⟨_, _, _, _, rfl, g0, sl11, ho_heights, hp_it11⟩ hm
            ·
              have h_relief := PyI.st g12.st h_relief
              have h_tide := PyI.st g12.st h_tide
              have h_start := PyI.st g12.st h_start
              have h_goal := PyI.st g12.st h_goal
              have h_number := PyI.st g12.st h_number
              have h_paper := PyI.st g12.st h_paper
              have ho_heights := ho_heights.go g00 g12
              have h_square := PyI.st g12.st h_square
              have h_index := PyI.st g12.st h_index
              have sl11 := sl11.trans g12.st
              have hp_it11 := g12.keep _ _ hp_it11 nS_it11
              have g0 := g0.trans g12
              refine st_next ?_
              exact kn11 () _ W12 ⟨_, _, _, _, rfl, g0, sl11, ho_heights, hp_it11⟩ hm
          ·
            obtain ⟨o_square, o_index, o_other, o_beside, rfl, g0, sl11, ho_heights, hp_it11⟩ := hI
            have h_relief := PyI.st sl11 h_relief
            have h_tide := PyI.st sl11 h_tide
            have h_start := PyI.st sl11 h_start
            have h_goal := PyI.st sl11 h_goal
            have h_number := PyI.st sl11 h_number
            have h_paper := PyI.st sl11 h_paper
            refine st_ret (W := Wi11) ew_bl g0.ok hm fun r17 v_ret W17 g17 hp hm => ?_
            exact hm v_ret W17 (g0.trans g17) rfl hp
abbrev s__law_left : Stmt := top 30
abbrev N__law_left : List Str := ["relief", "tide", "goal", "number", "left", "square", "index", "pairs", "turn", "other", "beside"]
abbrev P__law_left : List Str := ["relief", "tide", "goal", "number"]
theorem sc__law_left : FnScope N__law_left P__law_left (defScope s__law_left) := ⟨rfl, rfl, rfl, by decide +kernel, rfl, by decide +kernel, by decide +kernel⟩
def m__law_left (a_relief : (List Str)) (a_tide : (List Int)) (a_goal : Sq) (a_number : Int) : WP (List (Tri Sq Int Int)) := (WP.pure ([] : (List ((Sq × Int) × Int)))).bind fun a1_left => (WP.b1 (WP.pure a_relief) m__law_all).bind fun xs2 => WP.after (WP.loop (γ := (List (Tri Sq Int Int))) (fun c2 (y2 : (List ((Sq × Int) × Int))) => (WP.range1 (WP.len (WP.pure a_tide))).bind fun xs3 => WP.after (WP.loop (γ := (List (Tri Sq Int Int))) (fun c3 (y3 : (List ((Sq × Int) × Int))) => ((WP.b4 (WP.pure a_relief) (WP.pure a_tide) (WP.pure c2) (WP.pure c3) m__law_dry).bind fun b => WP.cond b ((WP.b2 (WP.ite (WP.eqD (WP.pure c2) (WP.pure a_goal)) (WP.pure (0 : Int)) (WP.pure a_number)) (WP.pair (WP.pure c2) (WP.pure c3)) fun b q => WP.req (y3.length < 100000) (putD y3 q b)).bind fun a5_left => (WP.pure a5_left)) ((WP.pure y3))).bind fun (y4 : (List ((Sq × Int) × Int))) => (WP.pure (.nx y4))) xs3 y2) (fun (z3 : (List ((Sq × Int) × Int))) => (WP.pure (.nx z3))) (fun r => (WP.pure (.rt r)))) xs2 a1_left) (fun (z2 : (List ((Sq × Int) × Int))) => (WP.nkeys (WP.pure z2)).bind fun a6_pairs => (WP.range1 (WP.pure a_number)).bind fun xs7 => WP.after (WP.loop (γ := (List (Tri Sq Int Int))) (fun c7 (y7 : (List ((Sq × Int) × Int))) => WP.after (WP.loop (γ := (List (Tri Sq Int Int))) (fun c8 (y8 : (List ((Sq × Int) × Int))) => (WP.b1 (WP.pure c8.1) m__law_stays).bind fun xs9 => WP.after (WP.loop (γ := (List (Tri Sq Int Int))) (fun c9 (y9 : (List ((Sq × Int) × Int))) => (WP.ngetD (WP.pure y9) (WP.pair (WP.pure c9) (WP.mod (WP.add (WP.pure c8.2) (WP.pure (1 : Int))) (WP.len (WP.pure a_tide)))) (WP.pure a_number)).bind fun a10_beside => ((WP.gt (WP.nget (WP.pure y9) (WP.pair (WP.pure c8.1) (WP.pure c8.2))) (WP.add (WP.pure a10_beside) (WP.pure (1 : Int)))).bind fun b => WP.cond b ((WP.b2 (WP.add (WP.pure a10_beside) (WP.pure (1 : Int))) (WP.pair (WP.pure c8.1) (WP.pure c8.2)) fun b q => WP.req (y9.length < 100000) (putD y9 q b)).bind fun a12_left => (WP.pure a12_left)) ((WP.pure y9))).bind fun (y11 : (List ((Sq × Int) × Int))) => (WP.pure (.nx y11))) xs9 y8) (fun (z9 : (List ((Sq × Int) × Int))) => (WP.pure (.nx z9))) (fun r => (WP.pure (.rt r)))) a6_pairs y7) (fun (z8 : (List ((Sq × Int) × Int))) => (WP.pure (.nx z8))) (fun r => (WP.pure (.rt r)))) xs7 z2) (fun (z7 : (List ((Sq × Int) × Int))) => (WP.lc (WP.pure a6_pairs) (fun c1 => (WP.pure true)) (fun c1 => (WP.tri (WP.pure c1.1) (WP.pure c1.2) (WP.nget (WP.pure z7) (WP.pair (WP.pure c1.1) (WP.pure c1.2)))))).bind fun r13 => (WP.pure r13)) (fun r => (WP.pure r))) (fun r => (WP.pure r))
def sp__law_left : Sp := fun vs H Q _ => ∃ (W : Wo) (a_relief : (List Str)) (a_tide : (List Int)) (a_goal : Sq) (a_number : Int) (v_relief v_tide v_goal v_number : V), vs = [v_relief, v_tide, v_goal, v_number] ∧ W.H = H ∧ Good ef0 W ∧ Rp W a_relief v_relief ∧ Rp W a_tide v_tide ∧ Rp W a_goal v_goal ∧ Rp W a_number v_number ∧ (m__law_left a_relief a_tide a_goal a_number).run W.n fun n r => ∀ v W', Gw ef0 W W' → W'.n = n → (sN (e := ef0) (kL (Tri Sq Int Int))).post W W' r v → Q v W'.H
theorem ev__law_left {e : Ef} {σ : L2.St} {W : Wo} {E : XK} {t0 t1 t2 t3 : TE} {w0 : WP (List Str)} {w1 : WP (List Int)} {w2 : WP Sq} {w3 : WP Int} (h0 : EvW e t0 σ W sI w0) (h1 : EvW e t1 σ W sI w1) (h2 : EvW e t2 σ W sI w2) (h3 : EvW e t3 σ W sI w3) : EvW e (tCall sp__law_left [] E (tCons t0 (tCons t1 (tCons t2 (tCons t3 tNil))))) σ W (sN (kL (Tri Sq Int Int))) (WP.b4 w0 w1 w2 w3 m__law_left) := ew_call4N h0 h1 h2 h3 fun W2 b0 b1 b2 b3 x0 x1 x2 x3 g2 r0 r1 r2 r3 Q q E => by
  exact ⟨W2, b0, b1, b2, b3, x0, x1, x2, x3, rfl, rfl, g2.z, r0, r1, r2, r3, WP.mono _ (fun n c h v W3 g3 hn p => h v W3 (Gw.up g2 g3) hn (sN_up g2 p)) q⟩
theorem ok__law_left (F : At K mg "_law_left" s__law_left P__law_left) (G : Glb mg) (H__law_all : Has P w K mg base "_law_all" 1 P__law_all sp__law_all) (H__law_dry : Has P w K mg base "_law_dry" 2 P__law_dry sp__law_dry) (H__law_stays : Has P w K mg base "_law_stays" 2 P__law_stays sp__law_stays) : Has P w K mg base "_law_left" 3 P__law_left sp__law_left := by
  refine Has.of F sc__law_left (fun vs H Q E h => ?_) (fun f cdv A outer s H0 vs Q E hr h => ?_)
  · obtain ⟨W0, a_relief, a_tide, a_goal, a_number, v_relief, v_tide, v_goal, v_number, rfl, _⟩ := h
    rfl
  · obtain ⟨W0, a_relief, a_tide, a_goal, a_number, v_relief, v_tide, v_goal, v_number, rfl, rfl, g00, h_relief, h_tide, h_goal, h_number, hm⟩ := h
    have sc := sc__law_left
    have g0 := Gw.refl g00
    unfold m__law_left at hm
    refine ⟨_, (pss_cons (ps_set (i := 4) sc.nd rfl (Or.inr rfl) pe_nnew)
      (pss_cons (ps_for PassesOwn.never rfl (pi_list (pe_user H__law_all (hr.mono (by decide)) rfl (pa_cons (pv 0) pa_nil))) (pg_name (i := 5) sc.nd rfl (Or.inl rfl))
      (pss_one (ps_for PassesOwn.never rfl (pi_range1 rfl G.range (pa_cons (pe_callB call_len_seq (by rfl) G.len PySem.boot_len (pa_cons (pv 1) pa_nil)) pa_nil)) (pg_name (i := 6) sc.nd rfl (Or.inl rfl))
      (pss_one (ps_if (pt_val (pe_user H__law_dry (hr.mono (by decide)) rfl (pa_cons (pv 0) (pa_cons (pv 1) (pa_cons (pv 5) (pa_cons (pv 6) pa_nil)))))) (pss_one (ps_nput (hn10 (hu65 hr)) (pv 4) (pe_tup (pa_cons (pv 5) (pa_cons (pv 6) pa_nil))) (pe_ifExp (pt_cmpR (op_eqD hr.units) (pv 5) (pv 2) (nomark _)) pe_int (pv 3)) rfl)) pss_nil)))))
      (pss_cons (ps_set (i := 7) sc.nd rfl (Or.inl rfl) (pe_callTy (call_list_N' rfl) (by rfl) G.list (by decide +kernel) (pa_cons (pv 4) pa_nil)))
      (pss_cons (ps_for PassesOwn.never rfl (pi_range1 rfl G.range (pa_cons (pv 3) pa_nil)) (pg_name (i := 8) sc.nd rfl (Or.inl rfl))
      (pss_one (ps_for PassesOwn.never rfl (pi_list (pv 7)) (pg_tup rfl (pgs_cons (pg_name (i := 5) sc.nd rfl (Or.inl rfl)) (pgs_cons (pg_name (i := 6) sc.nd rfl (Or.inl rfl)) pgs_nil)))
      (pss_one (ps_for PassesOwn.never rfl (pi_list (pe_user H__law_stays (hr.mono (by decide)) rfl (pa_cons (pv 5) pa_nil))) (pg_name (i := 9) sc.nd rfl (Or.inl rfl))
      (pss_cons (ps_set (i := 10) sc.nd rfl (Or.inl rfl) (pe_nget2 (hn10 (hu65 hr)) (pv 4) (pe_tup (pa_cons (pv 9) (pa_cons (pe_op op_mod (pe_op op_add (pv 6) pe_int) (pe_callB call_len_seq (by rfl) G.len PySem.boot_len (pa_cons (pv 1) pa_nil))) pa_nil))) (pv 3) ⟨rfl, rfl, rfl, rfl⟩))
      (pss_one (ps_if (pt_cmpR op_gt (pe_nget (hn10 (hu65 hr)) (pv 4) (pe_tup (pa_cons (pv 5) (pa_cons (pv 6) pa_nil))) (fun _ _ => rfl)) (pe_op op_add (pv 10) pe_int) (nomark _)) (pss_one (ps_nput (hn10 (hu65 hr)) (pv 4) (pe_tup (pa_cons (pv 5) (pa_cons (pv 6) pa_nil))) (pe_op op_add (pv 10) pe_int) rfl)) pss_nil))))))))
      (pss_one (ps_ret (pe_lc (own := [("square", 5), ("index", 6)]) (g := gTup K 2 (gCons (gName 5) (gCons (gName 6) gNil))) (tt := tYes) rfl sc.nd (pi_list (pv 7)) (blkOk_by (N := N__law_left) (sc := defScope s__law_left) (by decide +kernel)) (fun _ _ _ _ _ => (pg_tup rfl (pgs_cons (pg_name (i := 5) sc.nd rfl (Or.inl rfl)) (pgs_cons (pg_name (i := 6) sc.nd rfl (Or.inl rfl)) pgs_nil)))) (fun _ _ _ _ _ => pts_nil) (fun _ _ _ _ _ => (pe_tup (pa_cons (pv 5) (pa_cons (pv 6) (pa_cons (pe_ngetK (P := P) (w := w) rfl rfl (hn10 (hu65 hr)) (pv 4) (pe_tup (pa_cons (pv 5) (pa_cons (pv 6) pa_nil))) (fun _ _ => rfl)) pa_nil)))))))))))), ?_⟩
    refine q_asg (W := W0) (ew_nnew (P := P) (w := w) (κ := (Sq × Int)) (β := Int)) g0.ok hm fun a1_left v_left W1 g1 ⟨fp_left, ho0_left, hf_left⟩ hm => ?_
    have hz_left : ∀ a ∈ fp_left, W0.H a = none := fun a m => g0.live a (hf_left a m).1
    have h_relief := PyI.st g1.st h_relief
    have h_tide := PyI.st g1.st h_tide
    have h_goal := PyI.st g1.st h_goal
    have h_number := PyI.st g1.st h_number
    have g0 := g0.trans g1
    have ho_left : Var (kN P w (Sq × Int) Int) W0 W1 fp_left a1_left v_left := ⟨ho0_left, hz_left, fun b m => (hf_left b m).2.2⟩
    refine q_forN (W := W1) tk_N (ev__law_all (ew_var (v := v_relief) rfl h_relief)) g0.ok hm fun xs2 p_it2 vs_it2 W2 g2 hn_it2 hF_it2 hp_it2 hr_it2 => ?_
    have dj_it2_left : ∀ b ∈ [p_it2], b ∉ fp_left := fun b m z => by cases mem_one m; exact (kN P w (Sq × Int) Int).live ho_left.own _ z hn_it2
    have nS_it2 : ¬ ef0.S p_it2 := fun z => g0.ok.S _ z hn_it2
    have h_relief := PyI.st g2.st h_relief
    have h_tide := PyI.st g2.st h_tide
    have h_goal := PyI.st g2.st h_goal
    have h_number := PyI.st g2.st h_number
    have ho_left := ho_left.go g00 g2
    have g0 := g0.trans g2
    refine ⟨fun y σ' W' => ∃ (v_left : V) (fp_left : List Addr) (o_square : Option V) (o_index : Option V), σ' = [some v_relief, some v_tide, some v_goal, some v_number, some v_left, o_square, o_index, none, none, none, none] ∧ Gw ef0 W0 W' ∧ St W2 W' ∧ Var (kN P w (Sq × Int) Int) W0 W' fp_left y v_left ∧ W'.H p_it2 = some (.lst vs_it2) ∧ (∀ b ∈ [p_it2], b ∉ fp_left), ⟨v_left, fp_left, _, _, rfl, g0, (St.refl _), ho_left, hp_it2, dj_it2_left⟩, fun _ _ _ hI => ?_, fun c2 y2 σi s2 Wi2 R2 nx2 ht hI hm kn2 kb2 kr2 => ?_, fun z2 σi Wi2 hI hm => ?_⟩
    · obtain ⟨v_left, fp_left, o_square, o_index, rfl, g0, sl2, ho_left, hp_it2, dj_it2_left⟩ := hI
      exact ⟨sl2, hp_it2⟩
    ·
      obtain ⟨v_left, fp_left, o_square, o_index, rfl, g0, sl2, ho_left, hp_it2, dj_it2_left⟩ := hI
      have h_relief := PyI.st sl2 h_relief
      have h_tide := PyI.st sl2 h_tide
      have h_goal := PyI.st sl2 h_goal
      have h_number := PyI.st sl2 h_number
      obtain ⟨v_square, rfl, h_square⟩ := ht
      refine st_forR1 (W := Wi2) (ew_lenT (ew_var (v := v_tide) rfl h_tide)) g0.ok hm fun W3 g3 => ?_
      have h_relief := PyI.st g3.st h_relief
      have h_tide := PyI.st g3.st h_tide
      have h_goal := PyI.st g3.st h_goal
      have h_number := PyI.st g3.st h_number
      have ho_left := ho_left.go g00 g3
      have h_square := PyI.st g3.st h_square
      have sl2 := sl2.trans g3.st
      have hp_it2 := g3.keep _ _ hp_it2 nS_it2
      have g0 := g0.trans g3
      refine ⟨fun y σ' W' => ∃ (v_left : V) (fp_left : List Addr) (o_index : Option V), σ' = [some v_relief, some v_tide, some v_goal, some v_number, some v_left, some v_square, o_index, none, none, none, none] ∧ Gw ef0 W0 W' ∧ St W3 W' ∧ Var (kN P w (Sq × Int) Int) W0 W' fp_left y v_left ∧ W'.H p_it2 = some (.lst vs_it2) ∧ (∀ b ∈ [p_it2], b ∉ fp_left), ⟨v_left, fp_left, _, rfl, g0, (St.refl _), ho_left, hp_it2, dj_it2_left⟩, fun c3 y3 σi s2 Wi3 R3 nx3 ht hI hm kn3 kb3 kr3 => ?_, fun z3 σi Wi3 hI hm => ?_⟩
      ·
        obtain ⟨v_left, fp_left, o_index, rfl, g0, sl3, ho_left, hp_it2, dj_it2_left⟩ := hI
        have h_relief := PyI.st sl3 h_relief
        have h_tide := PyI.st sl3 h_tide
        have h_goal := PyI.st sl3 h_goal
        have h_number := PyI.st sl3 h_number
        have h_square := PyI.st sl3 h_square
        have sl2 := sl2.trans sl3
        obtain ⟨v_index, rfl, h_index⟩ := ht
        refine st_join (W := Wi3) (s := (List ((Sq × Int) × Int))) (fun y σ' W' => ∃ (v_left : V) (fp_left : List Addr), σ' = [some v_relief, some v_tide, some v_goal, some v_number, some v_left, some v_square, some v_index, none, none, none, none] ∧ Gw ef0 W0 W' ∧ St Wi3 W' ∧ Var (kN P w (Sq × Int) Int) W0 W' fp_left y v_left ∧ W'.H p_it2 = some (.lst vs_it2) ∧ (∀ b ∈ [p_it2], b ∉ fp_left)) (et_B (ev__law_dry (ew_var (v := v_relief) rfl h_relief) (ew_var (v := v_tide) rfl h_tide) (ew_var (v := v_square) rfl h_square) (ew_var (v := v_index) rfl h_index))) g0.ok hm (fun y4 σj Wj4 hI hm => ?_) (fun W4 R4 g4 hm kj => ?_) (fun W4 R4 g4 hm kj => ?_)
        ·
          obtain ⟨v_left, fp_left, rfl, g0, sj4, ho_left, hp_it2, dj_it2_left⟩ := hI
          have h_relief := PyI.st sj4 h_relief
          have h_tide := PyI.st sj4 h_tide
          have h_goal := PyI.st sj4 h_goal
          have h_number := PyI.st sj4 h_number
          have h_square := PyI.st sj4 h_square
          have h_index := PyI.st sj4 h_index
          have sl2 := sl2.trans sj4
          have sl3 := sl3.trans sj4
          exact kn3 y4 _ Wj4 ⟨v_left, fp_left, _, rfl, g0, sl3, ho_left, hp_it2, dj_it2_left⟩ hm
        ·
          have h_relief := PyI.st g4.st h_relief
          have h_tide := PyI.st g4.st h_tide
          have h_goal := PyI.st g4.st h_goal
          have h_number := PyI.st g4.st h_number
          have ho_left := ho_left.go g00 g4
          have h_square := PyI.st g4.st h_square
          have h_index := PyI.st g4.st h_index
          have sl2 := sl2.trans g4.st
          have sl3 := sl3.trans g4.st
          have hp_it2 := g4.keep _ _ hp_it2 nS_it2
          have g0 := g0.trans g4
          have sj4 := g4.st
          refine st_nput (W := W4) g00 g0 rfl ho_left (ew_ifE (et_t (ew_eqD (ew_var (v := v_square) rfl h_square) (ew_var (v := v_goal) rfl h_goal))) ew_int (ew_var (v := v_number) rfl h_number)) (ew_pair (ew_var (v := v_square) rfl h_square) (ew_var (v := v_index) rfl h_index)) hm fun a5_left W5_ W5 l_left el_left g5 s g02 kk ff ho_left hm => ?_
          have h_relief := PyI.st g5.st h_relief
          have h_tide := PyI.st g5.st h_tide
          have h_goal := PyI.st g5.st h_goal
          have h_number := PyI.st g5.st h_number
          have h_square := PyI.st g5.st h_square
          have h_index := PyI.st g5.st h_index
          have sl2 := sl2.trans g5.st
          have sl3 := sl3.trans g5.st
          have sj4 := sj4.trans g5.st
          have hp_it2 := g5.keep _ _ hp_it2 nS_it2
          have g0 := g0.trans g5
          have h_relief := PyI.st s h_relief
          have h_tide := PyI.st s h_tide
          have h_goal := PyI.st s h_goal
          have h_number := PyI.st s h_number
          have h_square := PyI.st s h_square
          have h_index := PyI.st s h_index
          have sl2 := sl2.trans s
          have sl3 := sl3.trans s
          have sj4 := sj4.trans s
          have hp_it2 := kk [p_it2] _ Kp.refl dj_it2_left _ (List.mem_singleton.mpr rfl) _ hp_it2
          have g0 := g02
          exact kj a5_left _ W5 ⟨v_left, fp_left, rfl, g0, sj4, ho_left, hp_it2, dj_it2_left⟩ hm
        ·
          have h_relief := PyI.st g4.st h_relief
          have h_tide := PyI.st g4.st h_tide
          have h_goal := PyI.st g4.st h_goal
          have h_number := PyI.st g4.st h_number
          have ho_left := ho_left.go g00 g4
          have h_square := PyI.st g4.st h_square
          have h_index := PyI.st g4.st h_index
          have sl2 := sl2.trans g4.st
          have sl3 := sl3.trans g4.st
          have hp_it2 := g4.keep _ _ hp_it2 nS_it2
          have g0 := g0.trans g4
          have sj4 := g4.st
          refine st_next ?_
          exact kj y3 _ W4 ⟨v_left, fp_left, rfl, g0, sj4, ho_left, hp_it2, dj_it2_left⟩ hm
      ·
        obtain ⟨v_left, fp_left, o_index, rfl, g0, sl3, ho_left, hp_it2, dj_it2_left⟩ := hI
        have h_relief := PyI.st sl3 h_relief
        have h_tide := PyI.st sl3 h_tide
        have h_goal := PyI.st sl3 h_goal
        have h_number := PyI.st sl3 h_number
        have h_square := PyI.st sl3 h_square
        have sl2 := sl2.trans sl3
        exact kn2 z3 _ Wi3 ⟨v_left, fp_left, _, _, rfl, g0, sl2, ho_left, hp_it2, dj_it2_left⟩ hm
    ·
      obtain ⟨v_left, fp_left, o_square, o_index, rfl, g0, sl2, ho_left, hp_it2, dj_it2_left⟩ := hI
      have h_relief := PyI.st sl2 h_relief
      have h_tide := PyI.st sl2 h_tide
      have h_goal := PyI.st sl2 h_goal
      have h_number := PyI.st sl2 h_number
      first | refine norm_st (σ' := [some v_relief, some v_tide, some v_goal, some v_number, some v_left, o_square, o_index, none, none, none, none]) rfl ?_ | skip
      refine q_asg (W := Wi2) (ew_nkeys (ew_nr (ew_varR (v := v_left) rfl (Var.nS g00 ho_left) ho_left.own))) g0.ok hm fun a6_pairs v_pairs W6 g6 ⟨fp_pairs, ho0_pairs, hf_pairs⟩ hm => ?_
      have dj_left_pairs : ∀ b ∈ fp_left, b ∉ fp_pairs := fun b m z => (kN P w (Sq × Int) Int).live ho_left.own b m (hf_pairs b z).1
      have hz_pairs : ∀ a ∈ fp_pairs, W0.H a = none := fun a m => g0.live a (hf_pairs a m).1
      have h_relief := PyI.st g6.st h_relief
      have h_tide := PyI.st g6.st h_tide
      have h_goal := PyI.st g6.st h_goal
      have h_number := PyI.st g6.st h_number
      have ho_left := ho_left.go g00 g6
      have g0 := g0.trans g6
      have ho_pairs : Var (kL (Sq × Int)) W0 W6 fp_pairs a6_pairs v_pairs := ⟨ho0_pairs, hz_pairs, fun b m => (hf_pairs b m).2.2⟩
      refine q_forR1 (W := W6) (ew_var (v := v_number) rfl h_number) g0.ok hm fun W7 g7 => ?_
      have h_relief := PyI.st g7.st h_relief
      have h_tide := PyI.st g7.st h_tide
      have h_goal := PyI.st g7.st h_goal
      have h_number := PyI.st g7.st h_number
      have ho_left := ho_left.go g00 g7
      have ho_pairs := ho_pairs.go g00 g7
      have g0 := g0.trans g7
      refine ⟨fun y σ' W' => ∃ (v_left : V) (fp_left : List Addr) (o_square : Option V) (o_index : Option V) (o_turn : Option V) (o_other : Option V) (o_beside : Option V), σ' = [some v_relief, some v_tide, some v_goal, some v_number, some v_left, o_square, o_index, some v_pairs, o_turn, o_other, o_beside] ∧ Gw ef0 W0 W' ∧ St W7 W' ∧ Var (kN P w (Sq × Int) Int) W0 W' fp_left y v_left ∧ Var (kL (Sq × Int)) W0 W' fp_pairs a6_pairs v_pairs ∧ (∀ b ∈ fp_left, b ∉ fp_pairs), ⟨v_left, fp_left, _, _, _, _, _, rfl, g0, (St.refl _), ho_left, ho_pairs, dj_left_pairs⟩, fun c7 y7 σi s2 Wi7 R7 nx7 ht hI hm kn7 kb7 kr7 => ?_, fun z7 σi Wi7 hI hm => ?_⟩
      ·
        obtain ⟨v_left, fp_left, o_square, o_index, o_turn, o_other, o_beside, rfl, g0, sl7, ho_left, ho_pairs, dj_left_pairs⟩ := hI
        have h_relief := PyI.st sl7 h_relief
        have h_tide := PyI.st sl7 h_tide
        have h_goal := PyI.st sl7 h_goal
        have h_number := PyI.st sl7 h_number
        obtain ⟨v_turn, rfl, h_turn⟩ := ht
        obtain ⟨p_it8, vs_it8, ef_it8, ev_it8, hp_it8, hr_it8⟩ := own_list ho_pairs.own
        have nS_it8 := (Var.nS g00 ho_pairs) p_it8 (by rw [ef_it8]; exact List.mem_singleton.mpr rfl)
        have dj_it8_left : ∀ b ∈ [p_it8], b ∉ fp_left := by rw [← ef_it8]; exact (fun b m z => dj_left_pairs b z m)
        refine st_forV (W := Wi7) tk_P (by rw [← ev_it8]; rfl) hp_it8 hr_it8 hm (fun y σ' W' => ∃ (v_left : V) (fp_left : List Addr) (o_square : Option V) (o_index : Option V) (o_other : Option V) (o_beside : Option V), σ' = [some v_relief, some v_tide, some v_goal, some v_number, some v_left, o_square, o_index, some v_pairs, some v_turn, o_other, o_beside] ∧ Gw ef0 W0 W' ∧ St Wi7 W' ∧ Var (kN P w (Sq × Int) Int) W0 W' fp_left y v_left ∧ Var (kL (Sq × Int)) W0 W' fp_pairs a6_pairs v_pairs ∧ W'.H p_it8 = some (.lst vs_it8) ∧ (∀ b ∈ [p_it8], b ∉ fp_left) ∧ (∀ b ∈ fp_left, b ∉ fp_pairs)) ⟨v_left, fp_left, _, _, _, _, rfl, g0, (St.refl _), ho_left, ho_pairs, hp_it8, dj_it8_left, dj_left_pairs⟩ (fun _ _ _ hI => ?_) (fun c8 y8 σi s2 Wi8 R8 nx8 ht hI hm kn8 kb8 kr8 => ?_) (fun z8 σi Wi8 hI hm => ?_)
        · obtain ⟨v_left, fp_left, o_square, o_index, o_other, o_beside, rfl, g0, sl8, ho_left, ho_pairs, hp_it8, dj_it8_left, dj_left_pairs⟩ := hI
          exact ⟨sl8, hp_it8⟩
        ·
          obtain ⟨v_left, fp_left, o_square, o_index, o_other, o_beside, rfl, g0, sl8, ho_left, ho_pairs, hp_it8, dj_it8_left, dj_left_pairs⟩ := hI
          have h_relief := PyI.st sl8 h_relief
          have h_tide := PyI.st sl8 h_tide
          have h_goal := PyI.st sl8 h_goal
          have h_number := PyI.st sl8 h_number
          have h_turn := PyI.st sl8 h_turn
          have sl7 := sl7.trans sl8
          obtain ⟨v_square, v_index, rfl, h_square, h_index⟩ := ht
          refine st_forN (W := Wi8) tk_N (ev__law_stays (ew_var (v := v_square) rfl h_square)) g0.ok hm fun xs9 p_it9 vs_it9 W9 g9 hn_it9 hF_it9 hp_it9 hr_it9 => ?_
          have dj_it9_left : ∀ b ∈ [p_it9], b ∉ fp_left := fun b m z => by cases mem_one m; exact (kN P w (Sq × Int) Int).live ho_left.own _ z hn_it9
          have dj_it9_pairs : ∀ b ∈ [p_it9], b ∉ fp_pairs := fun b m z => by cases mem_one m; exact (kL (Sq × Int)).live ho_pairs.own _ z hn_it9
          have nS_it9 : ¬ ef0.S p_it9 := fun z => g0.ok.S _ z hn_it9
          have h_relief := PyI.st g9.st h_relief
          have h_tide := PyI.st g9.st h_tide
          have h_goal := PyI.st g9.st h_goal
          have h_number := PyI.st g9.st h_number
          have ho_left := ho_left.go g00 g9
          have h_square := PyI.st g9.st h_square
          have h_index := PyI.st g9.st h_index
          have ho_pairs := ho_pairs.go g00 g9
          have h_turn := PyI.st g9.st h_turn
          have sl7 := sl7.trans g9.st
          have sl8 := sl8.trans g9.st
          have hp_it8 := g9.keep _ _ hp_it8 nS_it8
          have g0 := g0.trans g9
          refine ⟨fun y σ' W' => ∃ (v_left : V) (fp_left : List Addr) (o_other : Option V) (o_beside : Option V), σ' = [some v_relief, some v_tide, some v_goal, some v_number, some v_left, some v_square, some v_index, some v_pairs, some v_turn, o_other, o_beside] ∧ Gw ef0 W0 W' ∧ St W9 W' ∧ Var (kN P w (Sq × Int) Int) W0 W' fp_left y v_left ∧ Var (kL (Sq × Int)) W0 W' fp_pairs a6_pairs v_pairs ∧ W'.H p_it8 = some (.lst vs_it8) ∧ W'.H p_it9 = some (.lst vs_it9) ∧ (∀ b ∈ [p_it8], b ∉ fp_left) ∧ (∀ b ∈ [p_it9], b ∉ fp_left) ∧ (∀ b ∈ fp_left, b ∉ fp_pairs), ⟨v_left, fp_left, _, _, rfl, g0, (St.refl _), ho_left, ho_pairs, hp_it8, hp_it9, dj_it8_left, dj_it9_left, dj_left_pairs⟩, fun _ _ _ hI => ?_, fun c9 y9 σi s2 Wi9 R9 nx9 ht hI hm kn9 kb9 kr9 => ?_, fun z9 σi Wi9 hI hm => ?_⟩
          · obtain ⟨v_left, fp_left, o_other, o_beside, rfl, g0, sl9, ho_left, ho_pairs, hp_it8, hp_it9, dj_it8_left, dj_it9_left, dj_left_pairs⟩ := hI
            exact ⟨sl9, hp_it9⟩
          ·
            obtain ⟨v_left, fp_left, o_other, o_beside, rfl, g0, sl9, ho_left, ho_pairs, hp_it8, hp_it9, dj_it8_left, dj_it9_left, dj_left_pairs⟩ := hI
            have h_relief := PyI.st sl9 h_relief
            have h_tide := PyI.st sl9 h_tide
            have h_goal := PyI.st sl9 h_goal
            have h_number := PyI.st sl9 h_number
            have h_square := PyI.st sl9 h_square
            have h_index := PyI.st sl9 h_index
            have h_turn := PyI.st sl9 h_turn
            have sl7 := sl7.trans sl9
            have sl8 := sl8.trans sl9
            obtain ⟨v_other, rfl, h_other⟩ := ht
            refine q_asg (W := Wi9) (ew_ngetD (ew_nr (ew_varR (v := v_left) rfl (Var.nS g00 ho_left) ho_left.own)) (ew_pair (ew_var (v := v_other) rfl h_other) (ew_mod (ew_add (ew_var (v := v_index) rfl h_index) ew_int) (ew_lenT (ew_var (v := v_tide) rfl h_tide)))) (ew_var (v := v_number) rfl h_number)) g0.ok hm fun a10_beside v_beside W10 g10 h_beside hm => ?_
            have h_relief := PyI.st g10.st h_relief
            have h_tide := PyI.st g10.st h_tide
            have h_goal := PyI.st g10.st h_goal
            have h_number := PyI.st g10.st h_number
            have ho_left := ho_left.go g00 g10
            have h_square := PyI.st g10.st h_square
            have h_index := PyI.st g10.st h_index
            have ho_pairs := ho_pairs.go g00 g10
            have h_turn := PyI.st g10.st h_turn
            have h_other := PyI.st g10.st h_other
            have sl7 := sl7.trans g10.st
            have sl8 := sl8.trans g10.st
            have sl9 := sl9.trans g10.st
            have hp_it8 := g10.keep _ _ hp_it8 nS_it8
            have hp_it9 := g10.keep _ _ hp_it9 nS_it9
            have g0 := g0.trans g10
            first | refine norm_st (σ' := [some v_relief, some v_tide, some v_goal, some v_number, some v_left, some v_square, some v_index, some v_pairs, some v_turn, some v_other, some v_beside]) rfl ?_ | skip
            refine st_join (W := W10) (s := (List ((Sq × Int) × Int))) (fun y σ' W' => ∃ (v_left : V) (fp_left : List Addr), σ' = [some v_relief, some v_tide, some v_goal, some v_number, some v_left, some v_square, some v_index, some v_pairs, some v_turn, some v_other, some v_beside] ∧ Gw ef0 W0 W' ∧ St W10 W' ∧ Var (kN P w (Sq × Int) Int) W0 W' fp_left y v_left ∧ Var (kL (Sq × Int)) W0 W' fp_pairs a6_pairs v_pairs ∧ W'.H p_it8 = some (.lst vs_it8) ∧ W'.H p_it9 = some (.lst vs_it9) ∧ (∀ b ∈ [p_it8], b ∉ fp_left) ∧ (∀ b ∈ [p_it9], b ∉ fp_left) ∧ (∀ b ∈ fp_left, b ∉ fp_pairs)) (et_t (ew_gt (ew_nget (ew_nr (ew_varR (v := v_left) rfl (Var.nS g00 ho_left) ho_left.own)) (ew_pair (ew_var (v := v_square) rfl h_square) (ew_var (v := v_index) rfl h_index))) (ew_add (ew_var (v := v_beside) rfl h_beside) ew_int))) g0.ok hm (fun y11 σj Wj11 hI hm => ?_) (fun W11 R11 g11 hm kj => ?_) (fun W11 R11 g11 hm kj => ?_)
            ·
              obtain ⟨v_left, fp_left, rfl, g0, sj11, ho_left, ho_pairs, hp_it8, hp_it9, dj_it8_left, dj_it9_left, dj_left_pairs⟩ := hI
              have h_relief := PyI.st sj11 h_relief
              have h_tide := PyI.st sj11 h_tide
              have h_goal := PyI.st sj11 h_goal
              have h_number := PyI.st sj11 h_number
              have h_square := PyI.st sj11 h_square
              have h_index := PyI.st sj11 h_index
              have h_turn := PyI.st sj11 h_turn
              have h_other := PyI.st sj11 h_other
              have h_beside := PyI.st sj11 h_beside
              have sl7 := sl7.trans sj11
              have sl8 := sl8.trans sj11
              have sl9 := sl9.trans sj11
              exact kn9 y11 _ Wj11 ⟨v_left, fp_left, _, _, rfl, g0, sl9, ho_left, ho_pairs, hp_it8, hp_it9, dj_it8_left, dj_it9_left, dj_left_pairs⟩ hm
            ·
              have h_relief := PyI.st g11.st h_relief
              have h_tide := PyI.st g11.st h_tide
              have h_goal := PyI.st g11.st h_goal
              have h_number := PyI.st g11.st h_number
              have ho_left := ho_left.go g00 g11
              have h_square := PyI.st g11.st h_square
              have h_index := PyI.st g11.st h_index
              have ho_pairs := ho_pairs.go g00 g11
              have h_turn := PyI.st g11.st h_turn
              have h_other := PyI.st g11.st h_other
              have h_beside := PyI.st g11.st h_beside
              have sl7 := sl7.trans g11.st
              have sl8 := sl8.trans g11.st
              have sl9 := sl9.trans g11.st
              have hp_it8 := g11.keep _ _ hp_it8 nS_it8
              have hp_it9 := g11.keep _ _ hp_it9 nS_it9
              have g0 := g0.trans g11
              have sj11 := g11.st
              refine st_nput (W := W11) g00 g0 rfl ho_left (ew_add (ew_var (v := v_beside) rfl h_beside) ew_int) (ew_pair (ew_var (v := v_square) rfl h_square) (ew_var (v := v_index) rfl h_index)) hm fun a12_left W12_ W12 l_left el_left g12 s g02 kk ff ho_left hm => ?_
              have h_relief := PyI.st g12.st h_relief
              have h_tide := PyI.st g12.st h_tide
              have h_goal := PyI.st g12.st h_goal
              have h_number := PyI.st g12.st h_number
              have h_square := PyI.st g12.st h_square
              have h_index := PyI.st g12.st h_index
              have ho_pairs := ho_pairs.go g00 g12
              have h_turn := PyI.st g12.st h_turn
              have h_other := PyI.st g12.st h_other
              have h_beside := PyI.st g12.st h_beside
              have sl7 := sl7.trans g12.st
              have sl8 := sl8.trans g12.st
              have sl9 := sl9.trans g12.st
              have sj11 := sj11.trans g12.st
              have hp_it8 := g12.keep _ _ hp_it8 nS_it8
              have hp_it9 := g12.keep _ _ hp_it9 nS_it9
              have g0 := g0.trans g12
              have h_relief := PyI.st s h_relief
              have h_tide := PyI.st s h_tide
              have h_goal := PyI.st s h_goal
              have h_number := PyI.st s h_number
              have h_square := PyI.st s h_square
              have h_index := PyI.st s h_index
              have ho_pairs := ho_pairs.kept s kk ff (fun b m z => dj_left_pairs b z m)
              have h_turn := PyI.st s h_turn
              have h_other := PyI.st s h_other
              have h_beside := PyI.st s h_beside
              have sl7 := sl7.trans s
              have sl8 := sl8.trans s
              have sl9 := sl9.trans s
              have sj11 := sj11.trans s
              have hp_it8 := kk [p_it8] _ Kp.refl dj_it8_left _ (List.mem_singleton.mpr rfl) _ hp_it8
              have hp_it9 := kk [p_it9] _ Kp.refl dj_it9_left _ (List.mem_singleton.mpr rfl) _ hp_it9
              have g0 := g02
              exact kj a12_left _ W12 ⟨v_left, fp_left, rfl, g0, sj11, ho_left, ho_pairs, hp_it8, hp_it9, dj_it8_left, dj_it9_left, dj_left_pairs⟩ hm
            ·
              have h_relief := PyI.st g11.st h_relief
              have h_tide := PyI.st g11.st h_tide
              have h_goal := PyI.st g11.st h_goal
              have h_number := PyI.st g11.st h_number
              have ho_left := ho_left.go g00 g11
              have h_square := PyI.st g11.st h_square
              have h_index := PyI.st g11.st h_index
              have ho_pairs := ho_pairs.go g00 g11
              have h_turn := PyI.st g11.st h_turn
              have h_other := PyI.st g11.st h_other
              have h_beside := PyI.st g11.st h_beside
              have sl7 := sl7.trans g11.st
              have sl8 := sl8.trans g11.st
              have sl9 := sl9.trans g11.st
              have hp_it8 := g11.keep _ _ hp_it8 nS_it8
              have hp_it9 := g11.keep _ _ hp_it9 nS_it9
              have g0 := g0.trans g11
              have sj11 := g11.st
              refine st_next ?_
              exact kj y9 _ W11 ⟨v_left, fp_left, rfl, g0, sj11, ho_left, ho_pairs, hp_it8, hp_it9, dj_it8_left, dj_it9_left, dj_left_pairs⟩ hm
          ·
            obtain ⟨v_left, fp_left, o_other, o_beside, rfl, g0, sl9, ho_left, ho_pairs, hp_it8, hp_it9, dj_it8_left, dj_it9_left, dj_left_pairs⟩ := hI
            have h_relief := PyI.st sl9 h_relief
            have h_tide := PyI.st sl9 h_tide
            have h_goal := PyI.st sl9 h_goal
            have h_number := PyI.st sl9 h_number
            have h_square := PyI.st sl9 h_square
            have h_index := PyI.st sl9 h_index
            have h_turn := PyI.st sl9 h_turn
            have sl7 := sl7.trans sl9
            have sl8 := sl8.trans sl9
            exact kn8 z9 _ Wi9 ⟨v_left, fp_left, _, _, _, _, rfl, g0, sl8, ho_left, ho_pairs, hp_it8, dj_it8_left, dj_left_pairs⟩ hm
        ·
          obtain ⟨v_left, fp_left, o_square, o_index, o_other, o_beside, rfl, g0, sl8, ho_left, ho_pairs, hp_it8, dj_it8_left, dj_left_pairs⟩ := hI
          have h_relief := PyI.st sl8 h_relief
          have h_tide := PyI.st sl8 h_tide
          have h_goal := PyI.st sl8 h_goal
          have h_number := PyI.st sl8 h_number
          have h_turn := PyI.st sl8 h_turn
          have sl7 := sl7.trans sl8
          exact kn7 z8 _ Wi8 ⟨v_left, fp_left, _, _, _, _, _, rfl, g0, sl7, ho_left, ho_pairs, dj_left_pairs⟩ hm
      ·
        obtain ⟨v_left, fp_left, o_square, o_index, o_turn, o_other, o_beside, rfl, g0, sl7, ho_left, ho_pairs, dj_left_pairs⟩ := hI
        have h_relief := PyI.st sl7 h_relief
        have h_tide := PyI.st sl7 h_tide
        have h_goal := PyI.st sl7 h_goal
        have h_number := PyI.st sl7 h_number
        refine st_ret (W := Wi7) (ew_lcL (ew_varR (v := v_pairs) rfl (Var.nS g00 ho_pairs) ho_pairs.own) takes_P (fun _ _ _ h => by obtain ⟨v_square, v_index, ec, h_square, h_index⟩ := h; subst ec; rfl) (fun c1 Wc1 s2 gc1 h => by obtain ⟨v_square, v_index, ec, h_square, h_index⟩ := h; subst ec; have ho_left := ho_left.go g00 gc1; have ho_pairs := ho_pairs.go g00 gc1; exact et_yes) (fun c1 Wc1 s2 gc1 h => by obtain ⟨v_square, v_index, ec, h_square, h_index⟩ := h; subst ec; have ho_left := ho_left.go g00 gc1; have ho_pairs := ho_pairs.go g00 gc1; exact (ew_tri (ew_var (v := v_square) rfl h_square) (ew_var (v := v_index) rfl h_index) (ew_nget (ew_nr (ew_varR (v := v_left) rfl (Var.nS g00 ho_left) ho_left.own)) (ew_pair (ew_var (v := v_square) rfl h_square) (ew_var (v := v_index) rfl h_index)))))) g0.ok hm fun r13 v_ret W13 g13 hp hm => ?_
        exact hm v_ret W13 (g0.trans g13) rfl ((sN (kL (Tri Sq Int Int))).back g0 hp)
abbrev s__law_rights : Stmt := top 31
abbrev N__law_rights : List Str := ["relief", "tide", "paper", "damp", "square", "index", "rights", "triple"]
abbrev P__law_rights : List Str := ["relief", "tide", "paper"]
theorem sc__law_rights : FnScope N__law_rights P__law_rights (defScope s__law_rights) := ⟨rfl, rfl, rfl, by decide +kernel, rfl, by decide +kernel, by decide +kernel⟩
def m__law_rights (a_relief : (List Str)) (a_tide : (List Int)) (a_paper : (Ls (Tri Sq Int Int))) : WP (List (Ls (Tri Sq Int Int))) := (WP.row (WP.pure ([] : List (Tri Sq Int Int)))).bind fun a1_damp => (WP.b1 (WP.pure a_relief) m__law_all).bind fun xs2 => WP.after (WP.loop (γ := (List (Ls (Tri Sq Int Int)))) (fun c2 (y2 : (List (Tri Sq Int Int))) => (WP.range1 (WP.len (WP.pure a_tide))).bind fun xs3 => WP.after (WP.loop (γ := (List (Ls (Tri Sq Int Int)))) (fun c3 (y3 : (List (Tri Sq Int Int))) => ((WP.not (WP.b4 (WP.pure a_relief) (WP.pure a_tide) (WP.pure c2) (WP.pure c3) m__law_dry)).bind fun b => WP.cond b (((WP.tri (WP.pure c2) (WP.pure c3) (WP.mul (WP.add (WP.add (WP.fst (WP.pure c2)) (WP.mul (WP.pure (2 : Int)) (WP.snd (WP.pure c2)))) (WP.pure c3)) (WP.pure (5 : Int)))).bind fun a => WP.req (y3.length < 100000) (y3 ++ [a])).bind fun a5_damp => (WP.pure a5_damp)) ((WP.pure y3))).bind fun (y4 : (List (Tri Sq Int Int))) => (WP.pure (.nx y4))) xs3 y2) (fun (z3 : (List (Tri Sq Int Int))) => (WP.pure (.nx z3))) (fun r => (WP.pure (.rt r)))) xs2 a1_damp) (fun (z2 : (List (Tri Sq Int Int))) => (WP.row (WP.consE (WP.pure a_paper) (WP.consE ((((WP.pure a_paper).bind fun x => WP.pure x.l).bind fun xs => WP.pure xs.reverse).bind fun xs => WP.pure (⟨xs⟩ : (Ls (Tri Sq Int Int)))) (WP.consE ((WP.lc ((WP.pure a_paper).bind fun x => WP.pure x.l) (fun c1 => (WP.gt ((WP.pure c1).bind fun c => WP.pure c.c) (WP.pure (0 : Int)))) (fun c1 => (WP.pure c1))).bind fun xs => WP.pure (⟨xs⟩ : (Ls (Tri Sq Int Int)))) (WP.pure ([] : List (Ls (Tri Sq Int Int)))))))).bind fun a6_rights => (WP.cat (WP.pure a6_rights) (WP.row (WP.consE ((WP.cat ((WP.pure a_paper).bind fun x => WP.pure x.l) (WP.pure z2)).bind fun xs => WP.pure (⟨xs⟩ : (Ls (Tri Sq Int Int)))) (WP.consE ((WP.cat (WP.cut (WP.pure z2) (WP.pure none) ((WP.pure (3 : Int)).bind fun x => WP.pure (some x))) ((WP.pure a_paper).bind fun x => WP.pure x.l)).bind fun xs => WP.pure (⟨xs⟩ : (Ls (Tri Sq Int Int)))) (WP.pure ([] : List (Ls (Tri Sq Int Int)))))))).bind fun r7 => (WP.pure r7)) (fun r => (WP.pure r))
def sp__law_rights : Sp := fun vs H Q _ => ∃ (W : Wo) (a_relief : (List Str)) (a_tide : (List Int)) (a_paper : (Ls (Tri Sq Int Int))) (v_relief v_tide v_paper : V), vs = [v_relief, v_tide, v_paper] ∧ W.H = H ∧ Good ef0 W ∧ Rp W a_relief v_relief ∧ Rp W a_tide v_tide ∧ Rp W a_paper v_paper ∧ (m__law_rights a_relief a_tide a_paper).run W.n fun n r => ∀ v W', Gw ef0 W W' → W'.n = n → (sN (e := ef0) (kL (Ls (Tri Sq Int Int)))).post W W' r v → Q v W'.H
theorem ev__law_rights {e : Ef} {σ : L2.St} {W : Wo} {E : XK} {t0 t1 t2 : TE} {w0 : WP (List Str)} {w1 : WP (List Int)} {w2 : WP (Ls (Tri Sq Int Int))} (h0 : EvW e t0 σ W sI w0) (h1 : EvW e t1 σ W sI w1) (h2 : EvW e t2 σ W sI w2) : EvW e (tCall sp__law_rights [] E (tCons t0 (tCons t1 (tCons t2 tNil)))) σ W (sN (kL (Ls (Tri Sq Int Int)))) (WP.b3 w0 w1 w2 m__law_rights) := ew_call3N h0 h1 h2 fun W2 b0 b1 b2 x0 x1 x2 g2 r0 r1 r2 Q q E => by
  exact ⟨W2, b0, b1, b2, x0, x1, x2, rfl, rfl, g2.z, r0, r1, r2, WP.mono _ (fun n c h v W3 g3 hn p => h v W3 (Gw.up g2 g3) hn (sN_up g2 p)) q⟩
theorem ok__law_rights (F : At K mg "_law_rights" s__law_rights P__law_rights) (G : Glb mg) (H__law_all : Has P w K mg base "_law_all" 1 P__law_all sp__law_all) (H__law_dry : Has P w K mg base "_law_dry" 2 P__law_dry sp__law_dry) : Has P w K mg base "_law_rights" 3 P__law_rights sp__law_rights := by
  refine Has.of F sc__law_rights (fun vs H Q E h => ?_) (fun f cdv A outer s H0 vs Q E hr h => ?_)
  · obtain ⟨W0, a_relief, a_tide, a_paper, v_relief, v_tide, v_paper, rfl, _⟩ := h
    rfl
  · obtain ⟨W0, a_relief, a_tide, a_paper, v_relief, v_tide, v_paper, rfl, rfl, g00, h_relief, h_tide, h_paper, hm⟩ := h
    have sc := sc__law_rights
    have g0 := Gw.refl g00
    unfold m__law_rights at hm
    refine ⟨_, (pss_cons (ps_set (i := 3) sc.nd rfl (Or.inl rfl) (pe_lst pa_nil))
      (pss_cons (ps_for PassesOwn.never rfl (pi_list (pe_user H__law_all (hr.mono (by decide)) rfl (pa_cons (pv 0) pa_nil))) (pg_name (i := 4) sc.nd rfl (Or.inl rfl))
      (pss_one (ps_for PassesOwn.never rfl (pi_range1 rfl G.range (pa_cons (pe_callB call_len_seq (by rfl) G.len PySem.boot_len (pa_cons (pv 1) pa_nil)) pa_nil)) (pg_name (i := 5) sc.nd rfl (Or.inl rfl))
      (pss_one (ps_if (pt_not (pt_val (pe_user H__law_dry (hr.mono (by decide)) rfl (pa_cons (pv 0) (pa_cons (pv 1) (pa_cons (pv 4) (pa_cons (pv 5) pa_nil))))))) (pss_one (ps_expr (pe_bm PySem.F.plainAttrs_list PySem.F.slot_list_append PySem.F.type_list_append mt_append (pv 3) (pa_cons (pe_tup (pa_cons (pv 4) (pa_cons (pv 5) (pa_cons (pe_op op_mul (pe_op op_add (pe_op op_add (pe_ix ix_tup (pv 4) pe_int (fun _ _ => rfl)) (pe_op op_mul pe_int (pe_ix ix_tup (pv 4) pe_int (fun _ _ => rfl)))) (pv 5)) pe_int) pa_nil)))) pa_nil)))) pss_nil)))))
      (pss_cons (ps_set (i := 6) sc.nd rfl (Or.inl rfl) (pe_lst (pa_cons (pv 2) (pa_cons (pe_revL (pv 2)) (pa_cons (pe_lc (own := [("triple", 7)]) (g := gName 7) rfl sc.nd (pi_list (pv 2)) (blkOk_by (N := N__law_rights) (sc := defScope s__law_rights) (by decide +kernel)) (fun _ _ _ _ _ => (pg_name (i := 7) sc.nd rfl (Or.inl rfl))) (fun _ _ _ _ _ => (pts_one (pt_cmpR op_gt (pe_ix (ix_tupK (K := K) rfl) (pv 7) pe_int (fun _ _ => rfl)) pe_int (nomark _)))) (fun _ _ _ _ _ => (pv 7))) pa_nil)))))
      (pss_one (ps_ret (pe_op op_cat (pv 6) (pe_lst (pa_cons (pe_op op_cat (pv 2) (pv 3)) (pa_cons (pe_op op_cat (pe_slice sl_list (pv 3) po_none (po_some pe_int)) (pv 2)) pa_nil))))))))), ?_⟩
    refine q_asg (W := W0) (ew_lst (eas_nil (α := (Tri Sq Int Int)))) g0.ok hm fun a1_damp v_damp W1 g1 ⟨fp_damp, ho0_damp, hf_damp⟩ hm => ?_
    have hz_damp : ∀ a ∈ fp_damp, W0.H a = none := fun a m => g0.live a (hf_damp a m).1
    have h_relief := PyI.st g1.st h_relief
    have h_tide := PyI.st g1.st h_tide
    have h_paper := PyI.st g1.st h_paper
    have g0 := g0.trans g1
    have ho_damp : Var (kL (Tri Sq Int Int)) W0 W1 fp_damp a1_damp v_damp := ⟨ho0_damp, hz_damp, fun b m => (hf_damp b m).2.2⟩
    first | refine norm_st (σ' := [some v_relief, some v_tide, some v_paper, some v_damp, none, none, none, none]) rfl ?_ | skip
    refine q_forN (W := W1) tk_N (ev__law_all (ew_var (v := v_relief) rfl h_relief)) g0.ok hm fun xs2 p_it2 vs_it2 W2 g2 hn_it2 hF_it2 hp_it2 hr_it2 => ?_
    have dj_it2_damp : ∀ b ∈ [p_it2], b ∉ fp_damp := fun b m z => by cases mem_one m; exact (kL (Tri Sq Int Int)).live ho_damp.own _ z hn_it2
    have nS_it2 : ¬ ef0.S p_it2 := fun z => g0.ok.S _ z hn_it2
    have h_relief := PyI.st g2.st h_relief
    have h_tide := PyI.st g2.st h_tide
    have h_paper := PyI.st g2.st h_paper
    have ho_damp := ho_damp.go g00 g2
    have g0 := g0.trans g2
    refine ⟨fun y σ' W' => ∃ (v_damp : V) (fp_damp : List Addr) (o_square : Option V) (o_index : Option V), σ' = [some v_relief, some v_tide, some v_paper, some v_damp, o_square, o_index, none, none] ∧ Gw ef0 W0 W' ∧ St W2 W' ∧ Var (kL (Tri Sq Int Int)) W0 W' fp_damp y v_damp ∧ W'.H p_it2 = some (.lst vs_it2) ∧ (∀ b ∈ [p_it2], b ∉ fp_damp), ⟨v_damp, fp_damp, _, _, rfl, g0, (St.refl _), ho_damp, hp_it2, dj_it2_damp⟩, fun _ _ _ hI => ?_, fun c2 y2 σi s2 Wi2 R2 nx2 ht hI hm kn2 kb2 kr2 => ?_, fun z2 σi Wi2 hI hm => ?_⟩
    · obtain ⟨v_damp, fp_damp, o_square, o_index, rfl, g0, sl2, ho_damp, hp_it2, dj_it2_damp⟩ := hI
      exact ⟨sl2, hp_it2⟩
    ·
      obtain ⟨v_damp, fp_damp, o_square, o_index, rfl, g0, sl2, ho_damp, hp_it2, dj_it2_damp⟩ := hI
      have h_relief := PyI.st sl2 h_relief
      have h_tide := PyI.st sl2 h_tide
      have h_paper := PyI.st sl2 h_paper
      obtain ⟨v_square, rfl, h_square⟩ := ht
      refine st_forR1 (W := Wi2) (ew_lenT (ew_var (v := v_tide) rfl h_tide)) g0.ok hm fun W3 g3 => ?_
      have h_relief := PyI.st g3.st h_relief
      have h_tide := PyI.st g3.st h_tide
      have h_paper := PyI.st g3.st h_paper
      have ho_damp := ho_damp.go g00 g3
      have h_square := PyI.st g3.st h_square
      have sl2 := sl2.trans g3.st
      have hp_it2 := g3.keep _ _ hp_it2 nS_it2
      have g0 := g0.trans g3
      refine ⟨fun y σ' W' => ∃ (v_damp : V) (fp_damp : List Addr) (o_index : Option V), σ' = [some v_relief, some v_tide, some v_paper, some v_damp, some v_square, o_index, none, none] ∧ Gw ef0 W0 W' ∧ St W3 W' ∧ Var (kL (Tri Sq Int Int)) W0 W' fp_damp y v_damp ∧ W'.H p_it2 = some (.lst vs_it2) ∧ (∀ b ∈ [p_it2], b ∉ fp_damp), ⟨v_damp, fp_damp, _, rfl, g0, (St.refl _), ho_damp, hp_it2, dj_it2_damp⟩, fun c3 y3 σi s2 Wi3 R3 nx3 ht hI hm kn3 kb3 kr3 => ?_, fun z3 σi Wi3 hI hm => ?_⟩
      ·
        obtain ⟨v_damp, fp_damp, o_index, rfl, g0, sl3, ho_damp, hp_it2, dj_it2_damp⟩ := hI
        have h_relief := PyI.st sl3 h_relief
        have h_tide := PyI.st sl3 h_tide
        have h_paper := PyI.st sl3 h_paper
        have h_square := PyI.st sl3 h_square
        have sl2 := sl2.trans sl3
        obtain ⟨v_index, rfl, h_index⟩ := ht
        refine st_join (W := Wi3) (s := (List (Tri Sq Int Int))) (fun y σ' W' => ∃ (v_damp : V) (fp_damp : List Addr), σ' = [some v_relief, some v_tide, some v_paper, some v_damp, some v_square, some v_index, none, none] ∧ Gw ef0 W0 W' ∧ St Wi3 W' ∧ Var (kL (Tri Sq Int Int)) W0 W' fp_damp y v_damp ∧ W'.H p_it2 = some (.lst vs_it2) ∧ (∀ b ∈ [p_it2], b ∉ fp_damp)) (et_not (et_B (ev__law_dry (ew_var (v := v_relief) rfl h_relief) (ew_var (v := v_tide) rfl h_tide) (ew_var (v := v_square) rfl h_square) (ew_var (v := v_index) rfl h_index)))) g0.ok hm (fun y4 σj Wj4 hI hm => ?_) (fun W4 R4 g4 hm kj => ?_) (fun W4 R4 g4 hm kj => ?_)
        ·
          obtain ⟨v_damp, fp_damp, rfl, g0, sj4, ho_damp, hp_it2, dj_it2_damp⟩ := hI
          have h_relief := PyI.st sj4 h_relief
          have h_tide := PyI.st sj4 h_tide
          have h_paper := PyI.st sj4 h_paper
          have h_square := PyI.st sj4 h_square
          have h_index := PyI.st sj4 h_index
          have sl2 := sl2.trans sj4
          have sl3 := sl3.trans sj4
          exact kn3 y4 _ Wj4 ⟨v_damp, fp_damp, _, rfl, g0, sl3, ho_damp, hp_it2, dj_it2_damp⟩ hm
        ·
          have h_relief := PyI.st g4.st h_relief
          have h_tide := PyI.st g4.st h_tide
          have h_paper := PyI.st g4.st h_paper
          have ho_damp := ho_damp.go g00 g4
          have h_square := PyI.st g4.st h_square
          have h_index := PyI.st g4.st h_index
          have sl2 := sl2.trans g4.st
          have sl3 := sl3.trans g4.st
          have hp_it2 := g4.keep _ _ hp_it2 nS_it2
          have g0 := g0.trans g4
          have sj4 := g4.st
          refine st_app (W := W4) g00 g0 rfl ho_damp (ew_tri (ew_var (v := v_square) rfl h_square) (ew_var (v := v_index) rfl h_index) (ew_mul (ew_add (ew_add (ew_fst (ew_var (v := v_square) rfl h_square)) (ew_mul ew_int (ew_snd (ew_var (v := v_square) rfl h_square)))) (ew_var (v := v_index) rfl h_index)) ew_int)) hm fun a5_damp W5_ W5 l_damp el_damp g5 s g02 kk ff ho_damp hm => ?_
          have h_relief := PyI.st g5.st h_relief
          have h_tide := PyI.st g5.st h_tide
          have h_paper := PyI.st g5.st h_paper
          have h_square := PyI.st g5.st h_square
          have h_index := PyI.st g5.st h_index
          have sl2 := sl2.trans g5.st
          have sl3 := sl3.trans g5.st
          have sj4 := sj4.trans g5.st
          have hp_it2 := g5.keep _ _ hp_it2 nS_it2
          have g0 := g0.trans g5
          have h_relief := PyI.st s h_relief
          have h_tide := PyI.st s h_tide
          have h_paper := PyI.st s h_paper
          have h_square := PyI.st s h_square
          have h_index := PyI.st s h_index
          have sl2 := sl2.trans s
          have sl3 := sl3.trans s
          have sj4 := sj4.trans s
          have hp_it2 := kk [p_it2] _ Kp.refl dj_it2_damp _ (List.mem_singleton.mpr rfl) _ hp_it2
          have g0 := g02
          exact kj a5_damp _ W5 ⟨v_damp, fp_damp, rfl, g0, sj4, ho_damp, hp_it2, dj_it2_damp⟩ hm
        ·
          have h_relief := PyI.st g4.st h_relief
          have h_tide := PyI.st g4.st h_tide
          have h_paper := PyI.st g4.st h_paper
          have ho_damp := ho_damp.go g00 g4
          have h_square := PyI.st g4.st h_square
          have h_index := PyI.st g4.st h_index
          have sl2 := sl2.trans g4.st
          have sl3 := sl3.trans g4.st
          have hp_it2 := g4.keep _ _ hp_it2 nS_it2
          have g0 := g0.trans g4
          have sj4 := g4.st
          refine st_next ?_
          exact kj y3 _ W4 ⟨v_damp, fp_damp, rfl, g0, sj4, ho_damp, hp_it2, dj_it2_damp⟩ hm
      ·
        obtain ⟨v_damp, fp_damp, o_index, rfl, g0, sl3, ho_damp, hp_it2, dj_it2_damp⟩ := hI
        have h_relief := PyI.st sl3 h_relief
        have h_tide := PyI.st sl3 h_tide
        have h_paper := PyI.st sl3 h_paper
        have h_square := PyI.st sl3 h_square
        have sl2 := sl2.trans sl3
        exact kn2 z3 _ Wi3 ⟨v_damp, fp_damp, _, _, rfl, g0, sl2, ho_damp, hp_it2, dj_it2_damp⟩ hm
    ·
      obtain ⟨v_damp, fp_damp, o_square, o_index, rfl, g0, sl2, ho_damp, hp_it2, dj_it2_damp⟩ := hI
      have h_relief := PyI.st sl2 h_relief
      have h_tide := PyI.st sl2 h_tide
      have h_paper := PyI.st sl2 h_paper
      refine q_asg (W := Wi2) (ew_lst (eas_cons (ew_var (v := v_paper) rfl h_paper) (eas_cons (ew_frz (ew_revL (ew_ls (ew_var (v := v_paper) rfl h_paper)))) (eas_cons (ew_frz (ew_lcL (ew_ls (ew_var (v := v_paper) rfl h_paper)) takes_N (fun _ _ _ h => by obtain ⟨v_triple, ec, h_triple⟩ := h; subst ec; rfl) (fun c1 Wc1 s2 gc1 h => by obtain ⟨v_triple, ec, h_triple⟩ := h; subst ec; have h_paper := PyI.st gc1.st h_paper; exact (et_t (ew_gt (ew_R3_2 (ew_var (v := v_triple) rfl h_triple)) ew_int))) (fun c1 Wc1 s2 gc1 h => by obtain ⟨v_triple, ec, h_triple⟩ := h; subst ec; have h_paper := PyI.st gc1.st h_paper; exact (ew_var (v := v_triple) rfl h_triple)))) (eas_nil (α := (Ls (Tri Sq Int Int)))))))) g0.ok hm fun a6_rights v_rights W6 g6 ⟨fp_rights, ho0_rights, hf_rights⟩ hm => ?_
      have dj_damp_rights : ∀ b ∈ fp_damp, b ∉ fp_rights := fun b m z => (kL (Tri Sq Int Int)).live ho_damp.own b m (hf_rights b z).1
      have hz_rights : ∀ a ∈ fp_rights, W0.H a = none := fun a m => g0.live a (hf_rights a m).1
      have h_relief := PyI.st g6.st h_relief
      have h_tide := PyI.st g6.st h_tide
      have h_paper := PyI.st g6.st h_paper
      have ho_damp := ho_damp.go g00 g6
      have g0 := g0.trans g6
      have ho_rights : Var (kL (Ls (Tri Sq Int Int))) W0 W6 fp_rights a6_rights v_rights := ⟨ho0_rights, hz_rights, fun b m => (hf_rights b m).2.2⟩
      refine st_ret (W := W6) (ew_cat (ew_varR (v := v_rights) rfl (Var.nS g00 ho_rights) ho_rights.own) (ew_rd (ew_lst (eas_cons (ew_frz (ew_cat (ew_ls (ew_var (v := v_paper) rfl h_paper)) (ew_varR (v := v_damp) rfl (Var.nS g00 ho_damp) ho_damp.own))) (eas_cons (ew_frz (ew_cat (ew_rd (ew_slL (ew_varR (v := v_damp) rfl (Var.nS g00 ho_damp) ho_damp.own) eo_none (eo_some ew_int))) (ew_ls (ew_var (v := v_paper) rfl h_paper)))) (eas_nil (α := (Ls (Tri Sq Int Int))))))))) g0.ok hm fun r7 v_ret W7 g7 hp hm => ?_
      exact hm v_ret W7 (g0.trans g7) rfl ((sN (kL (Ls (Tri Sq Int Int)))).back g0 hp)
abbrev s__law_outs : Stmt := top 32
abbrev N__law_outs : List Str := ["deal", "relief", "tide", "paper", "square", "index", "own", "r", "c", "many", "outs", "rows", "columns", "other", "rest", "triple"]
abbrev P__law_outs : List Str := ["deal", "relief", "tide", "paper"]
theorem sc__law_outs : FnScope N__law_outs P__law_outs (defScope s__law_outs) := ⟨rfl, rfl, rfl, by decide +kernel, rfl, by decide +kernel, by decide +kernel⟩
def m__law_outs (_ : Unit) (a_relief : (List Str)) (a_tide : (List Int)) (a_paper : (Ls (Tri Sq Int Int))) : WP (List (Ls (Tri Sq Int Int))) := (WP.ix ((WP.pure a_paper).bind fun x => WP.pure x.l) (WP.b2 (WP.pure ()) (WP.len ((WP.pure a_paper).bind fun x => WP.pure x.l)) m_take)).bind fun a1 => (WP.pure a1.a).bind fun a2_r_c => (WP.len (WP.pure a_tide)).bind fun a3_many => (WP.row (WP.consE ((WP.cat ((WP.pure a_paper).bind fun x => WP.pure x.l) (WP.row (WP.consE (WP.tri (WP.pure a1.a) (WP.pure a1.b) (WP.pure a1.c)) (WP.pure ([] : List (Tri Sq Int Int)))))).bind fun xs => WP.pure (⟨xs⟩ : (Ls (Tri Sq Int Int)))) (WP.consE ((WP.cat (WP.row (WP.consE (WP.tri (WP.pure a1.a) (WP.pure a1.b) (WP.pure (0 : Int))) (WP.pure ([] : List (Tri Sq Int Int))))) ((WP.pure a_paper).bind fun x => WP.pure x.l)).bind fun xs => WP.pure (⟨xs⟩ : (Ls (Tri Sq Int Int)))) (WP.consE ((WP.cat ((WP.pure a_paper).bind fun x => WP.pure x.l) (WP.row (WP.consE (WP.tri (WP.pure a1.a) (WP.pure a1.b) (WP.add (WP.pure a1.c) (WP.pure (1 : Int)))) (WP.pure ([] : List (Tri Sq Int Int)))))).bind fun xs => WP.pure (⟨xs⟩ : (Ls (Tri Sq Int Int)))) (WP.pure ([] : List (Ls (Tri Sq Int Int)))))))).bind fun a4_outs => (WP.len (WP.pure a_relief)).bind fun a5_rows => (WP.lenS (WP.ix (WP.pure a_relief) (WP.pure (0 : Int)))).bind fun a6_columns => (WP.row (WP.consE (WP.pair (WP.sub (WP.pure a2_r_c.1) (WP.pure a5_rows)) (WP.pure a2_r_c.2)) (WP.consE (WP.pair (WP.pure a2_r_c.1) (WP.sub (WP.pure a2_r_c.2) (WP.pure a6_columns))) (WP.consE (WP.pair (WP.add (WP.pure a2_r_c.1) (WP.pure a5_rows)) (WP.pure a2_r_c.2)) (WP.consE (WP.pair (WP.pure a2_r_c.1) (WP.add (WP.pure a2_r_c.2) (WP.pure a6_columns))) (WP.consE (WP.pair (WP.sub (WP.pure (0 : Int)) (WP.pure (1 : Int))) (WP.sub (WP.pure (0 : Int)) (WP.pure (1 : Int)))) (WP.consE (WP.pair (WP.pure (41 : Int)) (WP.pure a2_r_c.2)) (WP.pure ([] : List Sq))))))))).bind fun xs7 => WP.after (WP.loop (γ := (List (Ls (Tri Sq Int Int)))) (fun c7 (y7 : (List (Ls (Tri Sq Int Int)))) => (((WP.cat ((WP.pure a_paper).bind fun x => WP.pure x.l) (WP.row (WP.consE (WP.tri (WP.pure c7) (WP.pure a1.b) (WP.pure (0 : Int))) (WP.pure ([] : List (Tri Sq Int Int)))))).bind fun xs => WP.pure (⟨xs⟩ : (Ls (Tri Sq Int Int)))).bind fun a => WP.req (y7.length < 100000) (y7 ++ [a])).bind fun a8_outs => (WP.pure (.nx a8_outs))) xs7 a4_outs) (fun (z7 : (List (Ls (Tri Sq Int Int)))) => (WP.row (WP.consE (WP.sub (WP.pure (0 : Int)) (WP.pure (1 : Int))) (WP.consE (WP.pure a3_many) (WP.consE (WP.sub (WP.pure a1.b) (WP.pure a3_many)) (WP.consE (WP.add (WP.pure a1.b) (WP.pure a3_many)) (WP.consE (WP.pure (99 : Int)) (WP.pure ([] : List Int)))))))).bind fun xs9 => WP.after (WP.loop (γ := (List (Ls (Tri Sq Int Int)))) (fun c9 (y9 : (List (Ls (Tri Sq Int Int)))) => (((WP.cat ((WP.pure a_paper).bind fun x => WP.pure x.l) (WP.row (WP.consE (WP.tri (WP.pure a1.a) (WP.pure c9) (WP.pure (0 : Int))) (WP.pure ([] : List (Tri Sq Int Int)))))).bind fun xs => WP.pure (⟨xs⟩ : (Ls (Tri Sq Int Int)))).bind fun a => WP.req (y9.length < 100000) (y9 ++ [a])).bind fun a10_outs => (WP.pure (.nx a10_outs))) xs9 z7) (fun (z9 : (List (Ls (Tri Sq Int Int)))) => (WP.lc ((WP.pure a_paper).bind fun x => WP.pure x.l) (fun c1 => (WP.neD ((WP.pure c1).bind fun c => WP.pure (c.a, c.b)) (WP.pair (WP.pure a1.a) (WP.pure a1.b)))) (fun c1 => (WP.pure c1))).bind fun a11_rest => (WP.cat (WP.pure z9) (WP.row (WP.consE ((WP.cat (WP.pure a11_rest) (WP.row (WP.consE (WP.tri (WP.pure a1.a) (WP.pure a1.b) (WP.sub (WP.pure (0 : Int)) (WP.pure (1 : Int)))) (WP.pure ([] : List (Tri Sq Int Int)))))).bind fun xs => WP.pure (⟨xs⟩ : (Ls (Tri Sq Int Int)))) (WP.consE ((WP.cat (WP.row (WP.consE (WP.tri (WP.pure a1.a) (WP.pure a1.b) (WP.sub (WP.pure (0 : Int)) (WP.pure (2 : Int)))) (WP.pure ([] : List (Tri Sq Int Int))))) (WP.pure a11_rest)).bind fun xs => WP.pure (⟨xs⟩ : (Ls (Tri Sq Int Int)))) (WP.pure ([] : List (Ls (Tri Sq Int Int)))))))).bind fun r12 => (WP.pure r12)) (fun r => (WP.pure r))) (fun r => (WP.pure r))
def sp__law_outs : Sp := fun vs H Q _ => ∃ (d : Dl) (W : Wo) (a_relief : (List Str)) (a_tide : (List Int)) (a_paper : (Ls (Tri Sq Int Int))) (v_relief v_tide v_paper : V), vs = [.ref d.p, v_relief, v_tide, v_paper] ∧ W.H = H ∧ Good (efD d) W ∧ Rp W a_relief v_relief ∧ Rp W a_tide v_tide ∧ Rp W a_paper v_paper ∧ (m__law_outs () a_relief a_tide a_paper).run W.n fun n r => ∀ v W', Gw (efD d) W W' → W'.n = n → (sN (e := (efD d)) (kL (Ls (Tri Sq Int Int)))).post W W' r v → Q v W'.H
theorem ev__law_outs {d : Dl} {σ : L2.St} {W : Wo} {E : XK} {t0 t1 t2 t3 : TE} {w0 : WP Unit} {w1 : WP (List Str)} {w2 : WP (List Int)} {w3 : WP (Ls (Tri Sq Int Int))} (h0 : EvW (efD d) t0 σ W (sD d) w0) (h1 : EvW (efD d) t1 σ W sI w1) (h2 : EvW (efD d) t2 σ W sI w2) (h3 : EvW (efD d) t3 σ W sI w3) : EvW (efD d) (tCall sp__law_outs [] E (tCons t0 (tCons t1 (tCons t2 (tCons t3 tNil))))) σ W (sN (kL (Ls (Tri Sq Int Int)))) (WP.b4 w0 w1 w2 w3 m__law_outs) := ew_call4N h0 h1 h2 h3 fun W2 b0 b1 b2 b3 x0 x1 x2 x3 g2 r0 r1 r2 r3 Q q E => by
  cases r0
  exact ⟨d, W2, b1, b2, b3, x1, x2, x3, rfl, rfl, g2, r1, r2, r3, WP.mono _ (fun n c h v W3 g3 hn p => h v W3 g3 hn p) q⟩
theorem ok__law_outs (F : At K mg "_law_outs" s__law_outs P__law_outs) (G : Glb mg) (H__law_take : Has P w K mg base "_law_take" 1 P__law_take sp_take) : Has P w K mg base "_law_outs" 2 P__law_outs sp__law_outs := by
  refine Has.of F sc__law_outs (fun vs H Q E h => ?_) (fun f cdv A outer s H0 vs Q E hr h => ?_)
  · obtain ⟨d, W0, a_relief, a_tide, a_paper, v_relief, v_tide, v_paper, rfl, _⟩ := h
    rfl
  · obtain ⟨d, W0, a_relief, a_tide, a_paper, v_relief, v_tide, v_paper, rfl, rfl, g00, h_relief, h_tide, h_paper, hm⟩ := h
    have sc := sc__law_outs
    have g0 := Gw.refl g00
    unfold m__law_outs at hm
    refine ⟨_, (pss_cons (ps_asg (pe_ix ix_list (pv 3) (pe_user H__law_take (hr.mono (by decide)) rfl (pa_cons (pv 0) (pa_cons (pe_callB call_len_seq (by rfl) G.len PySem.boot_len (pa_cons (pv 3) pa_nil)) pa_nil))) (fun _ _ => rfl)) (pg_tup rfl (pgs_cons (pg_name (i := 4) sc.nd rfl (Or.inr rfl)) (pgs_cons (pg_name (i := 5) sc.nd rfl (Or.inr rfl)) (pgs_cons (pg_name (i := 6) sc.nd rfl (Or.inl rfl)) pgs_nil)))))
      (pss_cons (ps_asg (pv 4) (pg_tup rfl (pgs_cons (pg_name (i := 7) sc.nd rfl (Or.inl rfl)) (pgs_cons (pg_name (i := 8) sc.nd rfl (Or.inl rfl)) pgs_nil))))
      (pss_cons (ps_set (i := 9) sc.nd rfl (Or.inl rfl) (pe_callB call_len_seq (by rfl) G.len PySem.boot_len (pa_cons (pv 2) pa_nil)))
      (pss_cons (ps_set (i := 10) sc.nd rfl (Or.inl rfl) (pe_lst (pa_cons (pe_op op_cat (pv 3) (pe_lst (pa_cons (pe_tup (pa_cons (pv 4) (pa_cons (pv 5) (pa_cons (pv 6) pa_nil)))) pa_nil))) (pa_cons (pe_op op_cat (pe_lst (pa_cons (pe_tup (pa_cons (pv 4) (pa_cons (pv 5) (pa_cons pe_int pa_nil)))) pa_nil)) (pv 3)) (pa_cons (pe_op op_cat (pv 3) (pe_lst (pa_cons (pe_tup (pa_cons (pv 4) (pa_cons (pv 5) (pa_cons (pe_op op_add (pv 6) pe_int) pa_nil)))) pa_nil))) pa_nil)))))
      (pss_cons (ps_set (i := 11) sc.nd rfl (Or.inl rfl) (pe_callB call_len_seq (by rfl) G.len PySem.boot_len (pa_cons (pv 1) pa_nil)))
      (pss_cons (ps_set (i := 12) sc.nd rfl (Or.inl rfl) (pe_callB call_len_str (by rfl) G.len PySem.boot_len (pa_cons (pe_ix ix_tup (pv 1) pe_int (fun _ _ => rfl)) pa_nil)))
      (pss_cons (ps_for PassesOwn.never rfl (pi_list (pe_lst (pa_cons (pe_tup (pa_cons (pe_op op_sub (pv 7) (pv 11)) (pa_cons (pv 8) pa_nil))) (pa_cons (pe_tup (pa_cons (pv 7) (pa_cons (pe_op op_sub (pv 8) (pv 12)) pa_nil))) (pa_cons (pe_tup (pa_cons (pe_op op_add (pv 7) (pv 11)) (pa_cons (pv 8) pa_nil))) (pa_cons (pe_tup (pa_cons (pv 7) (pa_cons (pe_op op_add (pv 8) (pv 12)) pa_nil))) (pa_cons (pe_tup (pa_cons (pe_op op_sub pe_int pe_int) (pa_cons (pe_op op_sub pe_int pe_int) pa_nil))) (pa_cons (pe_tup (pa_cons pe_int (pa_cons (pv 8) pa_nil))) pa_nil)))))))) (pg_name (i := 13) sc.nd rfl (Or.inl rfl))
      (pss_one (ps_expr (pe_bm PySem.F.plainAttrs_list PySem.F.slot_list_append PySem.F.type_list_append mt_append (pv 10) (pa_cons (pe_op op_cat (pv 3) (pe_lst (pa_cons (pe_tup (pa_cons (pv 13) (pa_cons (pv 5) (pa_cons pe_int pa_nil)))) pa_nil))) pa_nil)))))
      (pss_cons (ps_for PassesOwn.never rfl (pi_list (pe_lst (pa_cons (pe_op op_sub pe_int pe_int) (pa_cons (pv 9) (pa_cons (pe_op op_sub (pv 5) (pv 9)) (pa_cons (pe_op op_add (pv 5) (pv 9)) (pa_cons pe_int pa_nil))))))) (pg_name (i := 13) sc.nd rfl (Or.inl rfl))
      (pss_one (ps_expr (pe_bm PySem.F.plainAttrs_list PySem.F.slot_list_append PySem.F.type_list_append mt_append (pv 10) (pa_cons (pe_op op_cat (pv 3) (pe_lst (pa_cons (pe_tup (pa_cons (pv 4) (pa_cons (pv 13) (pa_cons pe_int pa_nil)))) pa_nil))) pa_nil)))))
      (pss_cons (ps_setLc (i := 14) (own := [("triple", 15)]) (g := gName 15) rfl sc.nd rfl rfl (sw_true rfl rfl rfl (by decide +kernel)) (pi_list (pv 3)) (blkOk_by (N := N__law_outs) (sc := defScope s__law_outs) (by decide +kernel)) (fun _ _ _ _ _ => (pg_name (i := 15) sc.nd rfl (Or.inl rfl))) (fun _ _ _ _ _ => (pts_one (pt_cmpR (op_neDK (K := K) rfl hr.units) (pe_slice (sl_tupAK (K := K) rfl) (pv 15) po_none (po_some pe_int)) (pe_tup (pa_cons (pv 4) (pa_cons (pv 5) pa_nil))) (nomark _)))) (fun _ _ _ _ _ => (pv 15)))
      (pss_one (ps_ret (pe_op op_cat (pv 10) (pe_lst (pa_cons (pe_op op_cat (pv 14) (pe_lst (pa_cons (pe_tup (pa_cons (pv 4) (pa_cons (pv 5) (pa_cons (pe_op op_sub pe_int pe_int) pa_nil)))) pa_nil))) (pa_cons (pe_op op_cat (pe_lst (pa_cons (pe_tup (pa_cons (pv 4) (pa_cons (pv 5) (pa_cons (pe_op op_sub pe_int pe_int) pa_nil)))) pa_nil)) (pv 14)) pa_nil))))))))))))))), ?_⟩
    refine q_unR3 (W := W0) (ew_ixL (ew_ls (ew_var (v := v_paper) rfl h_paper)) (ev_take (ew_deal rfl) (ew_lenL (ew_ls (ew_var (v := v_paper) rfl h_paper))))) g0.ok hm fun a1 v_square v_index v_own W1 g1 h_square h_index h_own hm => ?_
    have h_relief := PyI.st g1.st h_relief
    have h_tide := PyI.st g1.st h_tide
    have h_paper := PyI.st g1.st h_paper
    have g0 := g0.trans g1
    first | refine norm_st (σ' := [some (.ref d.p), some v_relief, some v_tide, some v_paper, some v_square, some v_index, some v_own, none, none, none, none, none, none, none, none, none]) rfl ?_ | skip
    refine q_un2 (W := W1) (ew_var (v := v_square) rfl h_square) g0.ok hm fun a2_r_c v_r v_c W2 g2 h_r h_c hm => ?_
    have h_relief := PyI.st g2.st h_relief
    have h_tide := PyI.st g2.st h_tide
    have h_paper := PyI.st g2.st h_paper
    have h_square := PyI.st g2.st h_square
    have h_index := PyI.st g2.st h_index
    have h_own := PyI.st g2.st h_own
    have g0 := g0.trans g2
    first | refine norm_st (σ' := [some (.ref d.p), some v_relief, some v_tide, some v_paper, some v_square, some v_index, some v_own, some v_r, some v_c, none, none, none, none, none, none, none]) rfl ?_ | skip
    refine q_asg (W := W2) (ew_lenT (ew_var (v := v_tide) rfl h_tide)) g0.ok hm fun a3_many v_many W3 g3 h_many hm => ?_
    have h_relief := PyI.st g3.st h_relief
    have h_tide := PyI.st g3.st h_tide
    have h_paper := PyI.st g3.st h_paper
    have h_square := PyI.st g3.st h_square
    have h_index := PyI.st g3.st h_index
    have h_own := PyI.st g3.st h_own
    have h_r := PyI.st g3.st h_r
    have h_c := PyI.st g3.st h_c
    have g0 := g0.trans g3
    refine q_asg (W := W3) (ew_lst (eas_cons (ew_frz (ew_cat (ew_ls (ew_var (v := v_paper) rfl h_paper)) (ew_rd (ew_lst (eas_cons (ew_tri (ew_var (v := v_square) rfl h_square) (ew_var (v := v_index) rfl h_index) (ew_var (v := v_own) rfl h_own)) (eas_nil (α := (Tri Sq Int Int)))))))) (eas_cons (ew_frz (ew_cat (ew_rd (ew_lst (eas_cons (ew_tri (ew_var (v := v_square) rfl h_square) (ew_var (v := v_index) rfl h_index) ew_int) (eas_nil (α := (Tri Sq Int Int)))))) (ew_ls (ew_var (v := v_paper) rfl h_paper)))) (eas_cons (ew_frz (ew_cat (ew_ls (ew_var (v := v_paper) rfl h_paper)) (ew_rd (ew_lst (eas_cons (ew_tri (ew_var (v := v_square) rfl h_square) (ew_var (v := v_index) rfl h_index) (ew_add (ew_var (v := v_own) rfl h_own) ew_int)) (eas_nil (α := (Tri Sq Int Int)))))))) (eas_nil (α := (Ls (Tri Sq Int Int)))))))) g0.ok hm fun a4_outs v_outs W4 g4 ⟨fp_outs, ho0_outs, hf_outs⟩ hm => ?_
    have hz_outs : ∀ a ∈ fp_outs, W0.H a = none := fun a m => g0.live a (hf_outs a m).1
    have h_relief := PyI.st g4.st h_relief
    have h_tide := PyI.st g4.st h_tide
    have h_paper := PyI.st g4.st h_paper
    have h_square := PyI.st g4.st h_square
    have h_index := PyI.st g4.st h_index
    have h_own := PyI.st g4.st h_own
    have h_r := PyI.st g4.st h_r
    have h_c := PyI.st g4.st h_c
    have h_many := PyI.st g4.st h_many
    have g0 := g0.trans g4
    have ho_outs : Var (kL (Ls (Tri Sq Int Int))) W0 W4 fp_outs a4_outs v_outs := ⟨ho0_outs, hz_outs, fun b m => (hf_outs b m).2.2⟩
    first | refine norm_st (σ' := [some (.ref d.p), some v_relief, some v_tide, some v_paper, some v_square, some v_index, some v_own, some v_r, some v_c, some v_many, some v_outs, none, none, none, none, none]) rfl ?_ | skip
    refine q_asg (W := W4) (ew_lenT (ew_var (v := v_relief) rfl h_relief)) g0.ok hm fun a5_rows v_rows W5 g5 h_rows hm => ?_
    have h_relief := PyI.st g5.st h_relief
    have h_tide := PyI.st g5.st h_tide
    have h_paper := PyI.st g5.st h_paper
    have h_square := PyI.st g5.st h_square
    have h_index := PyI.st g5.st h_index
    have h_own := PyI.st g5.st h_own
    have h_r := PyI.st g5.st h_r
    have h_c := PyI.st g5.st h_c
    have h_many := PyI.st g5.st h_many
    have ho_outs := ho_outs.go g00 g5
    have g0 := g0.trans g5
    refine q_asg (W := W5) (ew_lenS (ew_ixT (ew_var (v := v_relief) rfl h_relief) ew_int)) g0.ok hm fun a6_columns v_columns W6 g6 h_columns hm => ?_
    have h_relief := PyI.st g6.st h_relief
    have h_tide := PyI.st g6.st h_tide
    have h_paper := PyI.st g6.st h_paper
    have h_square := PyI.st g6.st h_square
    have h_index := PyI.st g6.st h_index
    have h_own := PyI.st g6.st h_own
    have h_r := PyI.st g6.st h_r
    have h_c := PyI.st g6.st h_c
    have h_many := PyI.st g6.st h_many
    have ho_outs := ho_outs.go g00 g6
    have h_rows := PyI.st g6.st h_rows
    have g0 := g0.trans g6
    first | refine norm_st (σ' := [some (.ref d.p), some v_relief, some v_tide, some v_paper, some v_square, some v_index, some v_own, some v_r, some v_c, some v_many, some v_outs, some v_rows, some v_columns, none, none, none]) rfl ?_ | skip
    refine q_forN (W := W6) tk_N (ew_lst (eas_cons (ew_pair (ew_sub (ew_var (v := v_r) rfl h_r) (ew_var (v := v_rows) rfl h_rows)) (ew_var (v := v_c) rfl h_c)) (eas_cons (ew_pair (ew_var (v := v_r) rfl h_r) (ew_sub (ew_var (v := v_c) rfl h_c) (ew_var (v := v_columns) rfl h_columns))) (eas_cons (ew_pair (ew_add (ew_var (v := v_r) rfl h_r) (ew_var (v := v_rows) rfl h_rows)) (ew_var (v := v_c) rfl h_c)) (eas_cons (ew_pair (ew_var (v := v_r) rfl h_r) (ew_add (ew_var (v := v_c) rfl h_c) (ew_var (v := v_columns) rfl h_columns))) (eas_cons (ew_pair (ew_sub ew_int ew_int) (ew_sub ew_int ew_int)) (eas_cons (ew_pair ew_int (ew_var (v := v_c) rfl h_c)) (eas_nil (α := Sq))))))))) g0.ok hm fun xs7 p_it7 vs_it7 W7 g7 hn_it7 hF_it7 hp_it7 hr_it7 => ?_
    have dj_it7_outs : ∀ b ∈ [p_it7], b ∉ fp_outs := fun b m z => by cases mem_one m; exact (kL (Ls (Tri Sq Int Int))).live ho_outs.own _ z hn_it7
    have nS_it7 : ¬ (efD d).S p_it7 := fun z => g0.ok.S _ z hn_it7
    have h_relief := PyI.st g7.st h_relief
    have h_tide := PyI.st g7.st h_tide
    have h_paper := PyI.st g7.st h_paper
    have h_square := PyI.st g7.st h_square
    have h_index := PyI.st g7.st h_index
    have h_own := PyI.st g7.st h_own
    have h_r := PyI.st g7.st h_r
    have h_c := PyI.st g7.st h_c
    have h_many := PyI.st g7.st h_many
    have ho_outs := ho_outs.go g00 g7
    have h_rows := PyI.st g7.st h_rows
    have h_columns := PyI.st g7.st h_columns
    have g0 := g0.trans g7
    refine ⟨fun y σ' W' => ∃ (v_outs : V) (fp_outs : List Addr) (o_other : Option V), σ' = [some (.ref d.p), some v_relief, some v_tide, some v_paper, some v_square, some v_index, some v_own, some v_r, some v_c, some v_many, some v_outs, some v_rows, some v_columns, o_other, none, none] ∧ Gw (efD d) W0 W' ∧ St W7 W' ∧ Var (kL (Ls (Tri Sq Int Int))) W0 W' fp_outs y v_outs ∧ W'.H p_it7 = some (.lst vs_it7) ∧ (∀ b ∈ [p_it7], b ∉ fp_outs), ⟨v_outs, fp_outs, _, rfl, g0, (St.refl _), ho_outs, hp_it7, dj_it7_outs⟩, fun _ _ _ hI => ?_, fun c7 y7 σi s2 Wi7 R7 nx7 ht hI hm kn7 kb7 kr7 => ?_, fun z7 σi Wi7 hI hm => ?_⟩
    · obtain ⟨v_outs, fp_outs, o_other, rfl, g0, sl7, ho_outs, hp_it7, dj_it7_outs⟩ := hI
      exact ⟨sl7, hp_it7⟩
    ·
      obtain ⟨v_outs, fp_outs, o_other, rfl, g0, sl7, ho_outs, hp_it7, dj_it7_outs⟩ := hI
      have h_relief := PyI.st sl7 h_relief
      have h_tide := PyI.st sl7 h_tide
      have h_paper := PyI.st sl7 h_paper
      have h_square := PyI.st sl7 h_square
      have h_index := PyI.st sl7 h_index
      have h_own := PyI.st sl7 h_own
      have h_r := PyI.st sl7 h_r
      have h_c := PyI.st sl7 h_c
      have h_many := PyI.st sl7 h_many
      have h_rows := PyI.st sl7 h_rows
      have h_columns := PyI.st sl7 h_columns
      obtain ⟨v_other, rfl, h_other⟩ := ht
      refine st_app (W := Wi7) g00 g0 rfl ho_outs (ew_frz (ew_cat (ew_ls (ew_var (v := v_paper) rfl h_paper)) (ew_rd (ew_lst (eas_cons (ew_tri (ew_var (v := v_other) rfl h_other) (ew_var (v := v_index) rfl h_index) ew_int) (eas_nil (α := (Tri Sq Int Int)))))))) hm fun a8_outs W8_ W8 l_outs el_outs g8 s g02 kk ff ho_outs hm => ?_
      have h_relief := PyI.st g8.st h_relief
      have h_tide := PyI.st g8.st h_tide
      have h_paper := PyI.st g8.st h_paper
      have h_square := PyI.st g8.st h_square
      have h_index := PyI.st g8.st h_index
      have h_own := PyI.st g8.st h_own
      have h_r := PyI.st g8.st h_r
      have h_c := PyI.st g8.st h_c
      have h_many := PyI.st g8.st h_many
      have h_rows := PyI.st g8.st h_rows
      have h_columns := PyI.st g8.st h_columns
      have h_other := PyI.st g8.st h_other
      have sl7 := sl7.trans g8.st
      have hp_it7 := g8.keep _ _ hp_it7 nS_it7
      have g0 := g0.trans g8
      have h_relief := PyI.st s h_relief
      have h_tide := PyI.st s h_tide
      have h_paper := PyI.st s h_paper
      have h_square := PyI.st s h_square
      have h_index := PyI.st s h_index
      have h_own := PyI.st s h_own
      have h_r := PyI.st s h_r
      have h_c := PyI.st s h_c
      have h_many := PyI.st s h_many
      have h_rows := PyI.st s h_rows
      have h_columns := PyI.st s h_columns
      have h_other := PyI.st s h_other
      have sl7 := sl7.trans s
      have hp_it7 := kk [p_it7] _ Kp.refl dj_it7_outs _ (List.mem_singleton.mpr rfl) _ hp_it7
      have g0 := g02
      exact kn7 a8_outs _ W8 ⟨v_outs, fp_outs, _, rfl, g0, sl7, ho_outs, hp_it7, dj_it7_outs⟩ hm
    ·
      obtain ⟨v_outs, fp_outs, o_other, rfl, g0, sl7, ho_outs, hp_it7, dj_it7_outs⟩ := hI
      have h_relief := PyI.st sl7 h_relief
      have h_tide := PyI.st sl7 h_tide
      have h_paper := PyI.st sl7 h_paper
      have h_square := PyI.st sl7 h_square
      have h_index := PyI.st sl7 h_index
      have h_own := PyI.st sl7 h_own
      have h_r := PyI.st sl7 h_r
      have h_c := PyI.st sl7 h_c
      have h_many := PyI.st sl7 h_many
      have h_rows := PyI.st sl7 h_rows
      have h_columns := PyI.st sl7 h_columns
      refine q_forN (W := Wi7) tk_N (ew_lst (eas_cons (ew_sub ew_int ew_int) (eas_cons (ew_var (v := v_many) rfl h_many) (eas_cons (ew_sub (ew_var (v := v_index) rfl h_index) (ew_var (v := v_many) rfl h_many)) (eas_cons (ew_add (ew_var (v := v_index) rfl h_index) (ew_var (v := v_many) rfl h_many)) (eas_cons ew_int (eas_nil (α := Int)))))))) g0.ok hm fun xs9 p_it9 vs_it9 W9 g9 hn_it9 hF_it9 hp_it9 hr_it9 => ?_
      have dj_it9_outs : ∀ b ∈ [p_it9], b ∉ fp_outs := fun b m z => by cases mem_one m; exact (kL (Ls (Tri Sq Int Int))).live ho_outs.own _ z hn_it9
      have nS_it9 : ¬ (efD d).S p_it9 := fun z => g0.ok.S _ z hn_it9
      have h_relief := PyI.st g9.st h_relief
      have h_tide := PyI.st g9.st h_tide
      have h_paper := PyI.st g9.st h_paper
      have h_square := PyI.st g9.st h_square
      have h_index := PyI.st g9.st h_index
      have h_own := PyI.st g9.st h_own
      have h_r := PyI.st g9.st h_r
      have h_c := PyI.st g9.st h_c
      have h_many := PyI.st g9.st h_many
      have ho_outs := ho_outs.go g00 g9
      have h_rows := PyI.st g9.st h_rows
      have h_columns := PyI.st g9.st h_columns
      have g0 := g0.trans g9
      refine ⟨fun y σ' W' => ∃ (v_outs : V) (fp_outs : List Addr) (o_other : Option V), σ' = [some (.ref d.p), some v_relief, some v_tide, some v_paper, some v_square, some v_index, some v_own, some v_r, some v_c, some v_many, some v_outs, some v_rows, some v_columns, o_other, none, none] ∧ Gw (efD d) W0 W' ∧ St W9 W' ∧ Var (kL (Ls (Tri Sq Int Int))) W0 W' fp_outs y v_outs ∧ W'.H p_it9 = some (.lst vs_it9) ∧ (∀ b ∈ [p_it9], b ∉ fp_outs), ⟨v_outs, fp_outs, _, rfl, g0, (St.refl _), ho_outs, hp_it9, dj_it9_outs⟩, fun _ _ _ hI => ?_, fun c9 y9 σi s2 Wi9 R9 nx9 ht hI hm kn9 kb9 kr9 => ?_, fun z9 σi Wi9 hI hm => ?_⟩
      · obtain ⟨v_outs, fp_outs, o_other, rfl, g0, sl9, ho_outs, hp_it9, dj_it9_outs⟩ := hI
        exact ⟨sl9, hp_it9⟩
      ·
        obtain ⟨v_outs, fp_outs, o_other, rfl, g0, sl9, ho_outs, hp_it9, dj_it9_outs⟩ := hI
        have h_relief := PyI.st sl9 h_relief
        have h_tide := PyI.st sl9 h_tide
        have h_paper := PyI.st sl9 h_paper
        have h_square := PyI.st sl9 h_square
        have h_index := PyI.st sl9 h_index
        have h_own := PyI.st sl9 h_own
        have h_r := PyI.st sl9 h_r
        have h_c := PyI.st sl9 h_c
        have h_many := PyI.st sl9 h_many
        have h_rows := PyI.st sl9 h_rows
        have h_columns := PyI.st sl9 h_columns
        obtain ⟨v_other, rfl, h_other⟩ := ht
        refine st_app (W := Wi9) g00 g0 rfl ho_outs (ew_frz (ew_cat (ew_ls (ew_var (v := v_paper) rfl h_paper)) (ew_rd (ew_lst (eas_cons (ew_tri (ew_var (v := v_square) rfl h_square) (ew_var (v := v_other) rfl h_other) ew_int) (eas_nil (α := (Tri Sq Int Int)))))))) hm fun a10_outs W10_ W10 l_outs el_outs g10 s g02 kk ff ho_outs hm => ?_
        have h_relief := PyI.st g10.st h_relief
        have h_tide := PyI.st g10.st h_tide
        have h_paper := PyI.st g10.st h_paper
        have h_square := PyI.st g10.st h_square
        have h_index := PyI.st g10.st h_index
        have h_own := PyI.st g10.st h_own
        have h_r := PyI.st g10.st h_r
        have h_c := PyI.st g10.st h_c
        have h_many := PyI.st g10.st h_many
        have h_rows := PyI.st g10.st h_rows
        have h_columns := PyI.st g10.st h_columns
        have h_other := PyI.st g10.st h_other
        have sl9 := sl9.trans g10.st
        have hp_it9 := g10.keep _ _ hp_it9 nS_it9
        have g0 := g0.trans g10
        have h_relief := PyI.st s h_relief
        have h_tide := PyI.st s h_tide
        have h_paper := PyI.st s h_paper
        have h_square := PyI.st s h_square
        have h_index := PyI.st s h_index
        have h_own := PyI.st s h_own
        have h_r := PyI.st s h_r
        have h_c := PyI.st s h_c
        have h_many := PyI.st s h_many
        have h_rows := PyI.st s h_rows
        have h_columns := PyI.st s h_columns
        have h_other := PyI.st s h_other
        have sl9 := sl9.trans s
        have hp_it9 := kk [p_it9] _ Kp.refl dj_it9_outs _ (List.mem_singleton.mpr rfl) _ hp_it9
        have g0 := g02
        exact kn9 a10_outs _ W10 ⟨v_outs, fp_outs, _, rfl, g0, sl9, ho_outs, hp_it9, dj_it9_outs⟩ hm
      ·
        obtain ⟨v_outs, fp_outs, o_other, rfl, g0, sl9, ho_outs, hp_it9, dj_it9_outs⟩ := hI
        have h_relief := PyI.st sl9 h_relief
        have h_tide := PyI.st sl9 h_tide
        have h_paper := PyI.st sl9 h_paper
        have h_square := PyI.st sl9 h_square
        have h_index := PyI.st sl9 h_index
        have h_own := PyI.st sl9 h_own
        have h_r := PyI.st sl9 h_r
        have h_c := PyI.st sl9 h_c
        have h_many := PyI.st sl9 h_many
        have h_rows := PyI.st sl9 h_rows
        have h_columns := PyI.st sl9 h_columns
        refine q_asg (W := Wi9) (ew_lcL (ew_ls (ew_var (v := v_paper) rfl h_paper)) takes_N (fun _ _ _ h => by obtain ⟨v_triple, ec, h_triple⟩ := h; subst ec; rfl) (fun c1 Wc1 s2 gc1 h => by obtain ⟨v_triple, ec, h_triple⟩ := h; subst ec; have h_paper := PyI.st gc1.st h_paper; have h_square := PyI.st gc1.st h_square; have h_index := PyI.st gc1.st h_index; exact (et_t (ew_neD (ew_tri2 (ew_var (v := v_triple) rfl h_triple)) (ew_pair (ew_var (v := v_square) rfl h_square) (ew_var (v := v_index) rfl h_index))))) (fun c1 Wc1 s2 gc1 h => by obtain ⟨v_triple, ec, h_triple⟩ := h; subst ec; have h_paper := PyI.st gc1.st h_paper; have h_square := PyI.st gc1.st h_square; have h_index := PyI.st gc1.st h_index; exact (ew_var (v := v_triple) rfl h_triple))) g0.ok hm fun a11_rest v_rest W11 g11 ⟨fp_rest, ho0_rest, hf_rest⟩ hm => ?_
        have dj_outs_rest : ∀ b ∈ fp_outs, b ∉ fp_rest := fun b m z => (kL (Ls (Tri Sq Int Int))).live ho_outs.own b m (hf_rest b z).1
        have hz_rest : ∀ a ∈ fp_rest, W0.H a = none := fun a m => g0.live a (hf_rest a m).1
        have h_relief := PyI.st g11.st h_relief
        have h_tide := PyI.st g11.st h_tide
        have h_paper := PyI.st g11.st h_paper
        have h_square := PyI.st g11.st h_square
        have h_index := PyI.st g11.st h_index
        have h_own := PyI.st g11.st h_own
        have h_r := PyI.st g11.st h_r
        have h_c := PyI.st g11.st h_c
        have h_many := PyI.st g11.st h_many
        have ho_outs := ho_outs.go g00 g11
        have h_rows := PyI.st g11.st h_rows
        have h_columns := PyI.st g11.st h_columns
        have g0 := g0.trans g11
        have ho_rest : Var (kL (Tri Sq Int Int)) W0 W11 fp_rest a11_rest v_rest := ⟨ho0_rest, hz_rest, fun b m => (hf_rest b m).2.2⟩
        refine st_ret (W := W11) (ew_cat (ew_varR (v := v_outs) rfl (Var.nS g00 ho_outs) ho_outs.own) (ew_rd (ew_lst (eas_cons (ew_frz (ew_cat (ew_varR (v := v_rest) rfl (Var.nS g00 ho_rest) ho_rest.own) (ew_rd (ew_lst (eas_cons (ew_tri (ew_var (v := v_square) rfl h_square) (ew_var (v := v_index) rfl h_index) (ew_sub ew_int ew_int)) (eas_nil (α := (Tri Sq Int Int)))))))) (eas_cons (ew_frz (ew_cat (ew_rd (ew_lst (eas_cons (ew_tri (ew_var (v := v_square) rfl h_square) (ew_var (v := v_index) rfl h_index) (ew_sub ew_int ew_int)) (eas_nil (α := (Tri Sq Int Int)))))) (ew_varR (v := v_rest) rfl (Var.nS g00 ho_rest) ho_rest.own))) (eas_nil (α := (Ls (Tri Sq Int Int))))))))) g0.ok hm fun r12 v_ret W12 g12 hp hm => ?_
        exact hm v_ret W12 (g0.trans g12) rfl ((sN (kL (Ls (Tri Sq Int Int)))).back g0 hp)
abbrev s__law_bends : Stmt := top 33
abbrev N__law_bends : List Str := ["deal", "tide", "start", "goal", "paper", "number", "at", "square", "index", "own", "bends", "more", "spot", "k", "worth"]
abbrev P__law_bends : List Str := ["deal", "tide", "start", "goal", "paper", "number"]
theorem sc__law_bends : FnScope N__law_bends P__law_bends (defScope s__law_bends) := ⟨rfl, rfl, rfl, by decide +kernel, rfl, by decide +kernel, by decide +kernel⟩
def m__law_bends (_ : Unit) (a_tide : (List Int)) (a_start : Sq) (a_goal : Sq) (a_paper : (Ls (Tri Sq Int Int))) (a_number : Int) : WP (List (Ls (Tri Sq Int Int))) := (WP.b2 (WP.pure ()) (WP.len ((WP.pure a_paper).bind fun x => WP.pure x.l)) m_take).bind fun a1_at => (WP.ix ((WP.pure a_paper).bind fun x => WP.pure x.l) (WP.pure a1_at)).bind fun a2 => (WP.row (WP.consE ((WP.cat (WP.cut ((WP.pure a_paper).bind fun x => WP.pure x.l) (WP.pure none) ((WP.pure a1_at).bind fun x => WP.pure (some x))) (WP.cut ((WP.pure a_paper).bind fun x => WP.pure x.l) ((WP.add (WP.pure a1_at) (WP.pure (1 : Int))).bind fun x => WP.pure (some x)) (WP.pure none))).bind fun xs => WP.pure (⟨xs⟩ : (Ls (Tri Sq Int Int)))) (WP.consE ((WP.cut ((WP.pure a_paper).bind fun x => WP.pure x.l) (WP.pure none) ((WP.pure a1_at).bind fun x => WP.pure (some x))).bind fun xs => WP.pure (⟨xs⟩ : (Ls (Tri Sq Int Int)))) (WP.consE ((WP.cut ((WP.pure a_paper).bind fun x => WP.pure x.l) ((WP.pure a1_at).bind fun x => WP.pure (some x)) (WP.pure none)).bind fun xs => WP.pure (⟨xs⟩ : (Ls (Tri Sq Int Int)))) (WP.pure ([] : List (Ls (Tri Sq Int Int)))))))).bind fun a3_bends => (WP.row (WP.consE (WP.pure (0 : Int)) (WP.consE (WP.max2 (WP.pure (0 : Int)) (WP.sub (WP.pure a2.c) (WP.pure (1 : Int)))) (WP.consE (WP.add (WP.pure a2.c) (WP.pure (1 : Int))) (WP.consE (WP.add (WP.pure a2.c) (WP.pure (2 : Int))) (WP.pure ([] : List Int))))))).bind fun xs4 => WP.after (WP.loop (γ := (List (Ls (Tri Sq Int Int)))) (fun c4 (y4 : (List (Ls (Tri Sq Int Int)))) => (((WP.cat (WP.cat (WP.cut ((WP.pure a_paper).bind fun x => WP.pure x.l) (WP.pure none) ((WP.pure a1_at).bind fun x => WP.pure (some x))) (WP.row (WP.consE (WP.tri (WP.pure a2.a) (WP.pure a2.b) (WP.pure c4)) (WP.pure ([] : List (Tri Sq Int Int)))))) (WP.cut ((WP.pure a_paper).bind fun x => WP.pure x.l) ((WP.add (WP.pure a1_at) (WP.pure (1 : Int))).bind fun x => WP.pure (some x)) (WP.pure none))).bind fun xs => WP.pure (⟨xs⟩ : (Ls (Tri Sq Int Int)))).bind fun a => WP.req (y4.length < 100000) (y4 ++ [a])).bind fun a5_bends => (WP.pure (.nx a5_bends))) xs4 a3_bends) (fun (z4 : (List (Ls (Tri Sq Int Int)))) => (((WP.cat (WP.cat (WP.cut ((WP.pure a_paper).bind fun x => WP.pure x.l) (WP.pure none) ((WP.pure a1_at).bind fun x => WP.pure (some x))) (WP.row (WP.consE (WP.tri (WP.pure a2.a) (WP.mod (WP.add (WP.pure a2.b) (WP.pure (1 : Int))) (WP.len (WP.pure a_tide))) (WP.pure a2.c)) (WP.pure ([] : List (Tri Sq Int Int)))))) (WP.cut ((WP.pure a_paper).bind fun x => WP.pure x.l) ((WP.add (WP.pure a1_at) (WP.pure (1 : Int))).bind fun x => WP.pure (some x)) (WP.pure none))).bind fun xs => WP.pure (⟨xs⟩ : (Ls (Tri Sq Int Int)))).bind fun a => WP.req (z4.length < 100000) (z4 ++ [a])).bind fun a6_bends => (((WP.lc ((WP.pure a_paper).bind fun x => WP.pure x.l) (fun c1 => (WP.pure true)) (fun c1 => (WP.tri (WP.pure c1.a) (WP.pure c1.b) (WP.max2 (WP.pure (0 : Int)) (WP.sub (WP.pure c1.c) (WP.pure (1 : Int))))))).bind fun xs => WP.pure (⟨xs⟩ : (Ls (Tri Sq Int Int)))).bind fun a => WP.req (a6_bends.length < 100000) (a6_bends ++ [a])).bind fun a7_bends => (((WP.lc ((WP.pure a_paper).bind fun x => WP.pure x.l) (fun c2 => (WP.pure true)) (fun c2 => (WP.tri (WP.pure c2.a) (WP.pure c2.b) (WP.add (WP.pure c2.c) (WP.pure (1 : Int)))))).bind fun xs => WP.pure (⟨xs⟩ : (Ls (Tri Sq Int Int)))).bind fun a => WP.req (a7_bends.length < 100000) (a7_bends ++ [a])).bind fun a8_bends => (((WP.lc ((WP.pure a_paper).bind fun x => WP.pure x.l) (fun c3 => (WP.pure true)) (fun c3 => (WP.tri (WP.pure c3.a) (WP.pure c3.b) (WP.max2 (WP.pure (0 : Int)) (WP.sub (WP.pure c3.c) ((WP.and (WP.eqD (WP.pure c3.a) (WP.pure a_start)) (WP.eq (WP.pure c3.b) (WP.pure (0 : Int)))).bind fun b => WP.pure (if b then (1 : Int) else 0))))))).bind fun xs => WP.pure (⟨xs⟩ : (Ls (Tri Sq Int Int)))).bind fun a => WP.req (a8_bends.length < 100000) (a8_bends ++ [a])).bind fun a9_bends => (((WP.lc ((WP.pure a_paper).bind fun x => WP.pure x.l) (fun c4 => (WP.pure true)) (fun c4 => (WP.tri (WP.pure c4.a) (WP.pure c4.b) (WP.max2 (WP.pure c4.c) ((WP.eqD (WP.pure c4.a) (WP.pure a_goal)).bind fun b => WP.pure (if b then (1 : Int) else 0)))))).bind fun xs => WP.pure (⟨xs⟩ : (Ls (Tri Sq Int Int)))).bind fun a => WP.req (a9_bends.length < 100000) (a9_bends ++ [a])).bind fun a10_bends => (((WP.lc ((WP.pure a_paper).bind fun x => WP.pure x.l) (fun c5 => (WP.pure true)) (fun c5 => (WP.tri (WP.pure c5.a) (WP.pure c5.b) (WP.ite (WP.eqD (WP.pure c5.a) (WP.pure a_goal)) (WP.pure (0 : Int)) (WP.pure a_number))))).bind fun xs => WP.pure (⟨xs⟩ : (Ls (Tri Sq Int Int)))).bind fun a => WP.req (a10_bends.length < 100000) (a10_bends ++ [a])).bind fun a11_bends => (WP.pure a11_bends)) (fun r => (WP.pure r))
def sp__law_bends : Sp := fun vs H Q _ => ∃ (d : Dl) (W : Wo) (a_tide : (List Int)) (a_start : Sq) (a_goal : Sq) (a_paper : (Ls (Tri Sq Int Int))) (a_number : Int) (v_tide v_start v_goal v_paper v_number : V), vs = [.ref d.p, v_tide, v_start, v_goal, v_paper, v_number] ∧ W.H = H ∧ Good (efD d) W ∧ Rp W a_tide v_tide ∧ Rp W a_start v_start ∧ Rp W a_goal v_goal ∧ Rp W a_paper v_paper ∧ Rp W a_number v_number ∧ (m__law_bends () a_tide a_start a_goal a_paper a_number).run W.n fun n r => ∀ v W', Gw (efD d) W W' → W'.n = n → (sN (e := (efD d)) (kL (Ls (Tri Sq Int Int)))).post W W' r v → Q v W'.H
theorem ev__law_bends {d : Dl} {σ : L2.St} {W : Wo} {E : XK} {t0 t1 t2 t3 t4 t5 : TE} {w0 : WP Unit} {w1 : WP (List Int)} {w2 : WP Sq} {w3 : WP Sq} {w4 : WP (Ls (Tri Sq Int Int))} {w5 : WP Int} (h0 : EvW (efD d) t0 σ W (sD d) w0) (h1 : EvW (efD d) t1 σ W sI w1) (h2 : EvW (efD d) t2 σ W sI w2) (h3 : EvW (efD d) t3 σ W sI w3) (h4 : EvW (efD d) t4 σ W sI w4) (h5 : EvW (efD d) t5 σ W sI w5) : EvW (efD d) (tCall sp__law_bends [] E (tCons t0 (tCons t1 (tCons t2 (tCons t3 (tCons t4 (tCons t5 tNil))))))) σ W (sN (kL (Ls (Tri Sq Int Int)))) (WP.b6 w0 w1 w2 w3 w4 w5 m__law_bends) := ew_call6N h0 h1 h2 h3 h4 h5 fun W2 b0 b1 b2 b3 b4 b5 x0 x1 x2 x3 x4 x5 g2 r0 r1 r2 r3 r4 r5 Q q E => by
  cases r0
  exact ⟨d, W2, b1, b2, b3, b4, b5, x1, x2, x3, x4, x5, rfl, rfl, g2, r1, r2, r3, r4, r5, WP.mono _ (fun n c h v W3 g3 hn p => h v W3 g3 hn p) q⟩
theorem ok__law_bends (F : At K mg "_law_bends" s__law_bends P__law_bends) (G : Glb mg) (H__law_take : Has P w K mg base "_law_take" 1 P__law_take sp_take) : Has P w K mg base "_law_bends" 2 P__law_bends sp__law_bends := by
  refine Has.of F sc__law_bends (fun vs H Q E h => ?_) (fun f cdv A outer s H0 vs Q E hr h => ?_)
  · obtain ⟨d, W0, a_tide, a_start, a_goal, a_paper, a_number, v_tide, v_start, v_goal, v_paper, v_number, rfl, _⟩ := h
    rfl
  · obtain ⟨d, W0, a_tide, a_start, a_goal, a_paper, a_number, v_tide, v_start, v_goal, v_paper, v_number, rfl, rfl, g00, h_tide, h_start, h_goal, h_paper, h_number, hm⟩ := h
    have sc := sc__law_bends
    have g0 := Gw.refl g00
    unfold m__law_bends at hm
    refine ⟨_, (pss_cons (ps_set (i := 6) sc.nd rfl (Or.inl rfl) (pe_user H__law_take (hr.mono (by decide)) rfl (pa_cons (pv 0) (pa_cons (pe_callB call_len_seq (by rfl) G.len PySem.boot_len (pa_cons (pv 4) pa_nil)) pa_nil))))
      (pss_cons (ps_asg (pe_ix ix_list (pv 4) (pv 6) (fun _ _ => rfl)) (pg_tup rfl (pgs_cons (pg_name (i := 7) sc.nd rfl (Or.inl rfl)) (pgs_cons (pg_name (i := 8) sc.nd rfl (Or.inl rfl)) (pgs_cons (pg_name (i := 9) sc.nd rfl (Or.inl rfl)) pgs_nil)))))
      (pss_cons (ps_set (i := 10) sc.nd rfl (Or.inl rfl) (pe_lst (pa_cons (pe_op op_cat (pe_slice sl_list (pv 4) po_none (po_some (pv 6))) (pe_slice sl_list (pv 4) (po_some (pe_op op_add (pv 6) pe_int)) po_none)) (pa_cons (pe_slice sl_list (pv 4) po_none (po_some (pv 6))) (pa_cons (pe_slice sl_list (pv 4) (po_some (pv 6)) po_none) pa_nil)))))
      (pss_cons (ps_for PassesOwn.never rfl (pi_list (pe_lst (pa_cons pe_int (pa_cons (pe_callB (call_max2 rfl) (by rfl) G.max (by decide +kernel) (pa_cons pe_int (pa_cons (pe_op op_sub (pv 9) pe_int) pa_nil))) (pa_cons (pe_op op_add (pv 9) pe_int) (pa_cons (pe_op op_add (pv 9) pe_int) pa_nil)))))) (pg_name (i := 11) sc.nd rfl (Or.inl rfl))
      (pss_one (ps_expr (pe_bm PySem.F.plainAttrs_list PySem.F.slot_list_append PySem.F.type_list_append mt_append (pv 10) (pa_cons (pe_op op_cat (pe_op op_cat (pe_slice sl_list (pv 4) po_none (po_some (pv 6))) (pe_lst (pa_cons (pe_tup (pa_cons (pv 7) (pa_cons (pv 8) (pa_cons (pv 11) pa_nil)))) pa_nil))) (pe_slice sl_list (pv 4) (po_some (pe_op op_add (pv 6) pe_int)) po_none)) pa_nil)))))
      (pss_cons (ps_expr (pe_bm PySem.F.plainAttrs_list PySem.F.slot_list_append PySem.F.type_list_append mt_append (pv 10) (pa_cons (pe_op op_cat (pe_op op_cat (pe_slice sl_list (pv 4) po_none (po_some (pv 6))) (pe_lst (pa_cons (pe_tup (pa_cons (pv 7) (pa_cons (pe_op op_mod (pe_op op_add (pv 8) pe_int) (pe_callB call_len_seq (by rfl) G.len PySem.boot_len (pa_cons (pv 1) pa_nil))) (pa_cons (pv 9) pa_nil)))) pa_nil))) (pe_slice sl_list (pv 4) (po_some (pe_op op_add (pv 6) pe_int)) po_none)) pa_nil)))
      (pss_cons (ps_expr (pe_bm PySem.F.plainAttrs_list PySem.F.slot_list_append PySem.F.type_list_append mt_append (pv 10) (pa_cons (pe_lc (own := [("spot", 12), ("k", 13), ("worth", 14)]) (g := gTup K 3 (gCons (gName 12) (gCons (gName 13) (gCons (gName 14) gNil)))) (tt := tYes) rfl sc.nd (pi_list (pv 4)) (blkOk_by (N := N__law_bends) (sc := defScope s__law_bends) (by decide +kernel)) (fun _ _ _ _ _ => (pg_tup rfl (pgs_cons (pg_name (i := 12) sc.nd rfl (Or.inl rfl)) (pgs_cons (pg_name (i := 13) sc.nd rfl (Or.inl rfl)) (pgs_cons (pg_name (i := 14) sc.nd rfl (Or.inl rfl)) pgs_nil))))) (fun _ _ _ _ _ => pts_nil) (fun _ _ _ _ _ => (pe_tup (pa_cons (pv 12) (pa_cons (pv 13) (pa_cons (pe_callB (call_max2 rfl) (by rfl) G.max (by decide +kernel) (pa_cons pe_int (pa_cons (pe_op op_sub (pv 14) pe_int) pa_nil))) pa_nil)))))) pa_nil)))
      (pss_cons (ps_expr (pe_bm PySem.F.plainAttrs_list PySem.F.slot_list_append PySem.F.type_list_append mt_append (pv 10) (pa_cons (pe_lc (own := [("spot", 12), ("k", 13), ("worth", 14)]) (g := gTup K 3 (gCons (gName 12) (gCons (gName 13) (gCons (gName 14) gNil)))) (tt := tYes) rfl sc.nd (pi_list (pv 4)) (blkOk_by (N := N__law_bends) (sc := defScope s__law_bends) (by decide +kernel)) (fun _ _ _ _ _ => (pg_tup rfl (pgs_cons (pg_name (i := 12) sc.nd rfl (Or.inl rfl)) (pgs_cons (pg_name (i := 13) sc.nd rfl (Or.inl rfl)) (pgs_cons (pg_name (i := 14) sc.nd rfl (Or.inl rfl)) pgs_nil))))) (fun _ _ _ _ _ => pts_nil) (fun _ _ _ _ _ => (pe_tup (pa_cons (pv 12) (pa_cons (pv 13) (pa_cons (pe_op op_add (pv 14) pe_int) pa_nil)))))) pa_nil)))
      (pss_cons (ps_expr (pe_bm PySem.F.plainAttrs_list PySem.F.slot_list_append PySem.F.type_list_append mt_append (pv 10) (pa_cons (pe_lc (own := [("spot", 12), ("k", 13), ("worth", 14)]) (g := gTup K 3 (gCons (gName 12) (gCons (gName 13) (gCons (gName 14) gNil)))) (tt := tYes) rfl sc.nd (pi_list (pv 4)) (blkOk_by (N := N__law_bends) (sc := defScope s__law_bends) (by decide +kernel)) (fun _ _ _ _ _ => (pg_tup rfl (pgs_cons (pg_name (i := 12) sc.nd rfl (Or.inl rfl)) (pgs_cons (pg_name (i := 13) sc.nd rfl (Or.inl rfl)) (pgs_cons (pg_name (i := 14) sc.nd rfl (Or.inl rfl)) pgs_nil))))) (fun _ _ _ _ _ => pts_nil) (fun _ _ _ _ _ => (pe_tup (pa_cons (pv 12) (pa_cons (pv 13) (pa_cons (pe_callB (call_max2 rfl) (by rfl) G.max (by decide +kernel) (pa_cons pe_int (pa_cons (pe_op op_sub (pv 14) (pe_callTy call_int1 (by rfl) G.int (by decide +kernel) (pa_cons (pe_and (pe_cmpR (op_eqDK (K := K) rfl hr.units) (pv 12) (pv 2) (nomark _)) (pe_one (pe_cmpR op_eq (pv 13) pe_int (nomark _)))) pa_nil))) pa_nil))) pa_nil)))))) pa_nil)))
      (pss_cons (ps_expr (pe_bm PySem.F.plainAttrs_list PySem.F.slot_list_append PySem.F.type_list_append mt_append (pv 10) (pa_cons (pe_lc (own := [("spot", 12), ("k", 13), ("worth", 14)]) (g := gTup K 3 (gCons (gName 12) (gCons (gName 13) (gCons (gName 14) gNil)))) (tt := tYes) rfl sc.nd (pi_list (pv 4)) (blkOk_by (N := N__law_bends) (sc := defScope s__law_bends) (by decide +kernel)) (fun _ _ _ _ _ => (pg_tup rfl (pgs_cons (pg_name (i := 12) sc.nd rfl (Or.inl rfl)) (pgs_cons (pg_name (i := 13) sc.nd rfl (Or.inl rfl)) (pgs_cons (pg_name (i := 14) sc.nd rfl (Or.inl rfl)) pgs_nil))))) (fun _ _ _ _ _ => pts_nil) (fun _ _ _ _ _ => (pe_tup (pa_cons (pv 12) (pa_cons (pv 13) (pa_cons (pe_callB (call_max2 rfl) (by rfl) G.max (by decide +kernel) (pa_cons (pv 14) (pa_cons (pe_callTy call_int1 (by rfl) G.int (by decide +kernel) (pa_cons (pe_cmpR (op_eqDK (K := K) rfl hr.units) (pv 12) (pv 3) (nomark _)) pa_nil)) pa_nil))) pa_nil)))))) pa_nil)))
      (pss_cons (ps_expr (pe_bm PySem.F.plainAttrs_list PySem.F.slot_list_append PySem.F.type_list_append mt_append (pv 10) (pa_cons (pe_lc (own := [("spot", 12), ("k", 13), ("worth", 14)]) (g := gTup K 3 (gCons (gName 12) (gCons (gName 13) (gCons (gName 14) gNil)))) (tt := tYes) rfl sc.nd (pi_list (pv 4)) (blkOk_by (N := N__law_bends) (sc := defScope s__law_bends) (by decide +kernel)) (fun _ _ _ _ _ => (pg_tup rfl (pgs_cons (pg_name (i := 12) sc.nd rfl (Or.inl rfl)) (pgs_cons (pg_name (i := 13) sc.nd rfl (Or.inl rfl)) (pgs_cons (pg_name (i := 14) sc.nd rfl (Or.inl rfl)) pgs_nil))))) (fun _ _ _ _ _ => pts_nil) (fun _ _ _ _ _ => (pe_tup (pa_cons (pv 12) (pa_cons (pv 13) (pa_cons (pe_ifExp (pt_cmpR (op_eqDK (K := K) rfl hr.units) (pv 12) (pv 3) (nomark _)) pe_int (pv 5)) pa_nil)))))) pa_nil)))
      (pss_one (ps_ret (pv 10))))))))))))), ?_⟩
    refine q_asg (W := W0) (ev_take (ew_deal rfl) (ew_lenL (ew_ls (ew_var (v := v_paper) rfl h_paper)))) g0.ok hm fun a1_at v_at W1 g1 h_at hm => ?_
    have h_tide := PyI.st g1.st h_tide
    have h_start := PyI.st g1.st h_start
    have h_goal := PyI.st g1.st h_goal
    have h_paper := PyI.st g1.st h_paper
    have h_number := PyI.st g1.st h_number
    have g0 := g0.trans g1
    first | refine norm_st (σ' := [some (.ref d.p), some v_tide, some v_start, some v_goal, some v_paper, some v_number, some v_at, none, none, none, none, none, none, none, none]) rfl ?_ | skip
    refine q_unR3 (W := W1) (ew_ixL (ew_ls (ew_var (v := v_paper) rfl h_paper)) (ew_var (v := v_at) rfl h_at)) g0.ok hm fun a2 v_square v_index v_own W2 g2 h_square h_index h_own hm => ?_
    have h_tide := PyI.st g2.st h_tide
    have h_start := PyI.st g2.st h_start
    have h_goal := PyI.st g2.st h_goal
    have h_paper := PyI.st g2.st h_paper
    have h_number := PyI.st g2.st h_number
    have h_at := PyI.st g2.st h_at
    have g0 := g0.trans g2
    first | refine norm_st (σ' := [some (.ref d.p), some v_tide, some v_start, some v_goal, some v_paper, some v_number, some v_at, some v_square, some v_index, some v_own, none, none, none, none, none]) rfl ?_ | skip
    refine q_asg (W := W2) (ew_lst (eas_cons (ew_frz (ew_cat (ew_rd (ew_slL (ew_ls (ew_var (v := v_paper) rfl h_paper)) eo_none (eo_some (ew_var (v := v_at) rfl h_at)))) (ew_rd (ew_slL (ew_ls (ew_var (v := v_paper) rfl h_paper)) (eo_some (ew_add (ew_var (v := v_at) rfl h_at) ew_int)) eo_none)))) (eas_cons (ew_frz (ew_slL (ew_ls (ew_var (v := v_paper) rfl h_paper)) eo_none (eo_some (ew_var (v := v_at) rfl h_at)))) (eas_cons (ew_frz (ew_slL (ew_ls (ew_var (v := v_paper) rfl h_paper)) (eo_some (ew_var (v := v_at) rfl h_at)) eo_none)) (eas_nil (α := (Ls (Tri Sq Int Int)))))))) g0.ok hm fun a3_bends v_bends W3 g3 ⟨fp_bends, ho0_bends, hf_bends⟩ hm => ?_
    have hz_bends : ∀ a ∈ fp_bends, W0.H a = none := fun a m => g0.live a (hf_bends a m).1
    have h_tide := PyI.st g3.st h_tide
    have h_start := PyI.st g3.st h_start
    have h_goal := PyI.st g3.st h_goal
    have h_paper := PyI.st g3.st h_paper
    have h_number := PyI.st g3.st h_number
    have h_at := PyI.st g3.st h_at
    have h_square := PyI.st g3.st h_square
    have h_index := PyI.st g3.st h_index
    have h_own := PyI.st g3.st h_own
    have g0 := g0.trans g3
    have ho_bends : Var (kL (Ls (Tri Sq Int Int))) W0 W3 fp_bends a3_bends v_bends := ⟨ho0_bends, hz_bends, fun b m => (hf_bends b m).2.2⟩
    refine q_forN (W := W3) tk_N (ew_lst (eas_cons ew_int (eas_cons (ew_max2 ew_int (ew_sub (ew_var (v := v_own) rfl h_own) ew_int)) (eas_cons (ew_add (ew_var (v := v_own) rfl h_own) ew_int) (eas_cons (ew_add (ew_var (v := v_own) rfl h_own) ew_int) (eas_nil (α := Int))))))) g0.ok hm fun xs4 p_it4 vs_it4 W4 g4 hn_it4 hF_it4 hp_it4 hr_it4 => ?_
    have dj_it4_bends : ∀ b ∈ [p_it4], b ∉ fp_bends := fun b m z => by cases mem_one m; exact (kL (Ls (Tri Sq Int Int))).live ho_bends.own _ z hn_it4
    have nS_it4 : ¬ (efD d).S p_it4 := fun z => g0.ok.S _ z hn_it4
    have h_tide := PyI.st g4.st h_tide
    have h_start := PyI.st g4.st h_start
    have h_goal := PyI.st g4.st h_goal
    have h_paper := PyI.st g4.st h_paper
    have h_number := PyI.st g4.st h_number
    have h_at := PyI.st g4.st h_at
    have h_square := PyI.st g4.st h_square
    have h_index := PyI.st g4.st h_index
    have h_own := PyI.st g4.st h_own
    have ho_bends := ho_bends.go g00 g4
    have g0 := g0.trans g4
    refine ⟨fun y σ' W' => ∃ (v_bends : V) (fp_bends : List Addr) (o_more : Option V), σ' = [some (.ref d.p), some v_tide, some v_start, some v_goal, some v_paper, some v_number, some v_at, some v_square, some v_index, some v_own, some v_bends, o_more, none, none, none] ∧ Gw (efD d) W0 W' ∧ St W4 W' ∧ Var (kL (Ls (Tri Sq Int Int))) W0 W' fp_bends y v_bends ∧ W'.H p_it4 = some (.lst vs_it4) ∧ (∀ b ∈ [p_it4], b ∉ fp_bends), ⟨v_bends, fp_bends, _, rfl, g0, (St.refl _), ho_bends, hp_it4, dj_it4_bends⟩, fun _ _ _ hI => ?_, fun c4 y4 σi s2 Wi4 R4 nx4 ht hI hm kn4 kb4 kr4 => ?_, fun z4 σi Wi4 hI hm => ?_⟩
    · obtain ⟨v_bends, fp_bends, o_more, rfl, g0, sl4, ho_bends, hp_it4, dj_it4_bends⟩ := hI
      exact ⟨sl4, hp_it4⟩
    ·
      obtain ⟨v_bends, fp_bends, o_more, rfl, g0, sl4, ho_bends, hp_it4, dj_it4_bends⟩ := hI
      have h_tide := PyI.st sl4 h_tide
      have h_start := PyI.st sl4 h_start
      have h_goal := PyI.st sl4 h_goal
      have h_paper := PyI.st sl4 h_paper
      have h_number := PyI.st sl4 h_number
      have h_at := PyI.st sl4 h_at
      have h_square := PyI.st sl4 h_square
      have h_index := PyI.st sl4 h_index
      have h_own := PyI.st sl4 h_own
      obtain ⟨v_more, rfl, h_more⟩ := ht
      refine st_app (W := Wi4) g00 g0 rfl ho_bends (ew_frz (ew_cat (ew_rd (ew_cat (ew_rd (ew_slL (ew_ls (ew_var (v := v_paper) rfl h_paper)) eo_none (eo_some (ew_var (v := v_at) rfl h_at)))) (ew_rd (ew_lst (eas_cons (ew_tri (ew_var (v := v_square) rfl h_square) (ew_var (v := v_index) rfl h_index) (ew_var (v := v_more) rfl h_more)) (eas_nil (α := (Tri Sq Int Int)))))))) (ew_rd (ew_slL (ew_ls (ew_var (v := v_paper) rfl h_paper)) (eo_some (ew_add (ew_var (v := v_at) rfl h_at) ew_int)) eo_none)))) hm fun a5_bends W5_ W5 l_bends el_bends g5 s g02 kk ff ho_bends hm => ?_
      have h_tide := PyI.st g5.st h_tide
      have h_start := PyI.st g5.st h_start
      have h_goal := PyI.st g5.st h_goal
      have h_paper := PyI.st g5.st h_paper
      have h_number := PyI.st g5.st h_number
      have h_at := PyI.st g5.st h_at
      have h_square := PyI.st g5.st h_square
      have h_index := PyI.st g5.st h_index
      have h_own := PyI.st g5.st h_own
      have h_more := PyI.st g5.st h_more
      have sl4 := sl4.trans g5.st
      have hp_it4 := g5.keep _ _ hp_it4 nS_it4
      have g0 := g0.trans g5
      have h_tide := PyI.st s h_tide
      have h_start := PyI.st s h_start
      have h_goal := PyI.st s h_goal
      have h_paper := PyI.st s h_paper
      have h_number := PyI.st s h_number
      have h_at := PyI.st s h_at
      have h_square := PyI.st s h_square
      have h_index := PyI.st s h_index
      have h_own := PyI.st s h_own
      have h_more := PyI.st s h_more
      have sl4 := sl4.trans s
      have hp_it4 := kk [p_it4] _ Kp.refl dj_it4_bends _ (List.mem_singleton.mpr rfl) _ hp_it4
      have g0 := g02
      exact kn4 a5_bends _ W5 ⟨v_bends, fp_bends, _, rfl, g0, sl4, ho_bends, hp_it4, dj_it4_bends⟩ hm
    ·
      obtain ⟨v_bends, fp_bends, o_more, rfl, g0, sl4, ho_bends, hp_it4, dj_it4_bends⟩ := hI
      have h_tide := PyI.st sl4 h_tide
      have h_start := PyI.st sl4 h_start
      have h_goal := PyI.st sl4 h_goal
      have h_paper := PyI.st sl4 h_paper
      have h_number := PyI.st sl4 h_number
      have h_at := PyI.st sl4 h_at
      have h_square := PyI.st sl4 h_square
      have h_index := PyI.st sl4 h_index
      have h_own := PyI.st sl4 h_own
      refine q_app (W := Wi4) g00 g0 rfl ho_bends (ew_frz (ew_cat (ew_rd (ew_cat (ew_rd (ew_slL (ew_ls (ew_var (v := v_paper) rfl h_paper)) eo_none (eo_some (ew_var (v := v_at) rfl h_at)))) (ew_rd (ew_lst (eas_cons (ew_tri (ew_var (v := v_square) rfl h_square) (ew_mod (ew_add (ew_var (v := v_index) rfl h_index) ew_int) (ew_lenT (ew_var (v := v_tide) rfl h_tide))) (ew_var (v := v_own) rfl h_own)) (eas_nil (α := (Tri Sq Int Int)))))))) (ew_rd (ew_slL (ew_ls (ew_var (v := v_paper) rfl h_paper)) (eo_some (ew_add (ew_var (v := v_at) rfl h_at) ew_int)) eo_none)))) hm fun a6_bends W6_ W6 l_bends el_bends g6 s g02 kk ff ho_bends hm => ?_
      have h_tide := PyI.st g6.st h_tide
      have h_start := PyI.st g6.st h_start
      have h_goal := PyI.st g6.st h_goal
      have h_paper := PyI.st g6.st h_paper
      have h_number := PyI.st g6.st h_number
      have h_at := PyI.st g6.st h_at
      have h_square := PyI.st g6.st h_square
      have h_index := PyI.st g6.st h_index
      have h_own := PyI.st g6.st h_own
      have g0 := g0.trans g6
      have h_tide := PyI.st s h_tide
      have h_start := PyI.st s h_start
      have h_goal := PyI.st s h_goal
      have h_paper := PyI.st s h_paper
      have h_number := PyI.st s h_number
      have h_at := PyI.st s h_at
      have h_square := PyI.st s h_square
      have h_index := PyI.st s h_index
      have h_own := PyI.st s h_own
      have g0 := g02
      refine q_app (W := W6) g00 g0 rfl ho_bends (ew_frz (ew_lcL (ew_ls (ew_var (v := v_paper) rfl h_paper)) takes_T3 (fun _ _ _ h => by obtain ⟨v_spot, v_k, v_worth, ec, h_spot, h_k, h_worth⟩ := h; subst ec; rfl) (fun c1 Wc1 s2 gc1 h => by obtain ⟨v_spot, v_k, v_worth, ec, h_spot, h_k, h_worth⟩ := h; subst ec; have h_paper := PyI.st gc1.st h_paper; exact et_yes) (fun c1 Wc1 s2 gc1 h => by obtain ⟨v_spot, v_k, v_worth, ec, h_spot, h_k, h_worth⟩ := h; subst ec; have h_paper := PyI.st gc1.st h_paper; exact (ew_tri (ew_var (v := v_spot) rfl h_spot) (ew_var (v := v_k) rfl h_k) (ew_max2 ew_int (ew_sub (ew_var (v := v_worth) rfl h_worth) ew_int)))))) hm fun a7_bends W7_ W7 l_bends el_bends g7 s g02 kk ff ho_bends hm => ?_
      have h_tide := PyI.st g7.st h_tide
      have h_start := PyI.st g7.st h_start
      have h_goal := PyI.st g7.st h_goal
      have h_paper := PyI.st g7.st h_paper
      have h_number := PyI.st g7.st h_number
      have h_at := PyI.st g7.st h_at
      have h_square := PyI.st g7.st h_square
      have h_index := PyI.st g7.st h_index
      have h_own := PyI.st g7.st h_own
      have g0 := g0.trans g7
      have h_tide := PyI.st s h_tide
      have h_start := PyI.st s h_start
      have h_goal := PyI.st s h_goal
      have h_paper := PyI.st s h_paper
      have h_number := PyI.st s h_number
      have h_at := PyI.st s h_at
      have h_square := PyI.st s h_square
      have h_index := PyI.st s h_index
      have h_own := PyI.st s h_own
      have g0 := g02
      refine q_app (W := W7) g00 g0 rfl ho_bends (ew_frz (ew_lcL (ew_ls (ew_var (v := v_paper) rfl h_paper)) takes_T3 (fun _ _ _ h => by obtain ⟨v_spot, v_k, v_worth, ec, h_spot, h_k, h_worth⟩ := h; subst ec; rfl) (fun c2 Wc2 s2 gc2 h => by obtain ⟨v_spot, v_k, v_worth, ec, h_spot, h_k, h_worth⟩ := h; subst ec; have h_paper := PyI.st gc2.st h_paper; exact et_yes) (fun c2 Wc2 s2 gc2 h => by obtain ⟨v_spot, v_k, v_worth, ec, h_spot, h_k, h_worth⟩ := h; subst ec; have h_paper := PyI.st gc2.st h_paper; exact (ew_tri (ew_var (v := v_spot) rfl h_spot) (ew_var (v := v_k) rfl h_k) (ew_add (ew_var (v := v_worth) rfl h_worth) ew_int))))) hm fun a8_bends W8_ W8 l_bends el_bends g8 s g02 kk ff ho_bends hm => ?_
      have h_tide := PyI.st g8.st h_tide
      have h_start := PyI.st g8.st h_start
      have h_goal := PyI.st g8.st h_goal
      have h_paper := PyI.st g8.st h_paper
      have h_number := PyI.st g8.st h_number
      have h_at := PyI.st g8.st h_at
      have h_square := PyI.st g8.st h_square
      have h_index := PyI.st g8.st h_index
      have h_own := PyI.st g8.st h_own
      have g0 := g0.trans g8
      have h_tide := PyI.st s h_tide
      have h_start := PyI.st s h_start
      have h_goal := PyI.st s h_goal
      have h_paper := PyI.st s h_paper
      have h_number := PyI.st s h_number
      have h_at := PyI.st s h_at
      have h_square := PyI.st s h_square
      have h_index := PyI.st s h_index
      have h_own := PyI.st s h_own
      have g0 := g02
      refine q_app (W := W8) g00 g0 rfl ho_bends (ew_frz (ew_lcL (ew_ls (ew_var (v := v_paper) rfl h_paper)) takes_T3 (fun _ _ _ h => by obtain ⟨v_spot, v_k, v_worth, ec, h_spot, h_k, h_worth⟩ := h; subst ec; rfl) (fun c3 Wc3 s2 gc3 h => by obtain ⟨v_spot, v_k, v_worth, ec, h_spot, h_k, h_worth⟩ := h; subst ec; have h_start := PyI.st gc3.st h_start; have h_paper := PyI.st gc3.st h_paper; exact et_yes) (fun c3 Wc3 s2 gc3 h => by obtain ⟨v_spot, v_k, v_worth, ec, h_spot, h_k, h_worth⟩ := h; subst ec; have h_start := PyI.st gc3.st h_start; have h_paper := PyI.st gc3.st h_paper; exact (ew_tri (ew_var (v := v_spot) rfl h_spot) (ew_var (v := v_k) rfl h_k) (ew_max2 ew_int (ew_sub (ew_var (v := v_worth) rfl h_worth) (ew_int1b (ew_andV (ew_eqD (ew_var (v := v_spot) rfl h_spot) (ew_var (v := v_start) rfl h_start)) (ew_eq (ew_var (v := v_k) rfl h_k) ew_int))))))))) hm fun a9_bends W9_ W9 l_bends el_bends g9 s g02 kk ff ho_bends hm => ?_
      have h_tide := PyI.st g9.st h_tide
      have h_start := PyI.st g9.st h_start
      have h_goal := PyI.st g9.st h_goal
      have h_paper := PyI.st g9.st h_paper
      have h_number := PyI.st g9.st h_number
      have h_at := PyI.st g9.st h_at
      have h_square := PyI.st g9.st h_square
      have h_index := PyI.st g9.st h_index
      have h_own := PyI.st g9.st h_own
      have g0 := g0.trans g9
      have h_tide := PyI.st s h_tide
      have h_start := PyI.st s h_start
      have h_goal := PyI.st s h_goal
      have h_paper := PyI.st s h_paper
      have h_number := PyI.st s h_number
      have h_at := PyI.st s h_at
      have h_square := PyI.st s h_square
      have h_index := PyI.st s h_index
      have h_own := PyI.st s h_own
      have g0 := g02
      refine q_app (W := W9) g00 g0 rfl ho_bends (ew_frz (ew_lcL (ew_ls (ew_var (v := v_paper) rfl h_paper)) takes_T3 (fun _ _ _ h => by obtain ⟨v_spot, v_k, v_worth, ec, h_spot, h_k, h_worth⟩ := h; subst ec; rfl) (fun c4 Wc4 s2 gc4 h => by obtain ⟨v_spot, v_k, v_worth, ec, h_spot, h_k, h_worth⟩ := h; subst ec; have h_goal := PyI.st gc4.st h_goal; have h_paper := PyI.st gc4.st h_paper; exact et_yes) (fun c4 Wc4 s2 gc4 h => by obtain ⟨v_spot, v_k, v_worth, ec, h_spot, h_k, h_worth⟩ := h; subst ec; have h_goal := PyI.st gc4.st h_goal; have h_paper := PyI.st gc4.st h_paper; exact (ew_tri (ew_var (v := v_spot) rfl h_spot) (ew_var (v := v_k) rfl h_k) (ew_max2 (ew_var (v := v_worth) rfl h_worth) (ew_int1b (ew_eqD (ew_var (v := v_spot) rfl h_spot) (ew_var (v := v_goal) rfl h_goal)))))))) hm fun a10_bends W10_ W10 l_bends el_bends g10 s g02 kk ff ho_bends hm => ?_
      have h_tide := PyI.st g10.st h_tide
      have h_start := PyI.st g10.st h_start
      have h_goal := PyI.st g10.st h_goal
      have h_paper := PyI.st g10.st h_paper
      have h_number := PyI.st g10.st h_number
      have h_at := PyI.st g10.st h_at
      have h_square := PyI.st g10.st h_square
      have h_index := PyI.st g10.st h_index
      have h_own := PyI.st g10.st h_own
      have g0 := g0.trans g10
      have h_tide := PyI.st s h_tide
      have h_start := PyI.st s h_start
      have h_goal := PyI.st s h_goal
      have h_paper := PyI.st s h_paper
      have h_number := PyI.st s h_number
      have h_at := PyI.st s h_at
      have h_square := PyI.st s h_square
      have h_index := PyI.st s h_index
      have h_own := PyI.st s h_own
      have g0 := g02
      refine q_app (W := W10) g00 g0 rfl ho_bends (ew_frz (ew_lcL (ew_ls (ew_var (v := v_paper) rfl h_paper)) takes_T3 (fun _ _ _ h => by obtain ⟨v_spot, v_k, v_worth, ec, h_spot, h_k, h_worth⟩ := h; subst ec; rfl) (fun c5 Wc5 s2 gc5 h => by obtain ⟨v_spot, v_k, v_worth, ec, h_spot, h_k, h_worth⟩ := h; subst ec; have h_goal := PyI.st gc5.st h_goal; have h_paper := PyI.st gc5.st h_paper; have h_number := PyI.st gc5.st h_number; exact et_yes) (fun c5 Wc5 s2 gc5 h => by obtain ⟨v_spot, v_k, v_worth, ec, h_spot, h_k, h_worth⟩ := h; subst ec; have h_goal := PyI.st gc5.st h_goal; have h_paper := PyI.st gc5.st h_paper; have h_number := PyI.st gc5.st h_number; exact (ew_tri (ew_var (v := v_spot) rfl h_spot) (ew_var (v := v_k) rfl h_k) (ew_ifE (et_t (ew_eqD (ew_var (v := v_spot) rfl h_spot) (ew_var (v := v_goal) rfl h_goal))) ew_int (ew_var (v := v_number) rfl h_number)))))) hm fun a11_bends W11_ W11 l_bends el_bends g11 s g02 kk ff ho_bends hm => ?_
      have h_tide := PyI.st g11.st h_tide
      have h_start := PyI.st g11.st h_start
      have h_goal := PyI.st g11.st h_goal
      have h_paper := PyI.st g11.st h_paper
      have h_number := PyI.st g11.st h_number
      have h_at := PyI.st g11.st h_at
      have h_square := PyI.st g11.st h_square
      have h_index := PyI.st g11.st h_index
      have h_own := PyI.st g11.st h_own
      have g0 := g0.trans g11
      have h_tide := PyI.st s h_tide
      have h_start := PyI.st s h_start
      have h_goal := PyI.st s h_goal
      have h_paper := PyI.st s h_paper
      have h_number := PyI.st s h_number
      have h_at := PyI.st s h_at
      have h_square := PyI.st s h_square
      have h_index := PyI.st s h_index
      have h_own := PyI.st s h_own
      have g0 := g02
      exact ⟨_, rfl, hm _ W11 g0 rfl ⟨fp_bends, ho_bends.own, fun b m => ⟨ho_bends.fr b m, Var.nS g00 ho_bends b m, ho_bends.nF b m⟩⟩⟩
abbrev s__law_says : Stmt := top 34
abbrev N__law_says : List Str := ["relief", "tide", "start", "goal", "number", "paper", "handed", "told"]
abbrev P__law_says : List Str := ["relief", "tide", "start", "goal", "number", "paper"]
theorem sc__law_says : FnScope N__law_says P__law_says (defScope s__law_says) := ⟨rfl, rfl, rfl, by decide +kernel, rfl, by decide +kernel, by decide +kernel⟩
def m__law_says (a_relief : (List Str)) (a_tide : (List Int)) (a_start : Sq) (a_goal : Sq) (a_number : Int) (a_paper : (Ls (Tri Sq Int Int))) : WP Bool := (((WP.pure a_paper).bind fun x => WP.pure x.l).bind fun xs => WP.pure (α := List _) xs).bind fun a1_handed => (WP.b6 (WP.pure a_relief) (WP.pure a_tide) (WP.pure a_start) (WP.pure a_goal) (WP.pure a_number) (WP.pure a1_handed) m_shows_late).bind fun a2_told => (WP.and (WP.b2 (WP.pure a2_told) (WP.b6 (WP.pure a_relief) (WP.pure a_tide) (WP.pure a_start) (WP.pure a_goal) (WP.pure a_number) (WP.pure a_paper) m__law_is_late) m__law_yes) (WP.eqLD (WP.pure a1_handed) ((WP.pure a_paper).bind fun x => WP.pure x.l))).bind fun r3 => (WP.pure r3)
def sp__law_says : Sp := fun vs H Q _ => ∃ (W : Wo) (a_relief : (List Str)) (a_tide : (List Int)) (a_start : Sq) (a_goal : Sq) (a_number : Int) (a_paper : (Ls (Tri Sq Int Int))) (v_relief v_tide v_start v_goal v_number v_paper : V), vs = [v_relief, v_tide, v_start, v_goal, v_number, v_paper] ∧ W.H = H ∧ Good ef0 W ∧ Rp W a_relief v_relief ∧ Rp W a_tide v_tide ∧ Rp W a_start v_start ∧ Rp W a_goal v_goal ∧ Rp W a_number v_number ∧ Rp W a_paper v_paper ∧ (m__law_says a_relief a_tide a_start a_goal a_number a_paper).run W.n fun n r => ∀ v W', Gw ef0 W W' → W'.n = n → (sI (e := ef0) (α := Bool)).post W W' r v → Q v W'.H
theorem ev__law_says {e : Ef} {σ : L2.St} {W : Wo} {E : XK} {t0 t1 t2 t3 t4 t5 : TE} {w0 : WP (List Str)} {w1 : WP (List Int)} {w2 : WP Sq} {w3 : WP Sq} {w4 : WP Int} {w5 : WP (Ls (Tri Sq Int Int))} (h0 : EvW e t0 σ W sI w0) (h1 : EvW e t1 σ W sI w1) (h2 : EvW e t2 σ W sI w2) (h3 : EvW e t3 σ W sI w3) (h4 : EvW e t4 σ W sI w4) (h5 : EvW e t5 σ W sI w5) : EvW e (tCall sp__law_says [] E (tCons t0 (tCons t1 (tCons t2 (tCons t3 (tCons t4 (tCons t5 tNil))))))) σ W (sI (α := Bool)) (WP.b6 w0 w1 w2 w3 w4 w5 m__law_says) := ew_call6N h0 h1 h2 h3 h4 h5 fun W2 b0 b1 b2 b3 b4 b5 x0 x1 x2 x3 x4 x5 g2 r0 r1 r2 r3 r4 r5 Q q E => by
  exact ⟨W2, b0, b1, b2, b3, b4, b5, x0, x1, x2, x3, x4, x5, rfl, rfl, g2.z, r0, r1, r2, r3, r4, r5, WP.mono _ (fun n c h v W3 g3 hn p => h v W3 (Gw.up g2 g3) hn p) q⟩
theorem ok__law_says (F : At K mg "_law_says" s__law_says P__law_says) (G : Glb mg) (H__law_is_late : Has P w K mg base "_law_is_late" 3 P__law_is_late sp__law_is_late) (H__law_yes : Has P w K mg base "_law_yes" 1 P__law_yes sp__law_yes) (H_shows_late : Has P w K mg base "shows_late" 4 P_shows_late sp_shows_late) : Has P w K mg base "_law_says" 5 P__law_says sp__law_says := by
  refine Has.of F sc__law_says (fun vs H Q E h => ?_) (fun f cdv A outer s H0 vs Q E hr h => ?_)
  · obtain ⟨W0, a_relief, a_tide, a_start, a_goal, a_number, a_paper, v_relief, v_tide, v_start, v_goal, v_number, v_paper, rfl, _⟩ := h
    rfl
  · obtain ⟨W0, a_relief, a_tide, a_start, a_goal, a_number, a_paper, v_relief, v_tide, v_start, v_goal, v_number, v_paper, rfl, rfl, g00, h_relief, h_tide, h_start, h_goal, h_number, h_paper, hm⟩ := h
    have sc := sc__law_says
    have g0 := Gw.refl g00
    unfold m__law_says at hm
    refine ⟨_, (pss_cons (ps_set (i := 6) sc.nd rfl (Or.inl rfl) (pe_callTy call_list_of (by rfl) G.list (by decide +kernel) (pa_cons (pv 5) pa_nil)))
      (pss_cons (ps_set (i := 7) sc.nd rfl (Or.inl rfl) (pe_user H_shows_late (hr.mono (by decide)) rfl (pa_cons (pv 0) (pa_cons (pv 1) (pa_cons (pv 2) (pa_cons (pv 3) (pa_cons (pv 4) (pa_cons (pv 6) pa_nil))))))))
      (pss_one (ps_ret (pe_and (pe_user H__law_yes (hr.mono (by decide)) rfl (pa_cons (pv 7) (pa_cons (pe_user H__law_is_late (hr.mono (by decide)) rfl (pa_cons (pv 0) (pa_cons (pv 1) (pa_cons (pv 2) (pa_cons (pv 3) (pa_cons (pv 4) (pa_cons (pv 5) pa_nil))))))) pa_nil))) (pe_one (pe_cmpR (op_eqD hr.units) (pv 6) (pv 5) (nomark _)))))))), ?_⟩
    refine q_asg (W := W0) (ew_copy (ew_ls (ew_var (v := v_paper) rfl h_paper))) g0.ok hm fun a1_handed v_handed W1 g1 ⟨fp_handed, ho0_handed, hf_handed⟩ hm => ?_
    have hz_handed : ∀ a ∈ fp_handed, W0.H a = none := fun a m => g0.live a (hf_handed a m).1
    have h_relief := PyI.st g1.st h_relief
    have h_tide := PyI.st g1.st h_tide
    have h_start := PyI.st g1.st h_start
    have h_goal := PyI.st g1.st h_goal
    have h_number := PyI.st g1.st h_number
    have h_paper := PyI.st g1.st h_paper
    have g0 := g0.trans g1
    have ho_handed : Var (kL (Tri Sq Int Int)) W0 W1 fp_handed a1_handed v_handed := ⟨ho0_handed, hz_handed, fun b m => (hf_handed b m).2.2⟩
    first | refine norm_st (σ' := [some v_relief, some v_tide, some v_start, some v_goal, some v_number, some v_paper, some v_handed, none]) rfl ?_ | skip
    refine q_asg (W := W1) (ev_shows_late (ew_var (v := v_relief) rfl h_relief) (ew_var (v := v_tide) rfl h_tide) (ew_var (v := v_start) rfl h_start) (ew_var (v := v_goal) rfl h_goal) (ew_var (v := v_number) rfl h_number) (ew_varR (v := v_handed) rfl (Var.nS g00 ho_handed) ho_handed.own)) g0.ok hm fun a2_told v_told W2 g2 h_told hm => ?_
    have h_relief := PyI.st g2.st h_relief
    have h_tide := PyI.st g2.st h_tide
    have h_start := PyI.st g2.st h_start
    have h_goal := PyI.st g2.st h_goal
    have h_number := PyI.st g2.st h_number
    have h_paper := PyI.st g2.st h_paper
    have ho_handed := ho_handed.go g00 g2
    have g0 := g0.trans g2
    refine st_ret (W := W2) (ew_andV (ev__law_yes (ew_var (v := v_told) rfl h_told) (ev__law_is_late (ew_var (v := v_relief) rfl h_relief) (ew_var (v := v_tide) rfl h_tide) (ew_var (v := v_start) rfl h_start) (ew_var (v := v_goal) rfl h_goal) (ew_var (v := v_number) rfl h_number) (ew_var (v := v_paper) rfl h_paper))) (ew_eqLD (ew_varR (v := v_handed) rfl (Var.nS g00 ho_handed) ho_handed.own) (ew_ls (ew_var (v := v_paper) rfl h_paper)))) g0.ok hm fun r3 v_ret W3 g3 hp hm => ?_
    exact hm v_ret W3 (g0.trans g3) rfl hp
abbrev s_law : Stmt := top 35
abbrev N_law : List Str := ["script", "deal", "rows", "columns", "relief", "tide", "start", "goal", "number", "paper", "shown", "square", "index", "own", "right", "wrong", "bent", "claim", "row"]
abbrev P_law : List Str := ["script"]
theorem sc_law : FnScope N_law P_law (defScope s_law) := ⟨rfl, rfl, rfl, by decide +kernel, rfl, by decide +kernel, by decide +kernel⟩
def m_law (a_script : List Int) : WP Bool := (WP.b2 (WP.pure ()) (WP.pure (4 : Int)) m__law_sizes).bind fun a1_rows_columns => (WP.b3 (WP.pure ()) (WP.pure a1_rows_columns.1) (WP.pure a1_rows_columns.2) m__law_relief).bind fun a2_relief => (WP.b1 (WP.pure ()) m__law_tide).bind fun a3_tide => (WP.b3 (WP.pure ()) (WP.pure a2_relief) (WP.pure a3_tide) m__law_start).bind fun a4_start => (WP.b2 (WP.pure ()) (WP.b1 (WP.pure a2_relief) m__law_all) m__law_pick).bind fun a5_goal => (WP.b2 (WP.pure ()) (WP.pure (10 : Int)) m_take).bind fun a6_number => ((WP.b4 (WP.pure a2_relief) (WP.pure a3_tide) (WP.pure a5_goal) (WP.pure a6_number) m__law_left).bind fun xs => WP.pure (⟨xs⟩ : (Ls (Tri Sq Int Int)))).bind fun a7_paper => (WP.pure a6_number).bind fun a8_shown => ((WP.pure a7_paper).bind fun x => WP.pure x.l).bind fun xs9 => WP.after (WP.loop (γ := Bool) (fun c9 (y9 : Int) => ((WP.and (WP.eqD (WP.pure c9.a) (WP.pure a4_start)) (WP.eq (WP.pure c9.b) (WP.pure (0 : Int)))).bind fun b => WP.cond b ((WP.pure c9.c).bind fun a11_shown => (WP.pure a11_shown)) ((WP.pure y9))).bind fun (y10 : Int) => (WP.pure (.nx y10))) xs9 a8_shown) (fun (z9 : Int) => (WP.b3 (WP.pure a2_relief) (WP.pure a3_tide) (WP.pure a7_paper) m__law_rights).bind fun xs12 => WP.after (WP.loop (γ := Bool) (fun c12 (y12 : Unit) => (WP.not (WP.b2 (WP.b6 (WP.pure a2_relief) (WP.pure a3_tide) (WP.pure a4_start) (WP.pure a5_goal) (WP.pure z9) (((WP.pure c12).bind fun x => WP.pure x.l).bind fun xs => WP.pure (α := List _) xs) m_shows_late) (WP.pure true) m__law_yes)).bind fun b => WP.cond b ((WP.pure false).bind fun r14 => (WP.pure (.rt r14))) ((WP.pure (.nx ())))) xs12 ()) (fun (z12 : Unit) => (WP.gt (WP.len ((WP.pure a7_paper).bind fun x => WP.pure x.l)) (WP.pure (0 : Int))).bind fun b => WP.cond b ((WP.b4 (WP.pure ()) (WP.pure a2_relief) (WP.pure a3_tide) (WP.pure a7_paper) m__law_outs).bind fun xs16 => WP.after (WP.loop (γ := Bool) (fun c16 (y16 : Unit) => (WP.not (WP.b2 (WP.b6 (WP.pure a2_relief) (WP.pure a3_tide) (WP.pure a4_start) (WP.pure a5_goal) (WP.pure z9) (((WP.pure c16).bind fun x => WP.pure x.l).bind fun xs => WP.pure (α := List _) xs) m_shows_late) (WP.pure false) m__law_yes)).bind fun b => WP.cond b ((WP.pure false).bind fun r18 => (WP.pure (.rt r18))) ((WP.pure (.nx ())))) xs16 ()) (fun (z16 : Unit) => (WP.b6 (WP.pure ()) (WP.pure a3_tide) (WP.pure a4_start) (WP.pure a5_goal) (WP.pure a7_paper) (WP.pure a6_number) m__law_bends).bind fun xs19 => WP.after (WP.loop (γ := Bool) (fun c19 (y19 : Unit) => (WP.not (WP.b6 (WP.pure a2_relief) (WP.pure a3_tide) (WP.pure a4_start) (WP.pure a5_goal) (WP.pure z9) (WP.pure c19) m__law_says)).bind fun b => WP.cond b ((WP.pure false).bind fun r21 => (WP.pure (.rt r21))) ((WP.pure (.nx ())))) xs19 ()) (fun (z19 : Unit) => (WP.row (WP.consE (WP.pure (0 : Int)) (WP.consE (WP.max2 (WP.pure (0 : Int)) (WP.sub (WP.pure z9) (WP.pure (1 : Int)))) (WP.consE (WP.add (WP.pure z9) (WP.pure (1 : Int))) (WP.consE (WP.pow (WP.pure (10 : Int)) (WP.pure (20 : Int))) (WP.pure ([] : List Int))))))).bind fun xs22 => WP.after (WP.loop (γ := Bool) (fun c22 (y22 : Unit) => (WP.row (WP.consE ((WP.row (WP.pure ([] : List (Tri Sq Int Int)))).bind fun xs => WP.pure (⟨xs⟩ : (Ls (Tri Sq Int Int)))) (WP.consE (WP.pure a7_paper) (WP.pure ([] : List (Ls (Tri Sq Int Int))))))).bind fun xs23 => WP.after (WP.loop (γ := Bool) (fun c23 (y23 : Unit) => (WP.not (WP.b6 (WP.pure a2_relief) (WP.pure a3_tide) (WP.pure a4_start) (WP.pure a5_goal) (WP.pure c22) (WP.pure c23) m__law_says)).bind fun b => WP.cond b ((WP.pure false).bind fun r25 => (WP.pure (.rt r25))) ((WP.pure (.nx ())))) xs23 ()) (fun (z23 : Unit) => (WP.pure (.nx ()))) (fun r => (WP.pure (.rt r)))) xs22 ()) (fun (z22 : Unit) => (WP.pure true).bind fun r26 => (WP.pure r26)) (fun r => (WP.pure r))) (fun r => (WP.pure r))) (fun r => (WP.pure r))) ((WP.row (WP.consE (WP.pure (0 : Int)) (WP.consE (WP.max2 (WP.pure (0 : Int)) (WP.sub (WP.pure z9) (WP.pure (1 : Int)))) (WP.consE (WP.add (WP.pure z9) (WP.pure (1 : Int))) (WP.consE (WP.pow (WP.pure (10 : Int)) (WP.pure (20 : Int))) (WP.pure ([] : List Int))))))).bind fun xs27 => WP.after (WP.loop (γ := Bool) (fun c27 (y27 : Unit) => (WP.row (WP.consE ((WP.row (WP.pure ([] : List (Tri Sq Int Int)))).bind fun xs => WP.pure (⟨xs⟩ : (Ls (Tri Sq Int Int)))) (WP.consE (WP.pure a7_paper) (WP.pure ([] : List (Ls (Tri Sq Int Int))))))).bind fun xs28 => WP.after (WP.loop (γ := Bool) (fun c28 (y28 : Unit) => (WP.not (WP.b6 (WP.pure a2_relief) (WP.pure a3_tide) (WP.pure a4_start) (WP.pure a5_goal) (WP.pure c27) (WP.pure c28) m__law_says)).bind fun b => WP.cond b ((WP.pure false).bind fun r30 => (WP.pure (.rt r30))) ((WP.pure (.nx ())))) xs28 ()) (fun (z28 : Unit) => (WP.pure (.nx ()))) (fun r => (WP.pure (.rt r)))) xs27 ()) (fun (z27 : Unit) => (WP.pure true).bind fun r31 => (WP.pure r31)) (fun r => (WP.pure r)))) (fun r => (WP.pure r))) (fun r => (WP.pure r))
theorem ok_law {fa : Addr} {fd : FuncData} (LT : ∀ ns : List Int, ns.length ≤ 63 → (m_law ns).run 0 fun _ b => b = true) (F : Fun K "law" "law" s_law fa fd) (G : Glb mg) (H__law_all : Has P w K mg base "_law_all" 1 P__law_all sp__law_all) (H__law_bends : Has P w K mg base "_law_bends" 2 P__law_bends sp__law_bends) (H__law_deal : Has P w K mg base "_law_deal" 1 P__law_deal (sp_deal K)) (H__law_left : Has P w K mg base "_law_left" 3 P__law_left sp__law_left) (H__law_outs : Has P w K mg base "_law_outs" 2 P__law_outs sp__law_outs) (H__law_pick : Has P w K mg base "_law_pick" 2 P__law_pick sp__law_pick) (H__law_relief : Has P w K mg base "_law_relief" 3 P__law_relief sp__law_relief) (H__law_rights : Has P w K mg base "_law_rights" 3 P__law_rights sp__law_rights) (H__law_says : Has P w K mg base "_law_says" 5 P__law_says sp__law_says) (H__law_sizes : Has P w K mg base "_law_sizes" 2 P__law_sizes sp__law_sizes) (H__law_start : Has P w K mg base "_law_start" 3 P__law_start sp__law_start) (H__law_take : Has P w K mg base "_law_take" 1 P__law_take sp_take) (H__law_tide : Has P w K mg base "_law_tide" 2 P__law_tide sp__law_tide) (H__law_yes : Has P w K mg base "_law_yes" 1 P__law_yes sp__law_yes) (H_shows_late : Has P w K mg base "shows_late" 4 P_shows_late sp_shows_late) : FnOk P w K mg base CX0 6 fa fd P_law (sp_law K) := by
  refine F.ok sc_law (fun vs H Q E h => ?_) (fun cdv A outer s Hent vs Q E hr h => ?_)
  · obtain ⟨v_script, a_script, rfl, _⟩ := h
    rfl
  · obtain ⟨v_script, a_script, rfl, h_script, hlen, kret⟩ := h
    have hm := LT a_script hlen
    have g00 : Good ef0 ⟨Hent, fun _ => False, 0⟩ := ⟨fun _ z => z.elim, fun _ z => z.elim, True.intro⟩
    have sc := sc_law
    have g0 := Gw.refl g00
    unfold m_law at hm
    refine ⟨_, (pss_cons (ps_set (i := 1) sc.nd rfl (Or.inl rfl) (pe_user H__law_deal (hr.mono (by decide)) rfl (pa_cons (pv 0) pa_nil)))
      (pss_cons (ps_asg (pe_user H__law_sizes (hr.mono (by decide)) rfl (pa_cons (pv 1) (pa_cons pe_int pa_nil))) (pg_tup rfl (pgs_cons (pg_name (i := 2) sc.nd rfl (Or.inl rfl)) (pgs_cons (pg_name (i := 3) sc.nd rfl (Or.inl rfl)) pgs_nil))))
      (pss_cons (ps_set (i := 4) sc.nd rfl (Or.inl rfl) (pe_user H__law_relief (hr.mono (by decide)) rfl (pa_cons (pv 1) (pa_cons (pv 2) (pa_cons (pv 3) pa_nil)))))
      (pss_cons (ps_set (i := 5) sc.nd rfl (Or.inl rfl) (pe_user H__law_tide (hr.mono (by decide)) rfl (pa_cons (pv 1) pa_nil)))
      (pss_cons (ps_set (i := 6) sc.nd rfl (Or.inl rfl) (pe_user H__law_start (hr.mono (by decide)) rfl (pa_cons (pv 1) (pa_cons (pv 4) (pa_cons (pv 5) pa_nil)))))
      (pss_cons (ps_set (i := 7) sc.nd rfl (Or.inl rfl) (pe_user H__law_pick (hr.mono (by decide)) rfl (pa_cons (pv 1) (pa_cons (pe_user H__law_all (hr.mono (by decide)) rfl (pa_cons (pv 4) pa_nil)) pa_nil))))
      (pss_cons (ps_set (i := 8) sc.nd rfl (Or.inl rfl) (pe_user H__law_take (hr.mono (by decide)) rfl (pa_cons (pv 1) (pa_cons pe_int pa_nil))))
      (pss_cons (ps_set (i := 9) sc.nd rfl (Or.inl rfl) (pe_user H__law_left (hr.mono (by decide)) rfl (pa_cons (pv 4) (pa_cons (pv 5) (pa_cons (pv 7) (pa_cons (pv 8) pa_nil))))))
      (pss_cons (ps_set (i := 10) sc.nd rfl (Or.inl rfl) (pv 8))
      (pss_cons (ps_for PassesOwn.never rfl (pi_list (pv 9)) (pg_tup rfl (pgs_cons (pg_name (i := 11) sc.nd rfl (Or.inl rfl)) (pgs_cons (pg_name (i := 12) sc.nd rfl (Or.inl rfl)) (pgs_cons (pg_name (i := 13) sc.nd rfl (Or.inl rfl)) pgs_nil))))
      (pss_one (ps_if (PW.pt (pw_and (pt_cmpR (op_eqD hr.units) (pv 11) (pv 6) (nomark _)) (pw_and1 (pt_cmpR op_eq (pv 12) pe_int (nomark _))))) (pss_one (ps_set (i := 10) sc.nd rfl (Or.inl rfl) (pv 13))) pss_nil)))
      (pss_cons (ps_for PassesOwn.never rfl (pi_list (pe_user H__law_rights (hr.mono (by decide)) rfl (pa_cons (pv 4) (pa_cons (pv 5) (pa_cons (pv 9) pa_nil))))) (pg_name (i := 14) sc.nd rfl (Or.inl rfl))
      (pss_one (ps_if (pt_not (pt_val (pe_user H__law_yes (hr.mono (by decide)) rfl (pa_cons (pe_user H_shows_late (hr.mono (by decide)) rfl (pa_cons (pv 4) (pa_cons (pv 5) (pa_cons (pv 6) (pa_cons (pv 7) (pa_cons (pv 10) (pa_cons (pe_callTy call_list_of (by rfl) G.list (by decide +kernel) (pa_cons (pv 14) pa_nil)) pa_nil))))))) (pa_cons pe_bl pa_nil))))) (pss_one (ps_ret pe_bl)) pss_nil)))
      (pss_cons (ps_if (pt_cmpR op_gt (pe_callB call_len_seq (by rfl) G.len PySem.boot_len (pa_cons (pv 9) pa_nil)) pe_int (nomark _)) (pss_cons (ps_for PassesOwn.never rfl (pi_list (pe_user H__law_outs (hr.mono (by decide)) rfl (pa_cons (pv 1) (pa_cons (pv 4) (pa_cons (pv 5) (pa_cons (pv 9) pa_nil)))))) (pg_name (i := 15) sc.nd rfl (Or.inl rfl))
      (pss_one (ps_if (pt_not (pt_val (pe_user H__law_yes (hr.mono (by decide)) rfl (pa_cons (pe_user H_shows_late (hr.mono (by decide)) rfl (pa_cons (pv 4) (pa_cons (pv 5) (pa_cons (pv 6) (pa_cons (pv 7) (pa_cons (pv 10) (pa_cons (pe_callTy call_list_of (by rfl) G.list (by decide +kernel) (pa_cons (pv 15) pa_nil)) pa_nil))))))) (pa_cons pe_bl pa_nil))))) (pss_one (ps_ret pe_bl)) pss_nil)))
      (pss_one (ps_for PassesOwn.never rfl (pi_list (pe_user H__law_bends (hr.mono (by decide)) rfl (pa_cons (pv 1) (pa_cons (pv 5) (pa_cons (pv 6) (pa_cons (pv 7) (pa_cons (pv 9) (pa_cons (pv 8) pa_nil)))))))) (pg_name (i := 16) sc.nd rfl (Or.inl rfl))
      (pss_one (ps_if (pt_not (pt_val (pe_user H__law_says (hr.mono (by decide)) rfl (pa_cons (pv 4) (pa_cons (pv 5) (pa_cons (pv 6) (pa_cons (pv 7) (pa_cons (pv 10) (pa_cons (pv 16) pa_nil))))))))) (pss_one (ps_ret pe_bl)) pss_nil))))) pss_nil)
      (pss_cons (ps_for PassesOwn.never rfl (pi_list (pe_lst (pa_cons pe_int (pa_cons (pe_callB (call_max2 rfl) (by rfl) G.max (by decide +kernel) (pa_cons pe_int (pa_cons (pe_op op_sub (pv 10) pe_int) pa_nil))) (pa_cons (pe_op op_add (pv 10) pe_int) (pa_cons (pe_op op_pow pe_int pe_int) pa_nil)))))) (pg_name (i := 17) sc.nd rfl (Or.inl rfl))
      (pss_one (ps_for PassesOwn.never rfl (pi_list (pe_lst (pa_cons (pe_lst pa_nil) (pa_cons (pv 9) pa_nil)))) (pg_name (i := 18) sc.nd rfl (Or.inl rfl))
      (pss_one (ps_if (pt_not (pt_val (pe_user H__law_says (hr.mono (by decide)) rfl (pa_cons (pv 4) (pa_cons (pv 5) (pa_cons (pv 6) (pa_cons (pv 7) (pa_cons (pv 17) (pa_cons (pv 18) pa_nil))))))))) (pss_one (ps_ret pe_bl)) pss_nil)))))
      (pss_one (ps_ret pe_bl))))))))))))))), ?_⟩
    refine q_deal (W := _) rfl h_script hlen g0.ok rfl fun d W1d g00 hn0 => ?_
    have hm := cast_n hn0 hm
    have g0 := Gw.refl g00
    first | refine norm_st (σ' := [some (.ref v_script), some (.ref d.p), none, none, none, none, none, none, none, none, none, none, none, none, none, none, none, none, none]) rfl ?_ | skip
    refine q_un2 (W := W1d) (ev__law_sizes (ew_deal rfl) ew_int) g0.ok hm fun a1_rows_columns v_rows v_columns W1 g1 h_rows h_columns hm => ?_
    have g0 := g0.trans g1
    first | refine norm_st (σ' := [some (.ref v_script), some (.ref d.p), some v_rows, some v_columns, none, none, none, none, none, none, none, none, none, none, none, none, none, none, none]) rfl ?_ | skip
    refine q_asg (W := W1) (ev__law_relief (ew_deal rfl) (ew_var (v := v_rows) rfl h_rows) (ew_var (v := v_columns) rfl h_columns)) g0.ok hm fun a2_relief v_relief W2 g2 h_relief hm => ?_
    have h_rows := PyI.st g2.st h_rows
    have h_columns := PyI.st g2.st h_columns
    have g0 := g0.trans g2
    refine q_asg (W := W2) (ev__law_tide (ew_deal rfl)) g0.ok hm fun a3_tide v_tide W3 g3 h_tide hm => ?_
    have h_rows := PyI.st g3.st h_rows
    have h_columns := PyI.st g3.st h_columns
    have h_relief := PyI.st g3.st h_relief
    have g0 := g0.trans g3
    first | refine norm_st (σ' := [some (.ref v_script), some (.ref d.p), some v_rows, some v_columns, some v_relief, some v_tide, none, none, none, none, none, none, none, none, none, none, none, none, none]) rfl ?_ | skip
    refine q_asg (W := W3) (ev__law_start (ew_deal rfl) (ew_var (v := v_relief) rfl h_relief) (ew_var (v := v_tide) rfl h_tide)) g0.ok hm fun a4_start v_start W4 g4 h_start hm => ?_
    have h_rows := PyI.st g4.st h_rows
    have h_columns := PyI.st g4.st h_columns
    have h_relief := PyI.st g4.st h_relief
    have h_tide := PyI.st g4.st h_tide
    have g0 := g0.trans g4
    refine q_asg (W := W4) (ev__law_pick (ew_deal rfl) (ew_rd (ev__law_all (ew_var (v := v_relief) rfl h_relief)))) g0.ok hm fun a5_goal v_goal W5 g5 h_goal hm => ?_
    have h_rows := PyI.st g5.st h_rows
    have h_columns := PyI.st g5.st h_columns
    have h_relief := PyI.st g5.st h_relief
    have h_tide := PyI.st g5.st h_tide
    have h_start := PyI.st g5.st h_start
    have g0 := g0.trans g5
    first | refine norm_st (σ' := [some (.ref v_script), some (.ref d.p), some v_rows, some v_columns, some v_relief, some v_tide, some v_start, some v_goal, none, none, none, none, none, none, none, none, none, none, none]) rfl ?_ | skip
    refine q_asg (W := W5) (ev_take (ew_deal rfl) ew_int) g0.ok hm fun a6_number v_number W6 g6 h_number hm => ?_
    have h_rows := PyI.st g6.st h_rows
    have h_columns := PyI.st g6.st h_columns
    have h_relief := PyI.st g6.st h_relief
    have h_tide := PyI.st g6.st h_tide
    have h_start := PyI.st g6.st h_start
    have h_goal := PyI.st g6.st h_goal
    have g0 := g0.trans g6
    refine q_asg (W := W6) (ew_frz (ev__law_left (ew_var (v := v_relief) rfl h_relief) (ew_var (v := v_tide) rfl h_tide) (ew_var (v := v_goal) rfl h_goal) (ew_var (v := v_number) rfl h_number))) g0.ok hm fun a7_paper v_paper W7 g7 h_paper hm => ?_
    have h_rows := PyI.st g7.st h_rows
    have h_columns := PyI.st g7.st h_columns
    have h_relief := PyI.st g7.st h_relief
    have h_tide := PyI.st g7.st h_tide
    have h_start := PyI.st g7.st h_start
    have h_goal := PyI.st g7.st h_goal
    have h_number := PyI.st g7.st h_number
    have g0 := g0.trans g7
    first | refine norm_st (σ' := [some (.ref v_script), some (.ref d.p), some v_rows, some v_columns, some v_relief, some v_tide, some v_start, some v_goal, some v_number, some v_paper, none, none, none, none, none, none, none, none, none]) rfl ?_ | skip
    refine q_asg (W := W7) (ew_var (v := v_number) rfl h_number) g0.ok hm fun a8_shown v_shown W8 g8 h_shown hm => ?_
    have h_rows := PyI.st g8.st h_rows
    have h_columns := PyI.st g8.st h_columns
    have h_relief := PyI.st g8.st h_relief
    have h_tide := PyI.st g8.st h_tide
    have h_start := PyI.st g8.st h_start
    have h_goal := PyI.st g8.st h_goal
    have h_number := PyI.st g8.st h_number
    have h_paper := PyI.st g8.st h_paper
    have g0 := g0.trans g8
    refine q_forF (W := W8) tk_T3 (ew_var (v := v_paper) rfl h_paper) g0.ok hm fun xs9 W9 g9 => ?_
    have h_rows := PyI.st g9.st h_rows
    have h_columns := PyI.st g9.st h_columns
    have h_relief := PyI.st g9.st h_relief
    have h_tide := PyI.st g9.st h_tide
    have h_start := PyI.st g9.st h_start
    have h_goal := PyI.st g9.st h_goal
    have h_number := PyI.st g9.st h_number
    have h_paper := PyI.st g9.st h_paper
    have h_shown := PyI.st g9.st h_shown
    have g0 := g0.trans g9
    refine ⟨fun y σ' W' => ∃ (v_shown : V) (o_square : Option V) (o_index : Option V) (o_own : Option V), σ' = [some (.ref v_script), some (.ref d.p), some v_rows, some v_columns, some v_relief, some v_tide, some v_start, some v_goal, some v_number, some v_paper, some v_shown, o_square, o_index, o_own, none, none, none, none, none] ∧ Gw (efD d) W1d W' ∧ St W9 W' ∧ Rp W' y v_shown, ⟨v_shown, _, _, _, rfl, g0, (St.refl _), h_shown⟩, fun _ _ _ hI => ?_, fun c9 y9 σi s2 Wi9 R9 nx9 ht hI hm kn9 kb9 kr9 => ?_, fun z9 σi Wi9 hI hm => ?_⟩
    · obtain ⟨v_shown, o_square, o_index, o_own, rfl, g0, sl9, h_shown⟩ := hI
      exact sl9
    ·
      obtain ⟨v_shown, o_square, o_index, o_own, rfl, g0, sl9, h_shown⟩ := hI
      have h_rows := PyI.st sl9 h_rows
      have h_columns := PyI.st sl9 h_columns
      have h_relief := PyI.st sl9 h_relief
      have h_tide := PyI.st sl9 h_tide
      have h_start := PyI.st sl9 h_start
      have h_goal := PyI.st sl9 h_goal
      have h_number := PyI.st sl9 h_number
      have h_paper := PyI.st sl9 h_paper
      obtain ⟨v_square, v_index, v_own, rfl, h_square, h_index, h_own⟩ := ht
      refine st_join (W := Wi9) (s := Int) (fun y σ' W' => ∃ (v_shown : V), σ' = [some (.ref v_script), some (.ref d.p), some v_rows, some v_columns, some v_relief, some v_tide, some v_start, some v_goal, some v_number, some v_paper, some v_shown, some v_square, some v_index, some v_own, none, none, none, none, none] ∧ Gw (efD d) W1d W' ∧ St Wi9 W' ∧ Rp W' y v_shown) (et_and (et_t (ew_eqD (ew_var (v := v_square) rfl h_square) (ew_var (v := v_start) rfl h_start))) (et_t (ew_eq (ew_var (v := v_index) rfl h_index) ew_int))) g0.ok hm (fun y10 σj Wj10 hI hm => ?_) (fun W10 R10 g10 hm kj => ?_) (fun W10 R10 g10 hm kj => ?_)
      ·
        obtain ⟨v_shown, rfl, g0, sj10, h_shown⟩ := hI
        have h_rows := PyI.st sj10 h_rows
        have h_columns := PyI.st sj10 h_columns
        have h_relief := PyI.st sj10 h_relief
        have h_tide := PyI.st sj10 h_tide
        have h_start := PyI.st sj10 h_start
        have h_goal := PyI.st sj10 h_goal
        have h_number := PyI.st sj10 h_number
        have h_paper := PyI.st sj10 h_paper
        have h_square := PyI.st sj10 h_square
        have h_index := PyI.st sj10 h_index
        have h_own := PyI.st sj10 h_own
        have sl9 := sl9.trans sj10
        exact kn9 y10 _ Wj10 ⟨v_shown, _, _, _, rfl, g0, sl9, h_shown⟩ hm
      ·
        have h_rows := PyI.st g10.st h_rows
        have h_columns := PyI.st g10.st h_columns
        have h_relief := PyI.st g10.st h_relief
        have h_tide := PyI.st g10.st h_tide
        have h_start := PyI.st g10.st h_start
        have h_goal := PyI.st g10.st h_goal
        have h_number := PyI.st g10.st h_number
        have h_paper := PyI.st g10.st h_paper
        have h_shown := PyI.st g10.st h_shown
        have h_square := PyI.st g10.st h_square
        have h_index := PyI.st g10.st h_index
        have h_own := PyI.st g10.st h_own
        have sl9 := sl9.trans g10.st
        have g0 := g0.trans g10
        have sj10 := g10.st
        refine st_asg (W := W10) (ew_var (v := v_own) rfl h_own) g0.ok hm fun a11_shown v_shown W11 g11 h_shown hm => ?_
        have h_rows := PyI.st g11.st h_rows
        have h_columns := PyI.st g11.st h_columns
        have h_relief := PyI.st g11.st h_relief
        have h_tide := PyI.st g11.st h_tide
        have h_start := PyI.st g11.st h_start
        have h_goal := PyI.st g11.st h_goal
        have h_number := PyI.st g11.st h_number
        have h_paper := PyI.st g11.st h_paper
        have h_square := PyI.st g11.st h_square
        have h_index := PyI.st g11.st h_index
        have h_own := PyI.st g11.st h_own
        have sl9 := sl9.trans g11.st
        have sj10 := sj10.trans g11.st
        have g0 := g0.trans g11
        exact kj a11_shown _ W11 ⟨v_shown, rfl, g0, sj10, h_shown⟩ hm
      ·
        have h_rows := PyI.st g10.st h_rows
        have h_columns := PyI.st g10.st h_columns
        have h_relief := PyI.st g10.st h_relief
        have h_tide := PyI.st g10.st h_tide
        have h_start := PyI.st g10.st h_start
        have h_goal := PyI.st g10.st h_goal
        have h_number := PyI.st g10.st h_number
        have h_paper := PyI.st g10.st h_paper
        have h_shown := PyI.st g10.st h_shown
        have h_square := PyI.st g10.st h_square
        have h_index := PyI.st g10.st h_index
        have h_own := PyI.st g10.st h_own
        have sl9 := sl9.trans g10.st
        have g0 := g0.trans g10
        have sj10 := g10.st
        refine st_next ?_
        exact kj y9 _ W10 ⟨v_shown, rfl, g0, sj10, h_shown⟩ hm
    ·
      obtain ⟨v_shown, o_square, o_index, o_own, rfl, g0, sl9, h_shown⟩ := hI
      have h_rows := PyI.st sl9 h_rows
      have h_columns := PyI.st sl9 h_columns
      have h_relief := PyI.st sl9 h_relief
      have h_tide := PyI.st sl9 h_tide
      have h_start := PyI.st sl9 h_start
      have h_goal := PyI.st sl9 h_goal
      have h_number := PyI.st sl9 h_number
      have h_paper := PyI.st sl9 h_paper
      first | refine norm_st (σ' := [some (.ref v_script), some (.ref d.p), some v_rows, some v_columns, some v_relief, some v_tide, some v_start, some v_goal, some v_number, some v_paper, some v_shown, o_square, o_index, o_own, none, none, none, none, none]) rfl ?_ | skip
      refine q_forN (W := Wi9) tk_N (ev__law_rights (ew_var (v := v_relief) rfl h_relief) (ew_var (v := v_tide) rfl h_tide) (ew_var (v := v_paper) rfl h_paper)) g0.ok hm fun xs12 p_it12 vs_it12 W12 g12 hn_it12 hF_it12 hp_it12 hr_it12 => ?_
      have nS_it12 : ¬ (efD d).S p_it12 := fun z => g0.ok.S _ z hn_it12
      have h_rows := PyI.st g12.st h_rows
      have h_columns := PyI.st g12.st h_columns
      have h_relief := PyI.st g12.st h_relief
      have h_tide := PyI.st g12.st h_tide
      have h_start := PyI.st g12.st h_start
      have h_goal := PyI.st g12.st h_goal
      have h_number := PyI.st g12.st h_number
      have h_paper := PyI.st g12.st h_paper
      have h_shown := PyI.st g12.st h_shown
      have g0 := g0.trans g12
      refine ⟨fun y σ' W' => ∃ (o_right : Option V), σ' = [some (.ref v_script), some (.ref d.p), some v_rows, some v_columns, some v_relief, some v_tide, some v_start, some v_goal, some v_number, some v_paper, some v_shown, o_square, o_index, o_own, o_right, none, none, none, none] ∧ Gw (efD d) W1d W' ∧ St W12 W' ∧ W'.H p_it12 = some (.lst vs_it12), ⟨_, rfl, g0, (St.refl _), hp_it12⟩, fun _ _ _ hI => ?_, fun c12 y12 σi s2 Wi12 R12 nx12 ht hI hm kn12 kb12 kr12 => ?_, fun z12 σi Wi12 hI hm => ?_⟩
      · obtain ⟨o_right, rfl, g0, sl12, hp_it12⟩ := hI
        exact ⟨sl12, hp_it12⟩
      ·
        obtain ⟨o_right, rfl, g0, sl12, hp_it12⟩ := hI
        have h_rows := PyI.st sl12 h_rows
        have h_columns := PyI.st sl12 h_columns
        have h_relief := PyI.st sl12 h_relief
        have h_tide := PyI.st sl12 h_tide
        have h_start := PyI.st sl12 h_start
        have h_goal := PyI.st sl12 h_goal
        have h_number := PyI.st sl12 h_number
        have h_paper := PyI.st sl12 h_paper
        have h_shown := PyI.st sl12 h_shown
        obtain ⟨v_right, rfl, h_right⟩ := ht
        refine st_if (W := Wi12) (et_not (et_B (ev__law_yes (ev_shows_late (ew_var (v := v_relief) rfl h_relief) (ew_var (v := v_tide) rfl h_tide) (ew_var (v := v_start) rfl h_start) (ew_var (v := v_goal) rfl h_goal) (ew_var (v := v_shown) rfl h_shown) (ew_rd (ew_copy (ew_ls (ew_var (v := v_right) rfl h_right))))) ew_bl))) g0.ok hm (fun W13 g13 hm => ?_) (fun W13 g13 hm => ?_)
        ·
          have h_rows := PyI.st g13.st h_rows
          have h_columns := PyI.st g13.st h_columns
          have h_relief := PyI.st g13.st h_relief
          have h_tide := PyI.st g13.st h_tide
          have h_start := PyI.st g13.st h_start
          have h_goal := PyI.st g13.st h_goal
          have h_number := PyI.st g13.st h_number
          have h_paper := PyI.st g13.st h_paper
          have h_shown := PyI.st g13.st h_shown
          have h_right := PyI.st g13.st h_right
          have sl12 := sl12.trans g13.st
          have hp_it12 := g13.keep _ _ hp_it12 nS_it12
          have g0 := g0.trans g13
          refine st_ret (W := W13) ew_bl g0.ok hm fun r14 v_ret W14 g14 hp hm => ?_
          have hm := kr12 _ _ hm
          have hm : r14 = true := hm
          cases hp
          rw [hm]
          exact kret _
        ·
          have h_rows := PyI.st g13.st h_rows
          have h_columns := PyI.st g13.st h_columns
          have h_relief := PyI.st g13.st h_relief
          have h_tide := PyI.st g13.st h_tide
          have h_start := PyI.st g13.st h_start
          have h_goal := PyI.st g13.st h_goal
          have h_number := PyI.st g13.st h_number
          have h_paper := PyI.st g13.st h_paper
          have h_shown := PyI.st g13.st h_shown
          have h_right := PyI.st g13.st h_right
          have sl12 := sl12.trans g13.st
          have hp_it12 := g13.keep _ _ hp_it12 nS_it12
          have g0 := g0.trans g13
          refine st_next ?_
          exact kn12 () _ W13 ⟨_, rfl, g0, sl12, hp_it12⟩ hm
      ·
        obtain ⟨o_right, rfl, g0, sl12, hp_it12⟩ := hI
        have h_rows := PyI.st sl12 h_rows
        have h_columns := PyI.st sl12 h_columns
        have h_relief := PyI.st sl12 h_relief
        have h_tide := PyI.st sl12 h_tide
        have h_start := PyI.st sl12 h_start
        have h_goal := PyI.st sl12 h_goal
        have h_number := PyI.st sl12 h_number
        have h_paper := PyI.st sl12 h_paper
        have h_shown := PyI.st sl12 h_shown
        refine q_if (W := Wi12) (et_t (ew_gt (ew_lenL (ew_ls (ew_var (v := v_paper) rfl h_paper))) ew_int)) g0.ok hm (fun W15 g15 hm => ?_) (fun W15 g15 hm => ?_)
        ·
          have h_rows := PyI.st g15.st h_rows
          have h_columns := PyI.st g15.st h_columns
          have h_relief := PyI.st g15.st h_relief
          have h_tide := PyI.st g15.st h_tide
          have h_start := PyI.st g15.st h_start
          have h_goal := PyI.st g15.st h_goal
          have h_number := PyI.st g15.st h_number
          have h_paper := PyI.st g15.st h_paper
          have h_shown := PyI.st g15.st h_shown
          have g0 := g0.trans g15
          refine q_forN (W := W15) tk_N (ev__law_outs (ew_deal rfl) (ew_var (v := v_relief) rfl h_relief) (ew_var (v := v_tide) rfl h_tide) (ew_var (v := v_paper) rfl h_paper)) g0.ok hm fun xs16 p_it16 vs_it16 W16 g16 hn_it16 hF_it16 hp_it16 hr_it16 => ?_
          have nS_it16 : ¬ (efD d).S p_it16 := fun z => g0.ok.S _ z hn_it16
          have h_rows := PyI.st g16.st h_rows
          have h_columns := PyI.st g16.st h_columns
          have h_relief := PyI.st g16.st h_relief
          have h_tide := PyI.st g16.st h_tide
          have h_start := PyI.st g16.st h_start
          have h_goal := PyI.st g16.st h_goal
          have h_number := PyI.st g16.st h_number
          have h_paper := PyI.st g16.st h_paper
          have h_shown := PyI.st g16.st h_shown
          have g0 := g0.trans g16
          refine ⟨fun y σ' W' => ∃ (o_wrong : Option V), σ' = [some (.ref v_script), some (.ref d.p), some v_rows, some v_columns, some v_relief, some v_tide, some v_start, some v_goal, some v_number, some v_paper, some v_shown, o_square, o_index, o_own, o_right, o_wrong, none, none, none] ∧ Gw (efD d) W1d W' ∧ St W16 W' ∧ W'.H p_it16 = some (.lst vs_it16), ⟨_, rfl, g0, (St.refl _), hp_it16⟩, fun _ _ _ hI => ?_, fun c16 y16 σi s2 Wi16 R16 nx16 ht hI hm kn16 kb16 kr16 => ?_, fun z16 σi Wi16 hI hm => ?_⟩
          · obtain ⟨o_wrong, rfl, g0, sl16, hp_it16⟩ := hI
            exact ⟨sl16, hp_it16⟩
          ·
            obtain ⟨o_wrong, rfl, g0, sl16, hp_it16⟩ := hI
            have h_rows := PyI.st sl16 h_rows
            have h_columns := PyI.st sl16 h_columns
            have h_relief := PyI.st sl16 h_relief
            have h_tide := PyI.st sl16 h_tide
            have h_start := PyI.st sl16 h_start
            have h_goal := PyI.st sl16 h_goal
            have h_number := PyI.st sl16 h_number
            have h_paper := PyI.st sl16 h_paper
            have h_shown := PyI.st sl16 h_shown
            obtain ⟨v_wrong, rfl, h_wrong⟩ := ht
            refine st_if (W := Wi16) (et_not (et_B (ev__law_yes (ev_shows_late (ew_var (v := v_relief) rfl h_relief) (ew_var (v := v_tide) rfl h_tide) (ew_var (v := v_start) rfl h_start) (ew_var (v := v_goal) rfl h_goal) (ew_var (v := v_shown) rfl h_shown) (ew_rd (ew_copy (ew_ls (ew_var (v := v_wrong) rfl h_wrong))))) ew_bl))) g0.ok hm (fun W17 g17 hm => ?_) (fun W17 g17 hm => ?_)
            ·
              have h_rows := PyI.st g17.st h_rows
              have h_columns := PyI.st g17.st h_columns
              have h_relief := PyI.st g17.st h_relief
              have h_tide := PyI.st g17.st h_tide
              have h_start := PyI.st g17.st h_start
              have h_goal := PyI.st g17.st h_goal
              have h_number := PyI.st g17.st h_number
              have h_paper := PyI.st g17.st h_paper
              have h_shown := PyI.st g17.st h_shown
              have h_wrong := PyI.st g17.st h_wrong
              have sl16 := sl16.trans g17.st
              have hp_it16 := g17.keep _ _ hp_it16 nS_it16
              have g0 := g0.trans g17
              refine st_ret (W := W17) ew_bl g0.ok hm fun r18 v_ret W18 g18 hp hm => ?_
              have hm := kr16 _ _ hm
              have hm : r18 = true := hm
              cases hp
              rw [hm]
              exact kret _
            ·
              have h_rows := PyI.st g17.st h_rows
              have h_columns := PyI.st g17.st h_columns
              have h_relief := PyI.st g17.st h_relief
              have h_tide := PyI.st g17.st h_tide
              have h_start := PyI.st g17.st h_start
              have h_goal := PyI.st g17.st h_goal
              have h_number := PyI.st g17.st h_number
              have h_paper := PyI.st g17.st h_paper
              have h_shown := PyI.st g17.st h_shown
              have h_wrong := PyI.st g17.st h_wrong
              have sl16 := sl16.trans g17.st
              have hp_it16 := g17.keep _ _ hp_it16 nS_it16
              have g0 := g0.trans g17
              refine st_next ?_
              exact kn16 () _ W17 ⟨_, rfl, g0, sl16, hp_it16⟩ hm
          ·
            obtain ⟨o_wrong, rfl, g0, sl16, hp_it16⟩ := hI
            have h_rows := PyI.st sl16 h_rows
            have h_columns := PyI.st sl16 h_columns
            have h_relief := PyI.st sl16 h_relief
            have h_tide := PyI.st sl16 h_tide
            have h_start := PyI.st sl16 h_start
            have h_goal := PyI.st sl16 h_goal
            have h_number := PyI.st sl16 h_number
            have h_paper := PyI.st sl16 h_paper
            have h_shown := PyI.st sl16 h_shown
            refine st_forN (W := Wi16) tk_N (ev__law_bends (ew_deal rfl) (ew_var (v := v_tide) rfl h_tide) (ew_var (v := v_start) rfl h_start) (ew_var (v := v_goal) rfl h_goal) (ew_var (v := v_paper) rfl h_paper) (ew_var (v := v_number) rfl h_number)) g0.ok hm fun xs19 p_it19 vs_it19 W19 g19 hn_it19 hF_it19 hp_it19 hr_it19 => ?_
            have nS_it19 : ¬ (efD d).S p_it19 := fun z => g0.ok.S _ z hn_it19
            have h_rows := PyI.st g19.st h_rows
            have h_columns := PyI.st g19.st h_columns
            have h_relief := PyI.st g19.st h_relief
            have h_tide := PyI.st g19.st h_tide
            have h_start := PyI.st g19.st h_start
            have h_goal := PyI.st g19.st h_goal
            have h_number := PyI.st g19.st h_number
            have h_paper := PyI.st g19.st h_paper
            have h_shown := PyI.st g19.st h_shown
            have g0 := g0.trans g19
            refine ⟨fun y σ' W' => ∃ (o_bent : Option V), σ' = [some (.ref v_script), some (.ref d.p), some v_rows, some v_columns, some v_relief, some v_tide, some v_start, some v_goal, some v_number, some v_paper, some v_shown, o_square, o_index, o_own, o_right, o_wrong, o_bent, none, none] ∧ Gw (efD d) W1d W' ∧ St W19 W' ∧ W'.H p_it19 = some (.lst vs_it19), ⟨_, rfl, g0, (St.refl _), hp_it19⟩, fun _ _ _ hI => ?_, fun c19 y19 σi s2 Wi19 R19 nx19 ht hI hm kn19 kb19 kr19 => ?_, fun z19 σi Wi19 hI hm => ?_⟩
            · obtain ⟨o_bent, rfl, g0, sl19, hp_it19⟩ := hI
              exact ⟨sl19, hp_it19⟩
            ·
              obtain ⟨o_bent, rfl, g0, sl19, hp_it19⟩ := hI
              have h_rows := PyI.st sl19 h_rows
              have h_columns := PyI.st sl19 h_columns
              have h_relief := PyI.st sl19 h_relief
              have h_tide := PyI.st sl19 h_tide
              have h_start := PyI.st sl19 h_start
              have h_goal := PyI.st sl19 h_goal
              have h_number := PyI.st sl19 h_number
              have h_paper := PyI.st sl19 h_paper
              have h_shown := PyI.st sl19 h_shown
              obtain ⟨v_bent, rfl, h_bent⟩ := ht
              refine st_if (W := Wi19) (et_not (et_B (ev__law_says (ew_var (v := v_relief) rfl h_relief) (ew_var (v := v_tide) rfl h_tide) (ew_var (v := v_start) rfl h_start) (ew_var (v := v_goal) rfl h_goal) (ew_var (v := v_shown) rfl h_shown) (ew_var (v := v_bent) rfl h_bent)))) g0.ok hm (fun W20 g20 hm => ?_) (fun W20 g20 hm => ?_)
              ·
                have h_rows := PyI.st g20.st h_rows
                have h_columns := PyI.st g20.st h_columns
                have h_relief := PyI.st g20.st h_relief
                have h_tide := PyI.st g20.st h_tide
                have h_start := PyI.st g20.st h_start
                have h_goal := PyI.st g20.st h_goal
                have h_number := PyI.st g20.st h_number
                have h_paper := PyI.st g20.st h_paper
                have h_shown := PyI.st g20.st h_shown
                have h_bent := PyI.st g20.st h_bent
                have sl19 := sl19.trans g20.st
                have hp_it19 := g20.keep _ _ hp_it19 nS_it19
                have g0 := g0.trans g20
                refine st_ret (W := W20) ew_bl g0.ok hm fun r21 v_ret W21 g21 hp hm => ?_
                have hm := kr19 _ _ hm
                have hm : r21 = true := hm
                cases hp
                rw [hm]
                exact kret _
              ·
                have h_rows := PyI.st g20.st h_rows
                have h_columns := PyI.st g20.st h_columns
                have h_relief := PyI.st g20.st h_relief
                have h_tide := PyI.st g20.st h_tide
                have h_start := PyI.st g20.st h_start
                have h_goal := PyI.st g20.st h_goal
                have h_number := PyI.st g20.st h_number
                have h_paper := PyI.st g20.st h_paper
                have h_shown := PyI.st g20.st h_shown
                have h_bent := PyI.st g20.st h_bent
                have sl19 := sl19.trans g20.st
                have hp_it19 := g20.keep _ _ hp_it19 nS_it19
                have g0 := g0.trans g20
                refine st_next ?_
                exact kn19 () _ W20 ⟨_, rfl, g0, sl19, hp_it19⟩ hm
            ·
              obtain ⟨o_bent, rfl, g0, sl19, hp_it19⟩ := hI
              have h_rows := PyI.st sl19 h_rows
              have h_columns := PyI.st sl19 h_columns
              have h_relief := PyI.st sl19 h_relief
              have h_tide := PyI.st sl19 h_tide
              have h_start := PyI.st sl19 h_start
              have h_goal := PyI.st sl19 h_goal
              have h_number := PyI.st sl19 h_number
              have h_paper := PyI.st sl19 h_paper
              have h_shown := PyI.st sl19 h_shown
              refine q_forN (W := Wi19) tk_N (ew_lst (eas_cons ew_int (eas_cons (ew_max2 ew_int (ew_sub (ew_var (v := v_shown) rfl h_shown) ew_int)) (eas_cons (ew_add (ew_var (v := v_shown) rfl h_shown) ew_int) (eas_cons (ew_pow ew_int ew_int) (eas_nil (α := Int))))))) g0.ok hm fun xs22 p_it22 vs_it22 W22 g22 hn_it22 hF_it22 hp_it22 hr_it22 => ?_
              have nS_it22 : ¬ (efD d).S p_it22 := fun z => g0.ok.S _ z hn_it22
              have h_rows := PyI.st g22.st h_rows
              have h_columns := PyI.st g22.st h_columns
              have h_relief := PyI.st g22.st h_relief
              have h_tide := PyI.st g22.st h_tide
              have h_start := PyI.st g22.st h_start
              have h_goal := PyI.st g22.st h_goal
              have h_number := PyI.st g22.st h_number
              have h_paper := PyI.st g22.st h_paper
              have h_shown := PyI.st g22.st h_shown
              have g0 := g0.trans g22
              refine ⟨fun y σ' W' => ∃ (o_claim : Option V) (o_row : Option V), σ' = [some (.ref v_script), some (.ref d.p), some v_rows, some v_columns, some v_relief, some v_tide, some v_start, some v_goal, some v_number, some v_paper, some v_shown, o_square, o_index, o_own, o_right, o_wrong, o_bent, o_claim, o_row] ∧ Gw (efD d) W1d W' ∧ St W22 W' ∧ W'.H p_it22 = some (.lst vs_it22), ⟨_, _, rfl, g0, (St.refl _), hp_it22⟩, fun _ _ _ hI => ?_, fun c22 y22 σi s2 Wi22 R22 nx22 ht hI hm kn22 kb22 kr22 => ?_, fun z22 σi Wi22 hI hm => ?_⟩
              · obtain ⟨o_claim, o_row, rfl, g0, sl22, hp_it22⟩ := hI
                exact ⟨sl22, hp_it22⟩
              ·
                obtain ⟨o_claim, o_row, rfl, g0, sl22, hp_it22⟩ := hI
                have h_rows := PyI.st sl22 h_rows
                have h_columns := PyI.st sl22 h_columns
                have h_relief := PyI.st sl22 h_relief
                have h_tide := PyI.st sl22 h_tide
                have h_start := PyI.st sl22 h_start
                have h_goal := PyI.st sl22 h_goal
                have h_number := PyI.st sl22 h_number
                have h_paper := PyI.st sl22 h_paper
                have h_shown := PyI.st sl22 h_shown
                obtain ⟨v_claim, rfl, h_claim⟩ := ht
                refine st_forN (W := Wi22) tk_N (ew_lst (eas_cons (ew_frz (ew_lst (eas_nil (α := (Tri Sq Int Int))))) (eas_cons (ew_var (v := v_paper) rfl h_paper) (eas_nil (α := (Ls (Tri Sq Int Int))))))) g0.ok hm fun xs23 p_it23 vs_it23 W23 g23 hn_it23 hF_it23 hp_it23 hr_it23 => ?_
                have nS_it23 : ¬ (efD d).S p_it23 := fun z => g0.ok.S _ z hn_it23
                have h_rows := PyI.st g23.st h_rows
                have h_columns := PyI.st g23.st h_columns
                have h_relief := PyI.st g23.st h_relief
                have h_tide := PyI.st g23.st h_tide
                have h_start := PyI.st g23.st h_start
                have h_goal := PyI.st g23.st h_goal
                have h_number := PyI.st g23.st h_number
                have h_paper := PyI.st g23.st h_paper
                have h_shown := PyI.st g23.st h_shown
                have h_claim := PyI.st g23.st h_claim
                have sl22 := sl22.trans g23.st
                have hp_it22 := g23.keep _ _ hp_it22 nS_it22
                have g0 := g0.trans g23
                refine ⟨fun y σ' W' => ∃ (o_row : Option V), σ' = [some (.ref v_script), some (.ref d.p), some v_rows, some v_columns, some v_relief, some v_tide, some v_start, some v_goal, some v_number, some v_paper, some v_shown, o_square, o_index, o_own, o_right, o_wrong, o_bent, some v_claim, o_row] ∧ Gw (efD d) W1d W' ∧ St W23 W' ∧ W'.H p_it22 = some (.lst vs_it22) ∧ W'.H p_it23 = some (.lst vs_it23), ⟨_, rfl, g0, (St.refl _), hp_it22, hp_it23⟩, fun _ _ _ hI => ?_, fun c23 y23 σi s2 Wi23 R23 nx23 ht hI hm kn23 kb23 kr23 => ?_, fun z23 σi Wi23 hI hm => ?_⟩
                · obtain ⟨o_row, rfl, g0, sl23, hp_it22, hp_it23⟩ := hI
                  exact ⟨sl23, hp_it23⟩
                ·
                  obtain ⟨o_row, rfl, g0, sl23, hp_it22, hp_it23⟩ := hI
                  have h_rows := PyI.st sl23 h_rows
                  have h_columns := PyI.st sl23 h_columns
                  have h_relief := PyI.st sl23 h_relief
                  have h_tide := PyI.st sl23 h_tide
                  have h_start := PyI.st sl23 h_start
                  have h_goal := PyI.st sl23 h_goal
                  have h_number := PyI.st sl23 h_number
                  have h_paper := PyI.st sl23 h_paper
                  have h_shown := PyI.st sl23 h_shown
                  have h_claim := PyI.st sl23 h_claim
                  have sl22 := sl22.trans sl23
                  obtain ⟨v_row, rfl, h_row⟩ := ht
                  refine st_if (W := Wi23) (et_not (et_B (ev__law_says (ew_var (v := v_relief) rfl h_relief) (ew_var (v := v_tide) rfl h_tide) (ew_var (v := v_start) rfl h_start) (ew_var (v := v_goal) rfl h_goal) (ew_var (v := v_claim) rfl h_claim) (ew_var (v := v_row) rfl h_row)))) g0.ok hm (fun W24 g24 hm => ?_) (fun W24 g24 hm => ?_)
                  ·
                    have h_rows := PyI.st g24.st h_rows
                    have h_columns := PyI.st g24.st h_columns
                    have h_relief := PyI.st g24.st h_relief
                    have h_tide := PyI.st g24.st h_tide
                    have h_start := PyI.st g24.st h_start
                    have h_goal := PyI.st g24.st h_goal
                    have h_number := PyI.st g24.st h_number
                    have h_paper := PyI.st g24.st h_paper
                    have h_shown := PyI.st g24.st h_shown
                    have h_claim := PyI.st g24.st h_claim
                    have h_row := PyI.st g24.st h_row
                    have sl22 := sl22.trans g24.st
                    have sl23 := sl23.trans g24.st
                    have hp_it22 := g24.keep _ _ hp_it22 nS_it22
                    have hp_it23 := g24.keep _ _ hp_it23 nS_it23
                    have g0 := g0.trans g24
                    refine st_ret (W := W24) ew_bl g0.ok hm fun r25 v_ret W25 g25 hp hm => ?_
                    have hm := kr23 _ _ hm
                    have hm := kr22 _ _ hm
                    have hm : r25 = true := hm
                    cases hp
                    rw [hm]
                    exact kret _
                  ·
                    have h_rows := PyI.st g24.st h_rows
                    have h_columns := PyI.st g24.st h_columns
                    have h_relief := PyI.st g24.st h_relief
                    have h_tide := PyI.st g24.st h_tide
                    have h_start := PyI.st g24.st h_start
                    have h_goal := PyI.st g24.st h_goal
                    have h_number := PyI.st g24.st h_number
                    have h_paper := PyI.st g24.st h_paper
                    have h_shown := PyI.st g24.st h_shown
                    have h_claim := PyI.st g24.st h_claim
                    have h_row := PyI.st g24.st h_row
                    have sl22 := sl22.trans g24.st
                    have sl23 := sl23.trans g24.st
                    have hp_it22 := g24.keep _ _ hp_it22 nS_it22
                    have hp_it23 := g24.keep _ _ hp_it23 nS_it23
                    have g0 := g0.trans g24
                    refine st_next ?_
                    exact kn23 () _ W24 ⟨_, rfl, g0, sl23, hp_it22, hp_it23⟩ hm
                ·
                  obtain ⟨o_row, rfl, g0, sl23, hp_it22, hp_it23⟩ := hI
                  have h_rows := PyI.st sl23 h_rows
                  have h_columns := PyI.st sl23 h_columns
                  have h_relief := PyI.st sl23 h_relief
                  have h_tide := PyI.st sl23 h_tide
                  have h_start := PyI.st sl23 h_start
                  have h_goal := PyI.st sl23 h_goal
                  have h_number := PyI.st sl23 h_number
                  have h_paper := PyI.st sl23 h_paper
                  have h_shown := PyI.st sl23 h_shown
                  have h_claim := PyI.st sl23 h_claim
                  have sl22 := sl22.trans sl23
                  exact kn22 () _ Wi23 ⟨_, _, rfl, g0, sl22, hp_it22⟩ hm
              ·
                obtain ⟨o_claim, o_row, rfl, g0, sl22, hp_it22⟩ := hI
                have h_rows := PyI.st sl22 h_rows
                have h_columns := PyI.st sl22 h_columns
                have h_relief := PyI.st sl22 h_relief
                have h_tide := PyI.st sl22 h_tide
                have h_start := PyI.st sl22 h_start
                have h_goal := PyI.st sl22 h_goal
                have h_number := PyI.st sl22 h_number
                have h_paper := PyI.st sl22 h_paper
                have h_shown := PyI.st sl22 h_shown
                refine st_ret (W := Wi22) ew_bl g0.ok hm fun r26 v_ret W26 g26 hp hm => ?_
                have hm : r26 = true := hm
                cases hp
                rw [hm]
                exact kret _
        ·
          have h_rows := PyI.st g15.st h_rows
          have h_columns := PyI.st g15.st h_columns
          have h_relief := PyI.st g15.st h_relief
          have h_tide := PyI.st g15.st h_tide
          have h_start := PyI.st g15.st h_start
          have h_goal := PyI.st g15.st h_goal
          have h_number := PyI.st g15.st h_number
          have h_paper := PyI.st g15.st h_paper
          have h_shown := PyI.st g15.st h_shown
          have g0 := g0.trans g15
          refine st_next ?_
          refine q_forN (W := W15) tk_N (ew_lst (eas_cons ew_int (eas_cons (ew_max2 ew_int (ew_sub (ew_var (v := v_shown) rfl h_shown) ew_int)) (eas_cons (ew_add (ew_var (v := v_shown) rfl h_shown) ew_int) (eas_cons (ew_pow ew_int ew_int) (eas_nil (α := Int))))))) g0.ok hm fun xs27 p_it27 vs_it27 W27 g27 hn_it27 hF_it27 hp_it27 hr_it27 => ?_
          have nS_it27 : ¬ (efD d).S p_it27 := fun z => g0.ok.S _ z hn_it27
          have h_rows := PyI.st g27.st h_rows
          have h_columns := PyI.st g27.st h_columns
          have h_relief := PyI.st g27.st h_relief
          have h_tide := PyI.st g27.st h_tide
          have h_start := PyI.st g27.st h_start
          have h_goal := PyI.st g27.st h_goal
          have h_number := PyI.st g27.st h_number
          have h_paper := PyI.st g27.st h_paper
          have h_shown := PyI.st g27.st h_shown
          have g0 := g0.trans g27
          refine ⟨fun y σ' W' => ∃ (o_claim : Option V) (o_row : Option V), σ' = [some (.ref v_script), some (.ref d.p), some v_rows, some v_columns, some v_relief, some v_tide, some v_start, some v_goal, some v_number, some v_paper, some v_shown, o_square, o_index, o_own, o_right, none, none, o_claim, o_row] ∧ Gw (efD d) W1d W' ∧ St W27 W' ∧ W'.H p_it27 = some (.lst vs_it27), ⟨_, _, rfl, g0, (St.refl _), hp_it27⟩, fun _ _ _ hI => ?_, fun c27 y27 σi s2 Wi27 R27 nx27 ht hI hm kn27 kb27 kr27 => ?_, fun z27 σi Wi27 hI hm => ?_⟩
          · obtain ⟨o_claim, o_row, rfl, g0, sl27, hp_it27⟩ := hI
            exact ⟨sl27, hp_it27⟩
          ·
            obtain ⟨o_claim, o_row, rfl, g0, sl27, hp_it27⟩ := hI
            have h_rows := PyI.st sl27 h_rows
            have h_columns := PyI.st sl27 h_columns
            have h_relief := PyI.st sl27 h_relief
            have h_tide := PyI.st sl27 h_tide
            have h_start := PyI.st sl27 h_start
            have h_goal := PyI.st sl27 h_goal
            have h_number := PyI.st sl27 h_number
            have h_paper := PyI.st sl27 h_paper
            have h_shown := PyI.st sl27 h_shown
            obtain ⟨v_claim, rfl, h_claim⟩ := ht
            refine st_forN (W := Wi27) tk_N (ew_lst (eas_cons (ew_frz (ew_lst (eas_nil (α := (Tri Sq Int Int))))) (eas_cons (ew_var (v := v_paper) rfl h_paper) (eas_nil (α := (Ls (Tri Sq Int Int))))))) g0.ok hm fun xs28 p_it28 vs_it28 W28 g28 hn_it28 hF_it28 hp_it28 hr_it28 => ?_
            have nS_it28 : ¬ (efD d).S p_it28 := fun z => g0.ok.S _ z hn_it28
            have h_rows := PyI.st g28.st h_rows
            have h_columns := PyI.st g28.st h_columns
            have h_relief := PyI.st g28.st h_relief
            have h_tide := PyI.st g28.st h_tide
            have h_start := PyI.st g28.st h_start
            have h_goal := PyI.st g28.st h_goal
            have h_number := PyI.st g28.st h_number
            have h_paper := PyI.st g28.st h_paper
            have h_shown := PyI.st g28.st h_shown
            have h_claim := PyI.st g28.st h_claim
            have sl27 := sl27.trans g28.st
            have hp_it27 := g28.keep _ _ hp_it27 nS_it27
            have g0 := g0.trans g28
            refine ⟨fun y σ' W' => ∃ (o_row : Option V), σ' = [some (.ref v_script), some (.ref d.p), some v_rows, some v_columns, some v_relief, some v_tide, some v_start, some v_goal, some v_number, some v_paper, some v_shown, o_square, o_index, o_own, o_right, none, none, some v_claim, o_row] ∧ Gw (efD d) W1d W' ∧ St W28 W' ∧ W'.H p_it27 = some (.lst vs_it27) ∧ W'.H p_it28 = some (.lst vs_it28), ⟨_, rfl, g0, (St.refl _), hp_it27, hp_it28⟩, fun _ _ _ hI => ?_, fun c28 y28 σi s2 Wi28 R28 nx28 ht hI hm kn28 kb28 kr28 => ?_, fun z28 σi Wi28 hI hm => ?_⟩
            · obtain ⟨o_row, rfl, g0, sl28, hp_it27, hp_it28⟩ := hI
              exact ⟨sl28, hp_it28⟩
            ·
              obtain ⟨o_row, rfl, g0, sl28, hp_it27, hp_it28⟩ := hI
              have h_rows := PyI.st sl28 h_rows
              have h_columns := PyI.st sl28 h_columns
              have h_relief := PyI.st sl28 h_relief
              have h_tide := PyI.st sl28 h_tide
              have h_start := PyI.st sl28 h_start
              have h_goal := PyI.st sl28 h_goal
              have h_number := PyI.st sl28 h_number
              have h_paper := PyI.st sl28 h_paper
              have h_shown := PyI.st sl28 h_shown
              have h_claim := PyI.st sl28 h_claim
              have sl27 := sl27.trans sl28
              obtain ⟨v_row, rfl, h_row⟩ := ht
              refine st_if (W := Wi28) (et_not (et_B (ev__law_says (ew_var (v := v_relief) rfl h_relief) (ew_var (v := v_tide) rfl h_tide) (ew_var (v := v_start) rfl h_start) (ew_var (v := v_goal) rfl h_goal) (ew_var (v := v_claim) rfl h_claim) (ew_var (v := v_row) rfl h_row)))) g0.ok hm (fun W29 g29 hm => ?_) (fun W29 g29 hm => ?_)
              ·
                have h_rows := PyI.st g29.st h_rows
                have h_columns := PyI.st g29.st h_columns
                have h_relief := PyI.st g29.st h_relief
                have h_tide := PyI.st g29.st h_tide
                have h_start := PyI.st g29.st h_start
                have h_goal := PyI.st g29.st h_goal
                have h_number := PyI.st g29.st h_number
                have h_paper := PyI.st g29.st h_paper
                have h_shown := PyI.st g29.st h_shown
                have h_claim := PyI.st g29.st h_claim
                have h_row := PyI.st g29.st h_row
                have sl27 := sl27.trans g29.st
                have sl28 := sl28.trans g29.st
                have hp_it27 := g29.keep _ _ hp_it27 nS_it27
                have hp_it28 := g29.keep _ _ hp_it28 nS_it28
                have g0 := g0.trans g29
                refine st_ret (W := W29) ew_bl g0.ok hm fun r30 v_ret W30 g30 hp hm => ?_
                have hm := kr28 _ _ hm
                have hm := kr27 _ _ hm
                have hm : r30 = true := hm
                cases hp
                rw [hm]
                exact kret _
              ·
                have h_rows := PyI.st g29.st h_rows
                have h_columns := PyI.st g29.st h_columns
                have h_relief := PyI.st g29.st h_relief
                have h_tide := PyI.st g29.st h_tide
                have h_start := PyI.st g29.st h_start
                have h_goal := PyI.st g29.st h_goal
                have h_number := PyI.st g29.st h_number
                have h_paper := PyI.st g29.st h_paper
                have h_shown := PyI.st g29.st h_shown
                have h_claim := PyI.st g29.st h_claim
                have h_row := PyI.st g29.st h_row
                have sl27 := sl27.trans g29.st
                have sl28 := sl28.trans g29.st
                have hp_it27 := g29.keep _ _ hp_it27 nS_it27
                have hp_it28 := g29.keep _ _ hp_it28 nS_it28
                have g0 := g0.trans g29
                refine st_next ?_
                exact kn28 () _ W29 ⟨_, rfl, g0, sl28, hp_it27, hp_it28⟩ hm
            ·
              obtain ⟨o_row, rfl, g0, sl28, hp_it27, hp_it28⟩ := hI
              have h_rows := PyI.st sl28 h_rows
              have h_columns := PyI.st sl28 h_columns
              have h_relief := PyI.st sl28 h_relief
              have h_tide := PyI.st sl28 h_tide
              have h_start := PyI.st sl28 h_start
              have h_goal := PyI.st sl28 h_goal
              have h_number := PyI.st sl28 h_number
              have h_paper := PyI.st sl28 h_paper
              have h_shown := PyI.st sl28 h_shown
              have h_claim := PyI.st sl28 h_claim
              have sl27 := sl27.trans sl28
              exact kn27 () _ Wi28 ⟨_, _, rfl, g0, sl27, hp_it27⟩ hm
          ·
            obtain ⟨o_claim, o_row, rfl, g0, sl27, hp_it27⟩ := hI
            have h_rows := PyI.st sl27 h_rows
            have h_columns := PyI.st sl27 h_columns
            have h_relief := PyI.st sl27 h_relief
            have h_tide := PyI.st sl27 h_tide
            have h_start := PyI.st sl27 h_start
            have h_goal := PyI.st sl27 h_goal
            have h_number := PyI.st sl27 h_number
            have h_paper := PyI.st sl27 h_paper
            have h_shown := PyI.st sl27 h_shown
            refine st_ret (W := Wi27) ew_bl g0.ok hm fun r31 v_ret W31 g31 hp hm => ?_
            have hm : r31 = true := hm
            cases hp
            rw [hm]
            exact kret _
end
end W
/-! working with models -/
namespace Y
open PySem L2
namespace WP
variable {α β γ s : Type}
theorem run_cond {b : Bool} {A B : WP α} {n : Nat} {Q : Nat → α → Prop} : (cond b A B).run n Q = ((b = true → A.run n Q) ∧ (b = false → B.run n Q)) := by
  cases b with
  | true => exact propext ⟨fun h => ⟨fun _ => h, (fun z => by cases z)⟩, fun h => h.1 rfl⟩
  | false => exact propext ⟨fun h => ⟨(fun z => by cases z), fun _ => h⟩, fun h => h.2 rfl⟩
theorem run_range1 {w : WP Int} {n : Nat} {Q : Nat → List Int → Prop} : (range1 w).run n Q = w.run n (fun m k => (-100000000 ≤ k ∧ k ≤ 100000000) ∧ Q m (rangeL 0 k)) := rfl
theorem run_range2 {a b : WP Int} {n : Nat} {Q : Nat → List Int → Prop} : (range2 a b).run n Q = a.run n (fun m x => b.run m fun m y => (-100000000 ≤ x ∧ x ≤ 100000000 ∧ -100000000 ≤ y ∧ y ≤ 100000000) ∧ Q m (rangeL x y)) := rfl
def afterQ {ρ : Type} (f : s → WP ρ) (r : γ → WP ρ) (Q : Nat → ρ → Prop) : Nat → Ctl s γ → Prop
  | m, .nx y => (f y).run m Q
  | m, .bk y => (f y).run m Q
  | m, .rt q => (r q).run m Q
theorem after_of {ρ : Type} {w : WP (Ctl s γ)} {n : Nat} {f : s → WP ρ} {r : γ → WP ρ} {Q : Nat → ρ → Prop} (h : w.run n (afterQ f r Q)) : (after w f r).run n Q := w.mono (fun m c hc => by
  cases c with
  | nx z => exact hc
  | bk z => exact hc
  | rt q => exact hc) h
/-- what a turn may do: I for the next one, or the end -/
def turnQ {ρ : Type} (J : Nat → s → Prop) (f : s → WP ρ) (r : γ → WP ρ) (Q : Nat → ρ → Prop) : Nat → Ctl s γ → Prop
  | m, .nx y => J m y
  | m, .bk y => (f y).run m Q
  | m, .rt q => (r q).run m Q
/-- a loop, then what follows it -/
theorem after_inv {ρ : Type} {body : α → s → WP (Ctl s γ)} {xs : List α} {x : s} {n : Nat} {f : s → WP ρ} {r : γ → WP ρ} {Q : Nat → ρ → Prop} (I : Nat → Nat → s → Prop) (h0 : I 0 n x)
    (hs : ∀ i m a y, xs[i]? = some a → I i m y → (body a y).run m (turnQ (I (i + 1)) f r Q)) (hd : ∀ m y, I xs.length m y → (f y).run m Q) : (after (loop body xs x) f r).run n Q :=
  after_of (loop_inv I h0 (fun i m a y ha hi => (body a y).mono (fun m' c hc => by
    cases c with
    | nx z => exact hc
    | bk z => exact hc
    | rt q => exact hc) (hs i m a y ha hi)) hd)
end WP
/-- the weakest condition of a model, one step after another -/
theorem rangeL0_len {k : Int} : (rangeL 0 k).length = k.toNat := by rw [rangeL_len, Int.sub_zero]
theorem rangeL0_get {k a : Int} {i : Nat} (h : (rangeL 0 k)[i]? = some a) : a = (i : Int) ∧ (i : Int) < k := by
  have hl : i < (rangeL 0 k).length := (List.getElem?_eq_some_iff.mp h).1
  rw [rangeL0_len] at hl
  rw [rangeL_get (by rw [Int.sub_zero]; exact hl)] at h
  have := Option.some.inj h
  omega
end Y

/-! plain facts: charts, breadth first search -/
namespace Y
open PySem L2
/-- the model's value is a, without a draw -/
def Is {α : Type} (w : WP α) (a : α) : Prop := ∀ n Q, Q n a → w.run n Q
/-- the model's value keeps P, without a draw -/
def Gives {α : Type} (w : WP α) (P : α → Prop) : Prop := ∀ n Q, (∀ b, P b → Q n b) → w.run n Q
/-- the model's value keeps P, with at most k draws -/
def Draws {α : Type} (w : WP α) (k : Nat) (P : α → Prop) : Prop := ∀ n Q, n + k ≤ 1000000 → (∀ m b, n ≤ m → m ≤ n + k → P b → Q m b) → w.run n Q
def wid (ch : List Str) : Nat := (ixD ch 0).length
structure Ch (ch : List Str) : Prop where
  ne : 0 < ch.length
  hl : ch.length ≤ 300
  w : ∀ s ∈ ch, s.length = wid ch
  w0 : 0 < wid ch
  wl : wid ch ≤ 300
def isSq (ch : List Str) (q : Sq) : Bool := (decide (0 ≤ q.1) && decide (q.1 < (ch.length : Int))) && (decide (0 ≤ q.2) && decide (q.2 < (wid ch : Int)))
def isLd (ch : List Str) (q : Sq) : Bool := isSq ch q && decide (sgn (ixD ch q.1) q.2 = "x")
theorem isSq_iff {ch : List Str} {q : Sq} : isSq ch q = true ↔ 0 ≤ q.1 ∧ q.1 < (ch.length : Int) ∧ 0 ≤ q.2 ∧ q.2 < (wid ch : Int) := by
  unfold isSq
  simp only [Bool.and_eq_true, decide_eq_true_eq]
  exact ⟨fun ⟨⟨a, b⟩, c, d⟩ => ⟨a, b, c, d⟩, fun ⟨a, b, c, d⟩ => ⟨⟨a, b⟩, c, d⟩⟩
theorem isLd_iff {ch : List Str} {q : Sq} : isLd ch q = true ↔ isSq ch q = true ∧ sgn (ixD ch q.1) q.2 = "x" := by
  unfold isLd
  rw [Bool.and_eq_true, decide_eq_true_eq]
theorem isLd_sq {ch : List Str} {q : Sq} (h : isLd ch q = true) : isSq ch q = true := (isLd_iff.mp h).1
theorem ixD_get {α : Type} [Inhabited α] {xs : List α} {i : Int} (h0 : 0 ≤ i) (h : i < xs.length) : ∃ hl : i.toNat < xs.length, ixD xs i = xs[i.toNat] := by
  have hl : i.toNat < xs.length := by omega
  refine ⟨hl, ?_⟩
  have e : ixD xs ((i.toNat : Nat) : Int) = xs[i.toNat] := ixD_nat hl
  have e2 : ((i.toNat : Nat) : Int) = i := by omega
  rw [e2] at e
  exact e
theorem ixD_mem {α : Type} [Inhabited α] {xs : List α} {i : Int} (h0 : 0 ≤ i) (h : i < xs.length) : ixD xs i ∈ xs := by
  obtain ⟨hl, e⟩ := ixD_get h0 h
  rw [e]; exact List.getElem_mem hl
section
variable {ch : List Str} {q : Sq} (c : Ch ch)
include c
theorem Ch.ok0 : okI ch.length 0 := ⟨by have := c.ne; omega, by have := c.ne; omega⟩
theorem Ch.wl0 : (ixD ch 0).length ≤ 100000 := by have := c.wl; unfold wid at this; omega
theorem Ch.ok1 (h : isSq ch q = true) : okI ch.length q.1 := by
  have := isSq_iff.mp h
  exact ⟨by omega, by omega⟩
theorem Ch.len1 (h : isSq ch q = true) : (ixD ch q.1).length = wid ch := by
  have := isSq_iff.mp h
  exact c.w _ (ixD_mem this.1 this.2.1)
theorem Ch.wl1 (h : isSq ch q = true) : (ixD ch q.1).length ≤ 100000 := by
  rw [c.len1 h]; have := c.wl; omega
theorem Ch.ok2 (h : isSq ch q = true) : okI (ixD ch q.1).length q.2 := by
  have := isSq_iff.mp h
  rw [c.len1 h]
  exact ⟨by omega, by omega⟩
end
def sides (q : Sq) : List Sq := [(q.1 - 1, q.2), (q.1, q.2 - 1), (q.1, q.2 + 1), (q.1 + 1, q.2)]
def ldBeside (ch : List Str) (q : Sq) : List Sq := (sides q).filter (isLd ch)
theorem sides_symm {p q : Sq} (h : q ∈ sides p) : p ∈ sides q := by
  obtain ⟨a, b⟩ := p
  obtain ⟨c, d⟩ := q
  simp only [sides, List.mem_cons, Prod.mk.injEq, List.not_mem_nil, or_false] at h ⊢
  omega
/-- every square of a chart -/
def allSq (ch : List Str) : List Sq := (List.range ch.length).flatMap fun (r : Nat) => (List.range (wid ch)).map fun (c : Nat) => (((r : Int), (c : Int)) : Sq)
theorem mem_allSq {ch : List Str} {q : Sq} : q ∈ allSq ch ↔ isSq ch q = true := by
  rw [isSq_iff]
  unfold allSq
  simp only [List.mem_flatMap, List.mem_map, List.mem_range]
  constructor
  · rintro ⟨r, hr, c, hc, rfl⟩
    exact ⟨by simp, by simpa using hr, by simp, by simpa using hc⟩
  · rintro ⟨h1, h2, h3, h4⟩
    exact ⟨q.1.toNat, by omega, q.2.toNat, by omega, by apply Prod.ext <;> simp <;> omega⟩
theorem flatMap_len {α β : Type} (xs : List α) (f : α → List β) (n : Nat) (h : ∀ x ∈ xs, (f x).length = n) : (xs.flatMap f).length = xs.length * n := by
  induction xs with
  | nil => simp
  | cons x xs ih =>
    rw [List.flatMap_cons, List.length_append, h x List.mem_cons_self, ih fun y hy => h y (List.mem_cons_of_mem _ hy), List.length_cons, Nat.succ_mul, Nat.add_comm]
theorem allSq_len (ch : List Str) : (allSq ch).length = ch.length * wid ch := by
  unfold allSq
  rw [flatMap_len _ _ (wid ch) (fun x _ => by simp), List.length_range]
theorem Ch.area {ch : List Str} (c : Ch ch) : (allSq ch).length ≤ 90000 := by
  rw [allSq_len]
  exact Nat.mul_le_mul c.hl c.wl
/-- no list without repeats in U is longer -/
theorem nodup_le {α : Type} [DecidableEq α] {xs U : List α} (nd : xs.Nodup) (h : ∀ x ∈ xs, x ∈ U) : xs.length ≤ U.length := by
  induction xs generalizing U with
  | nil => exact Nat.zero_le _
  | cons x xs ih =>
    have hx : x ∈ U := h x List.mem_cons_self
    have h1 : ∀ y ∈ xs, y ∈ U.erase x := fun y hy => by
      have : y ≠ x := fun z => (List.nodup_cons.mp nd).1 (z ▸ hy)
      exact (List.mem_erase_of_ne this).mpr (h y (List.mem_cons_of_mem _ hy))
    have h2 := ih (List.nodup_cons.mp nd).2 h1
    rw [List.length_erase_of_mem hx] at h2
    have : 0 < U.length := List.length_pos_of_mem hx
    rw [List.length_cons]; omega

/-! ### what steps lead to -/
inductive Rch (st : Sq → List Sq) (s : Sq) : Sq → Prop where
  | refl : Rch st s s
  | step {p q : Sq} : Rch st s p → q ∈ st p → Rch st s q
theorem Rch.trans {st : Sq → List Sq} {a b c : Sq} (h : Rch st a b) (h' : Rch st b c) : Rch st a c := by
  induction h' with
  | refl => exact h
  | step _ hq ih => exact .step ih hq
theorem Rch.one {st : Sq → List Sq} {a b : Sq} (h : b ∈ st a) : Rch st a b := .step .refl h
theorem Rch.mono {st st' : Sq → List Sq} {a b : Sq} (h : ∀ p q, q ∈ st p → q ∈ st' p) (r : Rch st a b) : Rch st' a b := by
  induction r with
  | refl => exact .refl
  | step _ hq ih => exact .step ih (h _ _ hq)
def Wk (st : Sq → List Sq) : Nat → Sq → Sq → Prop
  | 0, s, q => s = q
  | n + 1, s, q => ∃ p, Wk st n s p ∧ q ∈ st p
theorem Wk.rch {st : Sq → List Sq} : ∀ {n : Nat} {s q : Sq}, Wk st n s q → Rch st s q
  | 0, _, _, w => by cases w; exact .refl
  | _ + 1, _, _, ⟨_, w, h⟩ => .step w.rch h
theorem Rch.wk {st : Sq → List Sq} {s q : Sq} (r : Rch st s q) : ∃ n, Wk st n s q := by
  induction r with
  | refl => exact ⟨0, rfl⟩
  | step _ h ih => exact ⟨ih.choose + 1, _, ih.choose_spec, h⟩
/-! dicts -/
section
variable {β : Type}
theorem lookK_some {kvs : List (Sq × β)} {q : Sq} {d : β} (h : lookK kvs q = some d) : (q, d) ∈ kvs := by
  unfold lookK at h
  obtain ⟨p, hp, rfl⟩ := Option.map_eq_some_iff.mp h
  have h1 := List.find?_some hp
  have h2 := List.mem_of_find?_eq_some hp
  have : p.1 = q := of_decide_eq_true h1
  rw [← this]; exact h2
theorem lookK_none {kvs : List (Sq × β)} {q : Sq} (h : lookK kvs q = none) : q ∉ kvs.map (·.1) := by
  unfold lookK at h
  rw [Option.map_eq_none_iff, List.find?_eq_none] at h
  intro hm
  obtain ⟨p, hp, e⟩ := List.mem_map.mp hm
  exact h p hp (decide_eq_true e)
theorem hasK_iff {kvs : List (Sq × β)} {q : Sq} : hasK kvs q = true ↔ q ∈ kvs.map (·.1) := by
  unfold hasK
  constructor
  · intro h
    obtain ⟨d, hd⟩ := Option.isSome_iff_exists.mp h
    exact List.mem_map.mpr ⟨_, lookK_some hd, rfl⟩
  · intro h
    cases e : lookK kvs q with
    | none => exact absurd h (lookK_none e)
    | some d => rfl
theorem hasK_false {kvs : List (Sq × β)} {q : Sq} : hasK kvs q = false ↔ q ∉ kvs.map (·.1) := by
  rw [← hasK_iff, Bool.not_eq_true]
theorem lookK_mem {kvs : List (Sq × β)} (nd : (kvs.map (·.1)).Nodup) {q : Sq} {d : β} (h : (q, d) ∈ kvs) : lookK kvs q = some d := by
  cases e : lookK kvs q with
  | none => exact absurd (List.mem_map.mpr ⟨(q, d), h, rfl⟩) (lookK_none e)
  | some d' =>
    have h' := lookK_some e
    obtain ⟨i, hi, ei⟩ := List.mem_iff_getElem.mp h
    obtain ⟨j, hj, ej⟩ := List.mem_iff_getElem.mp h'
    have : i = j := by
      have hi' : i < (kvs.map (·.1)).length := by rw [List.length_map]; exact hi
      have hj' : j < (kvs.map (·.1)).length := by rw [List.length_map]; exact hj
      have : (kvs.map (·.1))[i] = (kvs.map (·.1))[j] := by simp [ei, ej]
      exact (List.getElem_inj nd).mp this
    subst this
    rw [ei] at ej
    injection ej with _ e2
    rw [e2]
theorem putQ_new {kvs : List (Sq × β)} {q : Sq} {b : β} (h : hasK kvs q = false) : putQ kvs q b = kvs ++ [(q, b)] := by
  unfold putQ
  rw [h]; rfl
theorem putQ_old {kvs : List (Sq × β)} {q : Sq} {b : β} (h : hasK kvs q = true) : putQ kvs q b = kvs.map (fun p => if p.1 = q then (p.1, b) else p) := by
  unfold putQ
  rw [h]; rfl
end
theorem get_snoc {α : Type} {xs : List α} {x y : α} {i : Nat} (h : (xs ++ [x])[i]? = some y) : xs[i]? = some y ∨ (i = xs.length ∧ y = x) := by
  by_cases hi : i < xs.length
  · rw [List.getElem?_append_left hi] at h
    exact .inl h
  · rw [List.getElem?_append_right (by omega)] at h
    have : i - xs.length = 0 := by
      cases e : i - xs.length with
      | zero => rfl
      | succ k => rw [e] at h; simp at h
    rw [this] at h
    simp at h
    exact .inr ⟨by omega, h.symm⟩
/-! ### a breadth first search with ghost distances: gs, at the place a -/
structure Bfs (st : Sq → List Sq) (s : Sq) (gs : List (Sq × Nat)) (a : Nat) : Prop where
  nd : (gs.map (·.1)).Nodup
  le : a ≤ gs.length
  pos : 0 < gs.length
  hd : gs[0]? = some (s, 0)
  wk : ∀ p ∈ gs, Wk st p.2 s p.1
  srt : ∀ (i j : Nat) (p q : Sq × Nat), i ≤ j → gs[i]? = some p → gs[j]? = some q → p.2 ≤ q.2
  top : ∀ (p : Sq × Nat), gs[a]? = some p → ∀ q ∈ gs, q.2 ≤ p.2 + 1
  don : ∀ (i : Nat) (p : Sq × Nat), i < a → gs[i]? = some p → ∀ q ∈ st p.1, ∃ r ∈ gs, r.1 = q ∧ r.2 ≤ p.2 + 1
/-- within the turn of the place a, i of the candidates L looked at -/
structure BfsI (st : Sq → List Sq) (s : Sq) (gs : List (Sq × Nat)) (a : Nat) (c : Sq) (d : Nat) (L : List Sq) (i : Nat) : Prop extends Bfs st s gs a where
  cur : gs[a]? = some (c, d)
  nb : ∀ q ∈ L.take i, ∃ r ∈ gs, r.1 = q ∧ r.2 ≤ d + 1
section
variable {st : Sq → List Sq} {s : Sq} {gs : List (Sq × Nat)} {a : Nat} {c : Sq} {d : Nat} {L : List Sq} {i : Nat} {q : Sq}
theorem Bfs.start : Bfs st s [(s, 0)] 0 where
  nd := by simp
  le := Nat.zero_le _
  pos := by simp
  hd := rfl
  wk := by intro p hp; simp at hp; subst hp; rfl
  srt := by
    intro i j p q _ h1 h2
    have e1 : p = (s, 0) := by
      cases i with
      | zero => simpa using h1.symm
      | succ i => simp at h1
    rw [e1]; exact Nat.zero_le _
  top := by intro p hp q hq; simp at hp hq; subst hp; subst hq; show 0 ≤ 0 + 1; decide
  don := by intro i p hi; omega
theorem Bfs.open (b : Bfs st s gs a) (h : gs[a]? = some (c, d)) : BfsI st s gs a c d L 0 :=
  { b with cur := h, nb := by intro q hq; simp at hq }
theorem BfsI.new (b : BfsI st s gs a c d L i) (h : L[i]? = some q) (hs : q ∈ st c) (hnk : q ∉ gs.map (·.1)) : BfsI st s (gs ++ [(q, d + 1)]) a c d L (i + 1) := by
  have hal : a < gs.length := (List.getElem?_eq_some_iff.mp b.cur).1
  have top : ∀ p ∈ gs, p.2 ≤ d + 1 := fun p hp => b.top _ b.cur p hp
  refine { nd := ?_, le := ?_, pos := ?_, hd := ?_, wk := ?_, srt := ?_, top := ?_, don := ?_, cur := ?_, nb := ?_ }
  · rw [List.map_append, List.nodup_append]
    refine ⟨b.nd, by simp, fun x hx y hy => ?_⟩
    have : y = q := by simpa using hy
    subst this
    exact fun z => hnk (z ▸ hx)
  · rw [List.length_append]; have := b.le; omega
  · rw [List.length_append]; have := b.pos; omega
  · rw [List.getElem?_append_left b.pos]; exact b.hd
  · intro p hp
    rcases List.mem_append.mp hp with hp | hp
    · exact b.wk p hp
    · have : p = (q, d + 1) := by simpa using hp
      subst this
      exact ⟨c, b.wk _ (List.mem_of_getElem? b.cur), hs⟩
  · intro i j p r hij h1 h2
    rcases get_snoc h1 with h1 | ⟨e1, f1⟩
    · rcases get_snoc h2 with h2 | ⟨e2, f2⟩
      · exact b.srt i j p r hij h1 h2
      · rw [f2]; exact top p (List.mem_of_getElem? h1)
    · rcases get_snoc h2 with h2 | ⟨e2, f2⟩
      · have := (List.getElem?_eq_some_iff.mp h2).1
        omega
      · rw [f1, f2]; exact Nat.le_refl _
  · intro p hp r hr
    rw [List.getElem?_append_left hal, b.cur] at hp
    have := Option.some.inj hp
    subst this
    rcases List.mem_append.mp hr with hr | hr
    · exact top r hr
    · have : r = (q, d + 1) := by simpa using hr
      subst this; exact Nat.le_refl _
  · intro i p hi hp r hr
    rw [List.getElem?_append_left (by omega)] at hp
    obtain ⟨x, hx, e1, e2⟩ := b.don i p hi hp r hr
    exact ⟨x, List.mem_append_left _ hx, e1, e2⟩
  · rw [List.getElem?_append_left hal]; exact b.cur
  · intro r hr
    rw [List.take_add_one, h] at hr
    rcases List.mem_append.mp hr with hr | hr
    · obtain ⟨x, hx, e1, e2⟩ := b.nb r hr
      exact ⟨x, List.mem_append_left _ hx, e1, e2⟩
    · have : r = q := by simpa using hr
      subst this
      exact ⟨(r, d + 1), List.mem_append_right _ (by simp), rfl, Nat.le_refl _⟩
end
/-- what a search has found in the end -/
structure Far (st : Sq → List Sq) (s : Sq) (gs : List (Sq × Nat)) : Prop where
  nd : (gs.map (·.1)).Nodup
  hd : gs[0]? = some (s, 0)
  wk : ∀ p ∈ gs, Wk st p.2 s p.1
  srt : ∀ (i j : Nat) (p q : Sq × Nat), i ≤ j → gs[i]? = some p → gs[j]? = some q → p.2 ≤ q.2
  all : ∀ (n : Nat) (q : Sq), Wk st n s q → ∃ r ∈ gs, r.1 = q ∧ r.2 ≤ n
theorem Bfs.far {st : Sq → List Sq} {s : Sq} {gs : List (Sq × Nat)} {a : Nat} (b : Bfs st s gs a) (h : gs.length ≤ a) : Far st s gs := by
  refine ⟨b.nd, b.hd, b.wk, b.srt, fun n => ?_⟩
  induction n with
  | zero =>
    intro q w
    cases w
    exact ⟨(s, 0), List.mem_of_getElem? b.hd, rfl, Nat.le_refl _⟩
  | succ n ih =>
    rintro q ⟨p, w, hq⟩
    obtain ⟨r, hr, e1, e2⟩ := ih p w
    obtain ⟨i, hi, ei⟩ := List.mem_iff_getElem.mp hr
    obtain ⟨x, hx, f1, f2⟩ := b.don i r (by omega) (by rw [List.getElem?_eq_getElem hi, ei]) q (by rw [e1]; exact hq)
    exact ⟨x, hx, f1, by omega⟩
/-- the dict of met_from beside the ghost -/
structure Par (st : Sq → List Sq) (s : Sq) (kvs : List (Sq × Option Sq)) (gs : List (Sq × Nat)) : Prop where
  keys : kvs.map (·.1) = gs.map (·.1)
  hd : kvs[0]? = some (s, none)
  non : ∀ q, (q, none) ∈ kvs → q = s
  par : ∀ q p, (q, some p) ∈ kvs → q ∈ st p ∧ ∃ d, (p, d) ∈ gs ∧ (q, d + 1) ∈ gs
/-- what met_from returns -/
structure Met (st : Sq → List Sq) (s : Sq) (kvs : List (Sq × Option Sq)) : Prop where
  ex : ∃ gs, Far st s gs ∧ Par st s kvs gs
section
variable {st : Sq → List Sq} {s : Sq} {kvs : List (Sq × Option Sq)} (m : Met st s kvs)
include m
theorem Met.nd : (kvs.map (·.1)).Nodup := by
  obtain ⟨gs, f, p⟩ := m.ex
  rw [p.keys]; exact f.nd
theorem Met.mem {q : Sq} : q ∈ kvs.map (·.1) ↔ Rch st s q := by
  obtain ⟨gs, f, p⟩ := m.ex
  rw [p.keys]
  constructor
  · intro h
    obtain ⟨r, hr, e⟩ := List.mem_map.mp h
    rw [← e]; exact (f.wk r hr).rch
  · intro h
    obtain ⟨n, w⟩ := h.wk
    obtain ⟨r, hr, e, _⟩ := f.all n q w
    exact List.mem_map.mpr ⟨r, hr, e⟩
theorem Met.has {q : Sq} : hasK kvs q = true ↔ Rch st s q := by rw [hasK_iff, m.mem]
end
/-! ### values without draws -/
section
variable {α β γ δ : Type}
theorem Is.pure {a : α} : Is (WP.pure a) a := fun _ _ q => q
theorem Is.bind {w : WP α} {a : α} {f : α → WP β} {b : β} (h : Is w a) (k : Is (f a) b) : Is (w.bind f) b := fun n Q q => h n _ (k n Q q)
theorem Is.req {P : Prop} {a : α} (p : P) : Is (WP.req P a) a := fun _ _ q => ⟨p, q⟩
theorem Is.eq {w : WP α} {a b : α} (h : Is w a) (e : a = b) : Is w b := e ▸ h
theorem Is.cond {b : Bool} {A B : WP α} {x : α} (h : b = true → Is A x) (k : b = false → Is B x) : Is (WP.cond b A B) x := by
  cases b with
  | true => exact h rfl
  | false => exact k rfl
theorem Is.and {a b : WP Bool} {x y : Bool} (h : Is a x) (k : x = true → Is b y) : Is (WP.and a b) (x && y) := h.bind (by
  cases x with
  | true => exact k rfl
  | false => exact Is.pure)
theorem Is.or {a b : WP Bool} {x y : Bool} (h : Is a x) (k : x = false → Is b y) : Is (WP.or a b) (x || y) := h.bind (by
  cases x with
  | true => exact Is.pure
  | false => exact k rfl)
theorem Is.not {a : WP Bool} {x : Bool} (h : Is a x) : Is (WP.not a) (!x) := h.bind Is.pure
theorem Is.ite {c : WP Bool} {a b : WP α} {x : Bool} {y z : α} (h : Is c x) (ha : x = true → Is a y) (hb : x = false → Is b z) : Is (WP.ite c a b) (if x then y else z) := h.bind (by
  cases x with
  | true => exact ha rfl
  | false => exact hb rfl)
theorem Is.b1 {a : WP α} {x : α} {f : α → WP β} {z : β} (h : Is a x) (k : Is (f x) z) : Is (WP.b1 a f) z := h.bind k
theorem Is.b2 {a : WP α} {b : WP β} {x : α} {y : β} {f : α → β → WP γ} {z : γ} (h : Is a x) (h' : Is b y) (k : Is (f x y) z) : Is (WP.b2 a b f) z := h.bind (h'.bind k)
theorem Is.b3 {a : WP α} {b : WP β} {c : WP γ} {x : α} {y : β} {z : γ} {f : α → β → γ → WP δ} {u : δ} (h : Is a x) (h' : Is b y) (h2 : Is c z) (k : Is (f x y z) u) : Is (WP.b3 a b c f) u := h.bind (h'.bind (h2.bind k))
theorem Is.chain {C C' : Int → Int → Bool} {a b c : WP Int} {x y z : Int} (h : Is a x) (h' : Is b y) (h2 : C x y = true → Is c z) : Is (WP.chain C C' a b c) (C x y && C' y z) := h.bind (h'.bind (by
  cases e : C x y with
  | true => exact (h2 e).bind Is.pure
  | false => exact Is.pure))
theorem Is.ret {w : WP α} {a : α} (h : Is w a) : Is (w.bind fun r => WP.pure r) a := h.bind Is.pure
theorem Is.comp {c : α → WP Bool} {f : α → WP β} {p : α → Bool} {g : α → β} : ∀ {xs : List α}, (∀ x ∈ xs, Is (c x) (p x)) → (∀ x ∈ xs, p x = true → Is (f x) (g x)) → Is (WP.comp c f xs) ((xs.filter p).map g)
  | [], _, _ => Is.pure
  | x :: xs, h, k => (h x List.mem_cons_self).bind (by
    have ih := Is.comp (xs := xs) (fun y m => h y (List.mem_cons_of_mem _ m)) (fun y m => k y (List.mem_cons_of_mem _ m))
    rw [List.filter_cons]
    cases e : p x with
    | true => exact (k x List.mem_cons_self e).bind (ih.bind Is.pure)
    | false => exact ih)
theorem Is.lc {w : WP (List α)} {xs : List α} {c : α → WP Bool} {f : α → WP β} {p : α → Bool} {g : α → β} (hw : Is w xs) (hl : xs.length ≤ 100000) (h : ∀ x ∈ xs, Is (c x) (p x)) (k : ∀ x ∈ xs, p x = true → Is (f x) (g x)) : Is (WP.lc w c f) ((xs.filter p).map g) :=
  hw.bind ((Is.req hl).bind (Is.comp h k))
theorem Is.lcM {w : WP (List α)} {xs : List α} {f : α → WP β} {g : α → β} (hw : Is w xs) (hl : xs.length ≤ 100000) (k : ∀ x ∈ xs, Is (f x) (g x)) : Is (WP.lc w (fun _ => WP.pure true) f) (xs.map g) := by
  have h := Is.lc (p := fun _ => true) hw hl (fun _ _ => Is.pure) (fun x m _ => k x m)
  rwa [List.filter_eq_self.mpr (fun _ _ => rfl)] at h
theorem Is.lcF {w : WP (List α)} {xs : List α} {c : α → WP Bool} {p : α → Bool} (hw : Is w xs) (hl : xs.length ≤ 100000) (h : ∀ x ∈ xs, Is (c x) (p x)) : Is (WP.lc w c fun x => WP.pure x) (xs.filter p) := by
  have h := Is.lc (g := id) hw hl h (fun x m _ => Is.pure)
  rwa [List.map_id] at h
/-- a loop by an invariant, then what follows -/
theorem Is.loop {s ρ : Type} {body : α → s → WP (Ctl s γ)} {xs : List α} {x : s} {f : s → WP ρ} {r : γ → WP ρ} (g : Nat → s) (h0 : g 0 = x) (hs : ∀ i a, xs[i]? = some a → Is (body a (g i)) (.nx (g (i + 1)))) {z : ρ} (hd : Is (f (g xs.length)) z) : Is (WP.after (WP.loop body xs x) f r) z := by
  intro n Q q
  refine WP.after_inv (fun i m y => m = n ∧ y = g i) ⟨rfl, h0.symm⟩ (fun i m a y ha hi => ?_) (fun m y hy => ?_)
  · obtain ⟨rfl, rfl⟩ := hi
    exact hs i a ha _ _ ⟨rfl, rfl⟩
  · obtain ⟨rfl, rfl⟩ := hy
    exact hd _ _ q
/-! values with draws -/
theorem Is.draws {w : WP α} {a : α} {k : Nat} (h : Is w a) : Draws w k (· = a) := fun n Q _ q => h n Q (q n a (Nat.le_refl _) (Nat.le_add_right _ _) rfl)
theorem Draws.bind {w : WP α} {k k' : Nat} {P : α → Prop} {P' : β → Prop} {f : α → WP β} (h : Draws w k P) (h' : ∀ a, P a → Draws (f a) k' P') : Draws (w.bind f) (k + k') P' := fun n Q hn q =>
  h n _ (by omega) fun m b h1 h2 hb => h' b hb m Q (by omega) fun m' c h3 h4 hc => q m' c (by omega) (by omega) hc
theorem Draws.pure {a : α} {P : α → Prop} (h : P a) : Draws (WP.pure a) 0 P := fun n Q _ q => q n a (Nat.le_refl _) (Nat.le_refl _) h
theorem Draws.imp {w : WP α} {k k' : Nat} {P P' : α → Prop} (h : Draws w k P) (hk : k ≤ k') (hp : ∀ a, P a → P' a) : Draws w k' P' := fun n Q hn q =>
  h n Q (by omega) fun m b h1 h2 hb => q m b h1 (by omega) (hp b hb)
theorem Draws.take {many : Int} (h : 0 < many) : Draws (WP.take many) 1 (fun x => 0 ≤ x ∧ x < many) := fun n Q hn q => ⟨by omega, h, fun x h1 h2 => q _ x (by omega) (by omega) ⟨h1, h2⟩⟩
end
namespace WP
variable {s γ ρ : Type}
end WP
theorem Par.new {st : Sq → List Sq} {s : Sq} {kvs : List (Sq × Option Sq)} {gs : List (Sq × Nat)} {q c : Sq} {d : Nat} (p : Par st s kvs gs) (hq : q ∈ st c) (hc : (c, d) ∈ gs) : Par st s (kvs ++ [(q, some c)]) (gs ++ [(q, d + 1)]) := by
  have h0 : 0 < kvs.length := (List.getElem?_eq_some_iff.mp p.hd).1
  refine ⟨by rw [List.map_append, List.map_append, p.keys]; rfl, by rw [List.getElem?_append_left h0]; exact p.hd, fun r hr => ?_, fun r o hr => ?_⟩
  · rcases List.mem_append.mp hr with hr | hr
    · exact p.non r hr
    · simp at hr
  · rcases List.mem_append.mp hr with hr | hr
    · obtain ⟨a, e, b, c⟩ := p.par r o hr
      exact ⟨a, e, List.mem_append_left _ b, List.mem_append_left _ c⟩
    · simp at hr
      obtain ⟨rfl, rfl⟩ := hr
      exact ⟨hq, d, List.mem_append_left _ hc, List.mem_append_right _ (by simp)⟩
/-! ### the chart's functions -/
def is_squareM (ch : List Str) (q : Sq) : WP Bool := (WP.pure q).bind fun x => (WP.and (WP.chain (fun i j => decide (i ≤ j)) (fun i j => decide (i < j)) (WP.pure (0 : Int)) (WP.pure x.1) (WP.len (WP.pure ch))) (WP.chain (fun i j => decide (i ≤ j)) (fun i j => decide (i < j)) (WP.pure (0 : Int)) (WP.pure x.2) (WP.lenS (WP.ix (WP.pure ch) (WP.pure (0 : Int)))))).bind fun r2 => (WP.pure r2)
theorem Is.len {α : Type} {w : WP (List α)} {xs : List α} (h : Is w xs) : Is (WP.len w) ((xs.length : Nat) : Int) := h.bind Is.pure
theorem Is.wid0 {ch : List Str} (c : Ch ch) : Is (WP.lenS (WP.ix (WP.pure ch) (WP.pure (0 : Int)))) ((wid ch : Nat) : Int) := fun n Q q => by
  (simp only [WP.run_bind, WP.run_pure, WP.run_req, WP.run_any, WP.run_take, WP.run_cond, WP.run_range1, WP.run_range2, decide_eq_true_eq, decide_eq_false_iff_not, Bool.not_eq_true', Bool.not_eq_false'])
  exact ⟨c.ok0, c.wl0, q⟩
theorem is_square_is {ch : List Str} (c : Ch ch) (q : Sq) : Is (is_squareM ch q) (isSq ch q) :=
  Is.pure.bind (Is.ret (Is.and (Is.chain Is.pure Is.pure fun _ => Is.len Is.pure) fun _ => Is.chain Is.pure Is.pure fun _ => Is.wid0 c))
theorem Is.sign {ch : List Str} (c : Ch ch) {q : Sq} (h : isSq ch q = true) : Is (WP.ixS (WP.ix (WP.pure ch) (WP.fst (WP.pure q))) (WP.snd (WP.pure q))) (sgn (ixD ch q.1) q.2) := fun n Q z => by
  (simp only [WP.run_bind, WP.run_pure, WP.run_req, WP.run_any, WP.run_take, WP.run_cond, WP.run_range1, WP.run_range2, decide_eq_true_eq, decide_eq_false_iff_not, Bool.not_eq_true', Bool.not_eq_false'])
  exact ⟨c.ok1 h, ⟨c.wl1 h, c.ok2 h⟩, z⟩
def side_neighboursM (a_square : Sq) : WP (List Sq) := (WP.pure a_square).bind fun a1_row_column => (WP.row (WP.consE (WP.pair (WP.sub (WP.pure a1_row_column.1) (WP.pure (1 : Int))) (WP.pure a1_row_column.2)) (WP.consE (WP.pair (WP.pure a1_row_column.1) (WP.sub (WP.pure a1_row_column.2) (WP.pure (1 : Int)))) (WP.consE (WP.pair (WP.pure a1_row_column.1) (WP.add (WP.pure a1_row_column.2) (WP.pure (1 : Int)))) (WP.consE (WP.pair (WP.add (WP.pure a1_row_column.1) (WP.pure (1 : Int))) (WP.pure a1_row_column.2)) (WP.pure ([] : List Sq))))))).bind fun r2 => (WP.pure r2)
theorem side_neighbours_is (q : Sq) : Is (side_neighboursM q) (sides q) := fun n Q z => ⟨by simp, z⟩
theorem rch_land {ch : List Str} {s q : Sq} (h : Rch (ldBeside ch) s q) : q = s ∨ isLd ch q = true := by
  induction h with
  | refl => exact .inl rfl
  | step _ h _ => exact .inr (List.mem_filter.mp h).2
end Y

/-! plain facts: texts of signs, reliefs -/
namespace Y
open PySem L2
theorem join_nil (ys : List Str) : (Txt.join (Str.ofString "") ys).cps.toList = (ys.map fun y => y.cps.toList).flatten := by
  show (Builtin.Str.glued (Str.ofString "") ys).cps.toList = _
  rw [StrLaws.glued_eq_join]
  have := TL.tl_join (Str.ofString "") ys
  have e0 : TL.tl (Str.ofString "") = [] := by decide +kernel
  rw [e0] at this
  have e1 : ∀ l : List (List Nat), TL.joinL [] l = l.flatten := fun l => by
    induction l with
    | nil => rfl
    | cons a l ih => cases l with
      | nil => simp [TL.joinL]
      | cons b l =>
        show a ++ ([] ++ TL.joinL [] (b :: l)) = _
        rw [ih]; simp
  rw [e1] at this
  exact this
def mkS (cs : List Nat) : Str := ⟨cs.toArray⟩
theorem str_ext {a b : Str} (h : a.cps.toList = b.cps.toList) : a = b := by
  obtain ⟨a⟩ := a
  obtain ⟨b⟩ := b
  have : a = b := by
    have h' : a.toList = b.toList := h
    exact Array.toList_inj.mp h'
  rw [this]
theorem tl_mkS (cs : List Nat) : (mkS cs).cps.toList = cs := by unfold mkS; simp
theorem mkS_len (cs : List Nat) : (mkS cs).length = cs.length := by
  show (mkS cs).cps.size = _
  unfold mkS; simp
theorem tl_len (s : Str) : s.cps.toList.length = s.length := Array.length_toList
theorem join1 (cs : List Nat) : Txt.join (Str.ofString "") (cs.map fun c => (⟨#[c]⟩ : Str)) = mkS cs := by
  apply str_ext
  rw [join_nil, tl_mkS, List.map_map]
  induction cs with
  | nil => rfl
  | cons c cs ih => rw [List.map_cons, List.flatten_cons, ih]; rfl
theorem ones (cs : List Nat) : ((cs.map fun c => (⟨#[c]⟩ : Str)).map (·.length)).sum = cs.length := by
  induction cs with
  | nil => rfl
  | cons c cs ih =>
    rw [List.map_cons, List.map_cons, List.sum_cons, ih, List.length_cons]
    have : (⟨#[c]⟩ : Str).length = 1 := rfl
    omega
theorem join1_is {w : WP (List Str)} {cs : List Nat} (h : Is w (cs.map fun c => (⟨#[c]⟩ : Str))) (hl : cs.length ≤ 100000) : Is (WP.join (WP.pure (Str.ofString "")) w) (mkS cs) := Is.pure.bind (h.bind ((Is.req (by
  rw [ones, List.length_map]
  have : (Str.ofString "").length = 0 := by decide +kernel
  rw [this]; omega)).eq (join1 cs)))
/-! digits -/
theorem dig_cases {P : Nat → Prop} {c : Nat} (h1 : 48 ≤ c) (h2 : c ≤ 57) (h : P 48 ∧ P 49 ∧ P 50 ∧ P 51 ∧ P 52 ∧ P 53 ∧ P 54 ∧ P 55 ∧ P 56 ∧ P 57) : P c := by
  have : c = 48 ∨ c = 49 ∨ c = 50 ∨ c = 51 ∨ c = 52 ∨ c = 53 ∨ c = 54 ∨ c = 55 ∨ c = 56 ∨ c = 57 := by omega
  rcases this with e | e | e | e | e | e | e | e | e | e <;> subst e <;> simp only [h]
theorem dig_int {c : Nat} (h1 : 48 ≤ c) (h2 : c ≤ 57) : PySem.intText? ⟨#[c]⟩ = some ((c : Int) - 48) :=
  dig_cases (P := fun c => PySem.intText? ⟨#[c]⟩ = some ((c : Int) - 48)) h1 h2 (by decide +kernel)
theorem dig_ix {c : Nat} (h1 : 48 ≤ c) (h2 : c ≤ 57) : Txt.index0 ("0123456789" : Str) ⟨#[c]⟩ = some (c - 48) :=
  dig_cases (P := fun c => Txt.index0 ("0123456789" : Str) ⟨#[c]⟩ = some (c - 48)) h1 h2 (by decide +kernel)
theorem dig_str {d : Int} (h1 : 0 ≤ d) (h2 : d ≤ 9) : (toString d : Str) = ⟨#[48 + d.toNat]⟩ := by
  have := dig_cases (c := 48 + d.toNat) (P := fun c => (toString ((c : Int) - 48) : Str) = ⟨#[c]⟩) (by omega) (by omega) (by decide +kernel)
  have e : (((48 + d.toNat : Nat) : Int) - 48) = d := by omega
  rw [e] at this
  exact this
structure Rel (rel : List Str) : Prop where
  ch : Ch rel
  dg : ∀ s ∈ rel, ∀ c ∈ s.cps.toList, 48 ≤ c ∧ c ≤ 57
def hg (rel : List Str) (q : Sq) : Int := ((ixD (ixD rel q.1).cps.toList q.2 : Nat) : Int) - 48
section
variable {rel : List Str} {q : Sq} (r : Rel rel)
include r
theorem Rel.at (h : isSq rel q = true) : 48 ≤ ixD (ixD rel q.1).cps.toList q.2 ∧ ixD (ixD rel q.1).cps.toList q.2 ≤ 57 := by
  have hh := isSq_iff.mp h
  refine r.dg _ (ixD_mem hh.1 hh.2.1) _ (ixD_mem hh.2.2.1 ?_)
  rw [tl_len, r.ch.len1 h]; exact hh.2.2.2
theorem Rel.hg (h : isSq rel q = true) : 0 ≤ hg rel q ∧ hg rel q ≤ 9 := by
  have := r.at h
  unfold Y.hg
  omega
theorem Rel.sgn (h : isSq rel q = true) : sgn (ixD rel q.1) q.2 = ⟨#[(48 + (Y.hg rel q).toNat)]⟩ := by
  have := r.at h
  unfold Y.sgn Y.hg
  congr 3
  omega
end
def heightM (a_relief : (List Str)) (a_square : Sq) : WP Int := (WP.index (WP.pure ("0123456789" : Str)) (WP.ixS (WP.ix (WP.pure a_relief) (WP.fst (WP.pure a_square))) (WP.snd (WP.pure a_square)))).bind fun r1 => (WP.pure r1)
theorem height_is {rel : List Str} {q : Sq} (r : Rel rel) (h : isSq rel q = true) : Is (heightM rel q) (hg rel q) := by
  have hb := r.hg h
  refine Is.ret (Is.pure.bind ((Is.sign r.ch h).bind ?_))
  rw [r.sgn h]
  show Is (WP.req ((Txt.index0 ("0123456789" : Str) _).isSome = true) _) _
  rw [dig_ix (by omega) (by omega)]
  refine (Is.req rfl).eq ?_
  show (((48 + (hg rel q).toNat - 48 : Nat)) : Int) = _
  omega
def law_highM (a_relief : (List Str)) (a_square : Sq) : WP Int := (WP.int' (WP.ixS (WP.ix (WP.pure a_relief) (WP.fst (WP.pure a_square))) (WP.snd (WP.pure a_square)))).bind fun r1 => (WP.pure r1)
theorem law_high_is {rel : List Str} {q : Sq} (r : Rel rel) (h : isSq rel q = true) : Is (law_highM rel q) (hg rel q) := by
  have hb := r.hg h
  refine Is.ret ((Is.sign r.ch h).bind ?_)
  rw [r.sgn h, dig_int (by omega) (by omega)]
  refine (Is.req ⟨rfl, by show 1 ≤ 640; decide⟩).eq ?_
  show ((48 + (hg rel q).toNat : Nat) : Int) - 48 = _
  omega
/-! the chart at a level -/
def lvS (L : Int) (s : Str) : Str := mkS (s.cps.toList.map fun (c : Nat) => if L ≤ (c : Int) - 48 then 120 else 46)
def lvl (rel : List Str) (L : Int) : List Str := rel.map (lvS L)
theorem lvS_len (L : Int) (s : Str) : (lvS L s).length = s.length := by
  unfold lvS
  rw [mkS_len, List.length_map, tl_len]
theorem ixD_map {α β : Type} [Inhabited α] [Inhabited β] {xs : List α} {f : α → β} {i : Int} (h0 : 0 ≤ i) (h : i < xs.length) : ixD (xs.map f) i = f (ixD xs i) := by
  obtain ⟨h1, e1⟩ := ixD_get h0 h
  obtain ⟨h2, e2⟩ := ixD_get (xs := xs.map f) h0 (by rw [List.length_map]; exact h)
  rw [e1, e2, List.getElem_map]
theorem lvl_wid {rel : List Str} (c : Ch rel) (L : Int) : wid (lvl rel L) = wid rel := by
  unfold wid lvl
  rw [ixD_map (by omega) (by have := c.ne; omega), lvS_len]
theorem lvl_sq {rel : List Str} (c : Ch rel) (L : Int) (q : Sq) : isSq (lvl rel L) q = isSq rel q := by
  unfold isSq
  rw [lvl_wid c]
  unfold lvl
  rw [List.length_map]
theorem lvl_ld {rel : List Str} (r : Ch rel) (L : Int) (q : Sq) : isLd (lvl rel L) q = (isSq rel q && decide (L ≤ hg rel q)) := by
  unfold isLd
  rw [lvl_sq r]
  cases h : isSq rel q with
  | false => rfl
  | true =>
    have hh := isSq_iff.mp h
    rw [Bool.true_and, Bool.true_and]
    have e : sgn (ixD (lvl rel L) q.1) q.2 = ⟨#[if L ≤ hg rel q then 120 else 46]⟩ := by
      unfold lvl
      rw [ixD_map hh.1 hh.2.1]
      unfold sgn lvS hg
      rw [tl_mkS, ixD_map hh.2.2.1 (by rw [tl_len, r.len1 h]; exact hh.2.2.2)]
    rw [e]
    by_cases g : L ≤ hg rel q
    · rw [if_pos g, decide_eq_true g]; decide +kernel
    · rw [if_neg g, decide_eq_false g]; decide +kernel
/-! joined at a level -/
def Jn (rel : List Str) (L : Int) (a b : Sq) : Prop := Rch (ldBeside (lvl rel L)) a b
theorem mem_ldB {ch : List Str} {p q : Sq} : q ∈ ldBeside ch p ↔ q ∈ sides p ∧ isLd ch q = true := by
  unfold ldBeside
  rw [List.mem_filter]
theorem rch_symm {ch : List Str} {a b : Sq} (ha : isLd ch a = true) (h : Rch (ldBeside ch) a b) : Rch (ldBeside ch) b a := by
  induction h with
  | refl => exact .refl
  | @step p q hp hq ih =>
    have hp' : isLd ch p = true := by
      rcases rch_land hp with e | e
      · rw [e]; exact ha
      · exact e
    exact (Rch.one (mem_ldB.mpr ⟨sides_symm (mem_ldB.mp hq).1, hp'⟩)).trans ih
theorem Jn.mono {rel : List Str} {L L' : Int} {a b : Sq} (r : Rel rel) (hl : L ≤ L') (h : Jn rel L' a b) : Jn rel L a b :=
  Rch.mono (fun p q hq => by
    obtain ⟨h1, h2⟩ := mem_ldB.mp hq
    rw [lvl_ld r.ch, Bool.and_eq_true, decide_eq_true_eq] at h2
    refine mem_ldB.mpr ⟨h1, ?_⟩
    rw [lvl_ld r.ch, Bool.and_eq_true, decide_eq_true_eq]
    exact ⟨h2.1, by omega⟩) h
theorem Jn.symm {rel : List Str} {L : Int} {a b : Sq} (r : Rel rel) (ha : isSq rel a = true) (hl : L ≤ hg rel a) (h : Jn rel L a b) : Jn rel L b a :=
  rch_symm (by rw [lvl_ld r.ch, ha, decide_eq_true hl]; rfl) h
/-- in a chart that is all land all is joined -/
theorem rch_full {ch : List Str} (h : ∀ q, isSq ch q = true → isLd ch q = true) {a b : Sq} (ha : isSq ch a = true) (hb : isSq ch b = true) : Rch (ldBeside ch) a b := by
  have step : ∀ {p q : Sq}, isSq ch q = true → q ∈ sides p → Rch (ldBeside ch) p q := fun hq hs => Rch.one (mem_ldB.mpr ⟨hs, h _ hq⟩)
  have rows : ∀ n : Nat, ∀ c : Int, isSq ch ((n : Int), c) = true → Rch (ldBeside ch) (0, c) ((n : Int), c) := fun n => by
    induction n with
    | zero => intro c _; exact .refl
    | succ n ih =>
      intro c hc
      have hh := isSq_iff.mp hc
      have : isSq ch ((n : Int), c) = true := isSq_iff.mpr ⟨by show (0 : Int) ≤ n; omega, by have := hh.2.1; simp only at this ⊢; omega, hh.2.2⟩
      refine (ih c this).trans (step hc ?_)
      simp [sides]
  have cols : ∀ n : Nat, isSq ch (0, (n : Int)) = true → Rch (ldBeside ch) (0, 0) (0, (n : Int)) := fun n => by
    induction n with
    | zero => intro _; exact .refl
    | succ n ih =>
      intro hc
      have hh := isSq_iff.mp hc
      have : isSq ch (0, (n : Int)) = true := isSq_iff.mpr ⟨hh.1, hh.2.1, by show (0 : Int) ≤ n; omega, by have := hh.2.2.2; simp only at this ⊢; omega⟩
      refine (ih this).trans (step hc ?_)
      simp [sides]
  have zero : ∀ q : Sq, isSq ch q = true → isSq ch (0, 0) = true ∧ Rch (ldBeside ch) (0, 0) q := fun q hq => by
    have hh := isSq_iff.mp hq
    obtain ⟨r, c⟩ := q
    simp only at hh
    have h0 : isSq ch (0, c) = true := isSq_iff.mpr ⟨Int.le_refl _, by show (0 : Int) < _; omega, hh.2.2⟩
    have h00 : isSq ch (0, 0) = true := isSq_iff.mpr ⟨Int.le_refl _, by show (0 : Int) < _; omega, Int.le_refl _, by show (0 : Int) < _; omega⟩
    have e1 : ((r.toNat : Nat) : Int) = r := by omega
    have e2 : ((c.toNat : Nat) : Int) = c := by omega
    have g1 := cols c.toNat (by rw [e2]; exact h0)
    have g2 := rows r.toNat c (by rw [e1]; exact hq)
    rw [e2] at g1
    rw [e1] at g2
    exact ⟨h00, g1.trans g2⟩
  have g := zero a ha
  exact (rch_symm (h _ g.1) g.2).trans (zero b hb).2
theorem Jn.zero {rel : List Str} (r : Rel rel) {a b : Sq} (ha : isSq rel a = true) (hb : isSq rel b = true) : Jn rel 0 a b := by
  refine rch_full (fun q hq => ?_) (by rw [lvl_sq r.ch]; exact ha) (by rw [lvl_sq r.ch]; exact hb)
  rw [lvl_sq r.ch] at hq
  rw [lvl_ld r.ch, hq, decide_eq_true (r.hg hq).1]; rfl
structure Sad (rel : List Str) (a b : Sq) (L : Int) : Prop where
  lo : 0 ≤ L
  la : L ≤ hg rel a
  lb : L ≤ hg rel b
  j : Jn rel L a b
  top : ∀ L', L < L' → L' ≤ hg rel a → L' ≤ hg rel b → ¬ Jn rel L' a b
theorem Sad.inj {rel : List Str} {a b : Sq} {L L' : Int} (h : Sad rel a b L) (h' : Sad rel a b L') : L = L' := by
  rcases Int.lt_trichotomy L L' with g | g | g
  · exact absurd h'.j (h.top L' g h'.la h'.lb)
  · exact g
  · exact absurd h.j (h'.top L g h.la h.lb)
theorem Sad.symm {rel : List Str} (r : Rel rel) {a b : Sq} (ha : isSq rel a = true) (hb : isSq rel b = true) {L : Int} (h : Sad rel a b L) : Sad rel b a L :=
  ⟨h.lo, h.lb, h.la, h.j.symm r ha h.la, fun L' h1 h2 h3 h4 => h.top L' h1 h3 h2 (h4.symm r hb h2)⟩
end Y

/-! plain facts: draws, drawn reliefs, tables over all squares -/
namespace Y
open PySem L2
/-! all squares, gone through -/
def colsTo (r j : Nat) : List Sq := (List.range j).map fun (c : Nat) => (((r : Int), (c : Int)) : Sq)
def rowsTo (ch : List Str) (i : Nat) : List Sq := (List.range i).flatMap fun (r : Nat) => colsTo r (wid ch)
theorem colsTo_succ (r j : Nat) : colsTo r (j + 1) = colsTo r j ++ [((r : Int), (j : Int))] := by
  unfold colsTo
  rw [List.range_succ, List.map_append]; rfl
theorem rowsTo_succ {ch : List Str} {i : Nat} : rowsTo ch i ++ colsTo i (wid ch) = rowsTo ch (i + 1) := by
  unfold rowsTo
  rw [List.range_succ, List.flatMap_append]
  simp
theorem rowsTo_all (ch : List Str) : rowsTo ch ch.length = allSq ch := rfl
theorem rowsTo_len (ch : List Str) (i : Nat) : (rowsTo ch i).length = i * wid ch := by
  unfold rowsTo
  rw [flatMap_len _ _ (wid ch) (fun x _ => by unfold colsTo; simp), List.length_range]
theorem all_small {ch : List Str} (c : Ch ch) {i j : Nat} (hi : i < ch.length) (hj : j < wid ch) : (rowsTo ch i ++ colsTo i j).length < 100000 := by
  have h2 : (colsTo i j).length = j := by unfold colsTo; simp
  rw [List.length_append, rowsTo_len, h2]
  have := Nat.mul_le_mul (show i ≤ 300 by have := c.hl; omega) c.wl
  have := c.wl
  omega
def law_allM (a_relief : (List Str)) : WP (List Sq) := (WP.row (WP.pure ([] : List Sq))).bind fun a1_found => (WP.range1 (WP.len (WP.pure a_relief))).bind fun xs2 => WP.after (WP.loop (γ := (List Sq)) (fun c2 (y2 : (List Sq)) => (WP.range1 (WP.lenS (WP.ix (WP.pure a_relief) (WP.pure (0 : Int))))).bind fun xs3 => WP.after (WP.loop (γ := (List Sq)) (fun c3 (y3 : (List Sq)) => ((WP.pair (WP.pure c2) (WP.pure c3)).bind fun a => WP.req (y3.length < 100000) (y3 ++ [a])).bind fun a4_found => (WP.pure (.nx a4_found))) xs3 y2) (fun (z3 : (List Sq)) => (WP.pure (.nx z3))) (fun r => (WP.pure (.rt r)))) xs2 a1_found) (fun (z2 : (List Sq)) => (WP.pure z2)) (fun r => (WP.pure r))
theorem Is.range1 {w : WP Int} {k : Nat} (h : Is w (k : Int)) (hk : k ≤ 100000) : Is (WP.range1 w) (rangeL 0 (k : Int)) := h.bind (Is.req ⟨by omega, by omega⟩)
theorem law_all_is {ch : List Str} (c : Ch ch) : Is (law_allM ch) (allSq ch) := by
  have hh := c.hl
  have hw := c.wl
  refine (Is.req (by simp)).bind ((Is.range1 (Is.len Is.pure) (by omega)).bind ?_)
  refine Is.loop (fun i => rowsTo ch i) rfl (fun i a ha => ?_) ?_
  · obtain ⟨rfl, hi⟩ := rangeL0_get ha
    refine (Is.range1 (Is.wid0 c) (by omega)).bind ?_
    refine Is.loop (fun j => rowsTo ch i ++ colsTo i j) (by simp [colsTo]) (fun j b hb => ?_) ?_
    · obtain ⟨rfl, hj⟩ := rangeL0_get hb
      refine Is.bind (a := rowsTo ch i ++ colsTo i (j + 1)) (Is.bind (Is.b2 Is.pure Is.pure Is.pure) ((Is.req (all_small c (by omega) (by omega))).eq ?_)) Is.pure
      rw [colsTo_succ, List.append_assoc]
    · rw [rangeL0_len, Int.toNat_natCast, rowsTo_succ]
      exact Is.pure
  · rw [rangeL0_len, Int.toNat_natCast, rowsTo_all]
    exact Is.pure
/-! tables -/
section
variable {β : Type}
end
theorem allSq_nodup (ch : List Str) : (allSq ch).Nodup := by
  unfold allSq
  have : ∀ n : Nat, ((List.range n).flatMap fun (r : Nat) => (List.range (wid ch)).map fun (c : Nat) => (((r : Int), (c : Int)) : Sq)).Nodup := fun n => by
    induction n with
    | zero => simp
    | succ n ih =>
      rw [List.range_succ, List.flatMap_append, List.nodup_append]
      refine ⟨ih, ?_, fun x hx y hy => ?_⟩
      · simp only [List.flatMap_cons, List.flatMap_nil, List.append_nil]
        refine List.Pairwise.map _ (fun a b hab => ?_) (List.nodup_range (n := wid ch))
        intro z
        injection z with _ z2
        omega
      · simp only [List.mem_flatMap, List.mem_map, List.mem_range] at hx
        simp only [List.flatMap_cons, List.flatMap_nil, List.append_nil, List.mem_map, List.mem_range] at hy
        obtain ⟨r, hr, c, _, rfl⟩ := hx
        obtain ⟨c', _, rfl⟩ := hy
        intro z
        injection z with z1 _
        omega
  exact this ch.length
/-! ### the widest ways, by raising -/
structure Snd (rel : List Str) (s : Sq) (f : Sq → Int) : Prop where
  at' : f s = hg rel s
  all : ∀ q, isSq rel q = true → f q = -1 ∨ (0 ≤ f q ∧ f q ≤ hg rel q ∧ f q ≤ hg rel s ∧ Jn rel (f q) s q)
def law_sidesM (a_square : Sq) : WP (List Sq) := side_neighboursM a_square
/-- within a round -/
structure Rn (rel : List Str) (s : Sq) (f f' : Sq → Int) (c : Bool) : Prop where
  snd : Snd rel s f'
  le : ∀ q, isSq rel q = true → f q ≤ f' q
  same : c = false → f' = f
end Y

/-! plain facts: what laws draw -/
namespace Y
open PySem L2
def law_pickM (_ : Unit) (a_row : (List Sq)) : WP Sq := (WP.ix (WP.pure a_row) (WP.mod (WP.add (WP.mul (WP.b2 (WP.pure ()) (WP.pure (1009 : Int)) m_take) (WP.pure (1009 : Int))) (WP.b2 (WP.pure ()) (WP.pure (1009 : Int)) m_take)) (WP.len (WP.pure a_row)))).bind fun r1 => (WP.pure r1)
def law_heightM (_ : Unit) (a_style : Int) (a_span : Int) (a_r : Int) (a_c : Int) (a_rows : Int) (a_columns : Int) : WP Int := (WP.min4 (WP.pure a_r) (WP.pure a_c) (WP.sub (WP.sub (WP.pure a_rows) (WP.pure (1 : Int))) (WP.pure a_r)) (WP.sub (WP.sub (WP.pure a_columns) (WP.pure (1 : Int))) (WP.pure a_c))).bind fun a1_edge => (WP.b2 (WP.pure ()) (WP.pure a_span) m_take).bind fun a2_drawn => (WP.eq (WP.pure a_style) (WP.pure (1 : Int))).bind fun b => WP.cond b ((WP.min2 (WP.sub (WP.pure a_span) (WP.pure (1 : Int))) (WP.add (WP.pure a1_edge) (WP.mod (WP.pure a2_drawn) (WP.pure (2 : Int))))).bind fun r4 => (WP.pure r4)) ((WP.eq (WP.pure a_style) (WP.pure (2 : Int))).bind fun b => WP.cond b ((WP.max2 (WP.pure (0 : Int)) (WP.sub (WP.sub (WP.sub (WP.pure a_span) (WP.pure (1 : Int))) (WP.pure a1_edge)) (WP.mod (WP.pure a2_drawn) (WP.pure (2 : Int))))).bind fun r6 => (WP.pure r6)) ((WP.eq (WP.pure a_style) (WP.pure (3 : Int))).bind fun b => WP.cond b ((WP.ite (WP.eq (WP.mod (WP.pure a1_edge) (WP.pure (2 : Int))) (WP.pure (0 : Int))) (WP.pure a2_drawn) (WP.fdiv (WP.pure a2_drawn) (WP.pure (3 : Int)))).bind fun r8 => (WP.pure r8)) ((WP.eq (WP.pure a_style) (WP.pure (4 : Int))).bind fun b => WP.cond b ((WP.ite (WP.or (WP.eq (WP.mod (WP.pure a_r) (WP.pure (2 : Int))) (WP.pure (0 : Int))) (WP.eq (WP.pure a_c) (WP.ix (WP.row (WP.consE (WP.pure (0 : Int)) (WP.consE (WP.sub (WP.pure a_columns) (WP.pure (1 : Int))) (WP.pure ([] : List Int))))) (WP.mod (WP.fdiv (WP.pure a_r) (WP.pure (2 : Int))) (WP.pure (2 : Int)))))) (WP.sub (WP.pure a_span) (WP.pure (1 : Int))) (WP.fdiv (WP.pure a2_drawn) (WP.pure (2 : Int)))).bind fun r10 => (WP.pure r10)) ((WP.eq (WP.pure a_style) (WP.pure (5 : Int))).bind fun b => WP.cond b ((WP.ite (WP.or (WP.eq (WP.mod (WP.pure a_r) (WP.pure (2 : Int))) (WP.pure (0 : Int))) (WP.eq (WP.pure a_c) (WP.ix (WP.row (WP.consE (WP.pure (0 : Int)) (WP.consE (WP.sub (WP.pure a_columns) (WP.pure (1 : Int))) (WP.pure ([] : List Int))))) (WP.mod (WP.fdiv (WP.pure a_r) (WP.pure (2 : Int))) (WP.pure (2 : Int)))))) (WP.fdiv (WP.pure a2_drawn) (WP.pure (2 : Int))) (WP.sub (WP.pure a_span) (WP.pure (1 : Int)))).bind fun r12 => (WP.pure r12)) ((WP.eq (WP.pure a_style) (WP.pure (6 : Int))).bind fun b => WP.cond b ((WP.ite (WP.eq (WP.mod (WP.add (WP.pure a_r) (WP.pure a_c)) (WP.pure (2 : Int))) (WP.pure (0 : Int))) (WP.pure a2_drawn) (WP.sub (WP.sub (WP.pure a_span) (WP.pure (1 : Int))) (WP.fdiv (WP.pure a2_drawn) (WP.pure (3 : Int))))).bind fun r14 => (WP.pure r14)) ((WP.eq (WP.pure a_style) (WP.pure (7 : Int))).bind fun b => WP.cond b ((WP.mod (WP.add (WP.fdiv (WP.pure a_r) (WP.pure (2 : Int))) (WP.mul (WP.fdiv (WP.pure a_c) (WP.pure (2 : Int))) (WP.pure (2 : Int)))) (WP.pure a_span)).bind fun r16 => (WP.pure r16)) ((WP.pure a2_drawn).bind fun r17 => (WP.pure r17))))))))
def law_reliefM (_ : Unit) (a_rows : Int) (a_columns : Int) : WP (List Str) := (WP.ix (WP.row (WP.consE (WP.pure (2 : Int)) (WP.consE (WP.pure (3 : Int)) (WP.consE (WP.pure (5 : Int)) (WP.consE (WP.pure (10 : Int)) (WP.pure ([] : List Int))))))) (WP.b2 (WP.pure ()) (WP.pure (4 : Int)) m_take)).bind fun a1_span => (WP.b2 (WP.pure ()) (WP.sub (WP.pure (11 : Int)) (WP.pure a1_span)) m_take).bind fun a2_base => (WP.b2 (WP.pure ()) (WP.pure (10 : Int)) m_take).bind fun a3_style => (WP.row (WP.pure ([] : List (List Int)))).bind fun a4_grid => (WP.range1 (WP.pure a_rows)).bind fun xs5 => WP.after (WP.loop (γ := (List Str)) (fun c5 (y5 : (List (List Int))) => (WP.row (WP.pure ([] : List Int))).bind fun a6_row => (WP.range1 (WP.pure a_columns)).bind fun xs7 => WP.after (WP.loop (γ := (List Str)) (fun c7 (y7 : (List Int)) => ((WP.add (WP.pure a2_base) (WP.b7 (WP.pure ()) (WP.pure a3_style) (WP.pure a1_span) (WP.pure c5) (WP.pure c7) (WP.pure a_rows) (WP.pure a_columns) law_heightM)).bind fun a => WP.req (y7.length < 100000) (y7 ++ [a])).bind fun a8_row => (WP.pure (.nx a8_row))) xs7 a6_row) (fun (z7 : (List Int)) => (WP.req (y5.length < 100000) (y5 ++ [z7])).bind fun a9_grid => (WP.pure (.nx a9_grid))) (fun r => (WP.pure (.rt r)))) xs5 a4_grid) (fun (z5 : (List (List Int))) => (WP.range1 (WP.b2 (WP.pure ()) (WP.pure (5 : Int)) m_take)).bind fun xs10 => WP.after (WP.loop (γ := (List Str)) (fun c10 (y10 : (List (List Int))) => (WP.b2 (WP.pure ()) (WP.pure a_rows) m_take).bind fun a11_r => (WP.b2 (WP.pure ()) (WP.pure a_columns) m_take).bind fun a12_c => (WP.gset y10 (WP.add (WP.pure a2_base) (WP.b2 (WP.pure ()) (WP.pure a1_span) m_take)) (WP.pure a11_r) (WP.pure a12_c)).bind fun a13_grid => (WP.pure (.nx a13_grid))) xs10 z5) (fun (z10 : (List (List Int))) => ((WP.lc (WP.pure z10) (fun c1 => (WP.pure true)) (fun c1 => (WP.join (WP.pure (Str.ofString "")) (WP.lc (WP.pure c1) (fun c2 => (WP.pure true)) (fun c2 => (WP.str' (WP.pure c2))))))).bind fun xs => WP.pure (α := List _) xs).bind fun r14 => (WP.pure r14)) (fun r => (WP.pure r))) (fun r => (WP.pure r))
def law_sizesM (_ : Unit) (a_most : Int) : WP Sq := (WP.add (WP.pure (1 : Int)) (WP.b2 (WP.pure ()) (WP.pure a_most) m_take)).bind fun a1_rows => (WP.add (WP.pure (1 : Int)) (WP.b2 (WP.pure ()) (WP.pure a_most) m_take)).bind fun a2_columns => (WP.b2 (WP.pure ()) (WP.pure (16 : Int)) m_take).bind fun a3_kind => ((WP.eq (WP.pure a3_kind) (WP.pure (1 : Int))).bind fun b => WP.cond b ((WP.add (WP.pure (1 : Int)) (WP.b2 (WP.pure ()) (WP.mul (WP.pure (2 : Int)) (WP.pure a_most)) m_take)).bind fun a12_rows => (WP.add (WP.pure (1 : Int)) (WP.b2 (WP.pure ()) (WP.mul (WP.pure (2 : Int)) (WP.pure a_most)) m_take)).bind fun a13_columns => (WP.pure (a12_rows, a13_columns))) ((WP.pure (a1_rows, a2_columns)))).bind fun (y4 : Int × Int) => ((WP.eq (WP.pure a3_kind) (WP.pure (2 : Int))).bind fun b => WP.cond b ((WP.add (WP.pure (1 : Int)) (WP.b2 (WP.pure ()) (WP.pure (40 : Int)) m_take)).bind fun a10_rows => (WP.add (WP.pure (1 : Int)) (WP.b2 (WP.pure ()) (WP.pure (2 : Int)) m_take)).bind fun a11_columns => (WP.pure (a10_rows, a11_columns))) ((WP.pure (y4.1, y4.2)))).bind fun (y5 : Int × Int) => ((WP.eq (WP.pure a3_kind) (WP.pure (3 : Int))).bind fun b => WP.cond b ((WP.add (WP.pure (1 : Int)) (WP.b2 (WP.pure ()) (WP.pure (2 : Int)) m_take)).bind fun a8_rows => (WP.add (WP.pure (1 : Int)) (WP.b2 (WP.pure ()) (WP.pure (40 : Int)) m_take)).bind fun a9_columns => (WP.pure (a8_rows, a9_columns))) ((WP.pure (y5.1, y5.2)))).bind fun (y6 : Int × Int) => (WP.pair (WP.pure y6.1) (WP.pure y6.2)).bind fun r7 => (WP.pure r7)
theorem Draws.comp {α β : Type} {f : α → WP β} {k : Nat} {P : β → Prop} : ∀ {xs : List α}, (∀ x ∈ xs, Draws (f x) k P) → Draws (WP.comp (fun _ => WP.pure true) f xs) (xs.length * k) (fun ys => ys.length = xs.length ∧ ∀ y ∈ ys, P y)
  | [], _ => fun n Q _ q => q n [] (Nat.le_refl _) (by omega) ⟨rfl, fun _ h => by cases h⟩
  | x :: xs, h => fun n Q hn q => by
    have e : (x :: xs).length * k = xs.length * k + k := by rw [List.length_cons, Nat.succ_mul]
    refine h x List.mem_cons_self n _ (by omega) fun m y h1 h2 hy => ?_
    refine Draws.comp (fun z m => h z (List.mem_cons_of_mem _ m)) m _ (by omega) fun m' ys h3 h4 ⟨hl, hys⟩ => ?_
    refine q m' (y :: ys) (by omega) (by omega) ⟨by rw [List.length_cons, List.length_cons, hl], fun z hz => ?_⟩
    rcases List.mem_cons.mp hz with e | hz
    · rw [e]; exact hy
    · exact hys z hz
theorem Draws.lcM {α β : Type} {w : WP (List α)} {xs : List α} {f : α → WP β} {k : Nat} {P : β → Prop} (hw : Is w xs) (hl : xs.length ≤ 100000) (h : ∀ x ∈ xs, Draws (f x) k P) : Draws (WP.lc w (fun _ => WP.pure true) f) (xs.length * k) (fun ys => ys.length = xs.length ∧ ∀ y ∈ ys, P y) := fun n Q hn q =>
  hw n _ ⟨hl, Draws.comp h n Q hn q⟩
theorem draw_pick {row : List Sq} (h : 0 < row.length) (hl : row.length ≤ 100000) : Draws (law_pickM () row) 2 (· ∈ row) := by
  intro n Q hn q
  unfold law_pickM
  (simp only [WP.run_bind, WP.run_pure, WP.run_req, WP.run_any, WP.run_take, WP.run_cond, WP.run_range1, WP.run_range2, decide_eq_true_eq, decide_eq_false_iff_not, Bool.not_eq_true', Bool.not_eq_false'])
  refine ⟨by omega, by decide, fun x h1 h2 => ⟨.inl ⟨by omega, by omega⟩, by omega, by decide, fun y h3 h4 => ⟨by omega, ?_, ?_⟩⟩⟩
  · have := Int.emod_nonneg (x * 1009 + y) (show ((row.length : Nat) : Int) ≠ 0 by omega)
    have := Int.emod_lt_of_pos (x * 1009 + y) (show 0 < ((row.length : Nat) : Int) by omega)
    exact ⟨by omega, by omega⟩
  · have g1 := Int.emod_nonneg (x * 1009 + y) (show ((row.length : Nat) : Int) ≠ 0 by omega)
    have g2 := Int.emod_lt_of_pos (x * 1009 + y) (show 0 < ((row.length : Nat) : Int) by omega)
    exact q _ _ (by omega) (by omega) (ixD_mem g1 g2)
theorem draw_height {style span r c rows columns : Int} (hs : 2 ≤ span) (hs2 : span ≤ 10) (hr : 0 ≤ r) (hr2 : r < rows) (hc : 0 ≤ c) (hc2 : c < columns) (hC : columns ≤ 40) : Draws (law_heightM () style span r c rows columns) 1 (fun v => 0 ≤ v ∧ v ≤ span - 1) := by
  intro n Q hn q
  unfold law_heightM
  (simp only [WP.run_bind, WP.run_pure, WP.run_req, WP.run_any, WP.run_take, WP.run_cond, WP.run_range1, WP.run_range2, decide_eq_true_eq, decide_eq_false_iff_not, Bool.not_eq_true', Bool.not_eq_false'])
  refine ⟨by omega, by omega, fun x h1 h2 => ?_⟩
  have h3 : ∀ v : Int, 0 ≤ v → v ≤ span - 1 → Q (n + 1) v := fun v a b => q _ _ (by omega) (by omega) ⟨a, b⟩
  have e1 := Int.emod_nonneg (r / 2 + c / 2 * 2) (show span ≠ 0 by omega)
  have e2 := Int.emod_lt_of_pos (r / 2 + c / 2 * 2) (show 0 < span by omega)
  have e3 : ([0, columns - 1] : List Int).length = 2 := rfl
  repeat' (first | apply And.intro | intro _)
  all_goals first
    | omega
    | contradiction
    | exact .inl ⟨by omega, by omega⟩
    | (refine h3 _ ?_ ?_ <;> (try split) <;> omega)
/-- what a grid of numbers is -/
structure NGrid (G : List (List Int)) (k m : Nat) : Prop where
  len : G.length = k
  row : ∀ r ∈ G, r.length = m ∧ ∀ d ∈ r, 0 ≤ d ∧ d ≤ 9
def rowT (r : List Int) : Str := mkS (r.map fun d => 48 + d.toNat)
theorem rowT_is {r : List Int} (h : ∀ d ∈ r, 0 ≤ d ∧ d ≤ 9) (hl : r.length ≤ 100000) : Is (WP.join (WP.pure (Str.ofString "")) (WP.lc (WP.pure r) (fun c2 => (WP.pure true)) (fun c2 => (WP.str' (WP.pure c2))))) (rowT r) := by
  refine join1_is (h := ?_) (by rw [List.length_map]; exact hl)
  refine (Is.lcM (g := fun d => (toString d : Str)) Is.pure hl fun d hd => Is.pure.bind (Is.req ?_)).eq ?_
  · have := h d hd
    have e : d.natAbs < 10 := by omega
    by_cases z : d.natAbs = 0
    · rw [z]; decide
    · have : d.natAbs.log2 < 4 := (Nat.log2_lt z).mpr (by omega)
      omega
  · rw [List.map_map]
    exact List.map_congr_left fun d hd => dig_str (h d hd).1 (h d hd).2
theorem rel_of {G : List (List Int)} {k m : Nat} (g : NGrid G k m) (hk : 0 < k) (hk2 : k ≤ 300) (hm : 0 < m) (hm2 : m ≤ 300) : Rel (G.map rowT) ∧ (G.map rowT).length = k ∧ wid (G.map rowT) = m := by
  have hw : ∀ s ∈ G.map rowT, s.length = m := fun s hs => by
    obtain ⟨r, hr, rfl⟩ := List.mem_map.mp hs
    unfold rowT
    rw [mkS_len, List.length_map]
    exact (g.row r hr).1
  have hl : (G.map rowT).length = k := by rw [List.length_map]; exact g.len
  have hwid : wid (G.map rowT) = m := hw _ (ixD_mem (by omega) (by omega))
  refine ⟨⟨⟨by omega, by omega, fun s hs => by rw [hwid]; exact hw s hs, by omega, by omega⟩, fun s hs c hc => ?_⟩, hl, hwid⟩
  obtain ⟨r, hr, rfl⟩ := List.mem_map.mp hs
  unfold rowT at hc
  rw [tl_mkS] at hc
  obtain ⟨d, hd, rfl⟩ := List.mem_map.mp hc
  have := (g.row r hr).2 d hd
  omega
theorem setL_mem {α : Type} {xs : List α} {r : Int} {v x : α} (h : x ∈ setL xs r v) : x ∈ xs ∨ x = v := by
  unfold setL at h
  split at h
  · exact (List.mem_or_eq_of_mem_set h)
  · exact .inl h
theorem setL_len {α : Type} (xs : List α) (r : Int) (v : α) : (setL xs r v).length = xs.length := by
  unfold setL
  split
  · rw [List.length_set]
  · rfl
theorem NGrid.set {G : List (List Int)} {k m : Nat} (g : NGrid G k m) {r c v : Int} (hr : 0 ≤ r) (hr2 : r < k) (h0 : 0 ≤ v) (h9 : v ≤ 9) : NGrid (setG G r c v) k m := by
  unfold setG
  refine ⟨by rw [setL_len]; exact g.len, fun x hx => ?_⟩
  rcases setL_mem hx with hx | rfl
  · exact g.row x hx
  · have hm := ixD_mem (xs := G) hr (by rw [g.len]; exact hr2)
    refine ⟨by rw [setL_len]; exact (g.row _ hm).1, fun d hd => ?_⟩
    rcases setL_mem hd with hd | rfl
    · exact (g.row _ hm).2 d hd
    · exact ⟨h0, h9⟩
theorem Draws.loop {s α γ ρ : Type} {body : α → s → WP (Ctl s γ)} {xs : List α} {x : s} {f : s → WP ρ} {r : γ → WP ρ} (I : Nat → s → Prop) (k : Nat) {k' : Nat} {P : ρ → Prop} (h0 : I 0 x) (hs : ∀ i a y, xs[i]? = some a → I i y → Draws (body a y) k fun c => ∃ z, c = .nx z ∧ I (i + 1) z) (hd : ∀ y, I xs.length y → Draws (f y) k' P) : Draws (WP.after (WP.loop body xs x) f r) (xs.length * k + k') P := by
  intro n Q hn q
  refine WP.after_inv (fun i m y => i ≤ xs.length ∧ n ≤ m ∧ m ≤ n + i * k ∧ I i y) ⟨Nat.zero_le _, Nat.le_refl _, by omega, h0⟩ (fun i m a y ha hi => ?_) (fun m y hy => ?_)
  · obtain ⟨_, h1, h2, h3⟩ := hi
    have hil : i < xs.length := (List.getElem?_eq_some_iff.mp ha).1
    have := Nat.mul_le_mul_right k (show i + 1 ≤ xs.length from hil)
    have e : (i + 1) * k = i * k + k := Nat.succ_mul i k
    refine hs i a y ha h3 m _ (by omega) fun m' c g1 g2 ⟨z, hz, hI⟩ => ?_
    subst hz
    exact ⟨hil, by omega, by omega, hI⟩
  · obtain ⟨_, h1, h2, h3⟩ := hy
    exact hd y h3 m Q (by omega) fun m' b g1 g2 hb => q m' b (by omega) (by omega) hb
theorem draw_relief {rows columns : Int} (hr : 1 ≤ rows) (hr2 : rows ≤ 40) (hc : 1 ≤ columns) (hc2 : columns ≤ 40) : Draws (law_reliefM () rows columns) 2000 (fun rel => Rel rel ∧ (rel.length : Int) = rows ∧ (wid rel : Int) = columns) := by
  intro n Q hn q
  unfold law_reliefM
  (simp only [WP.run_bind, WP.run_pure, WP.run_req, WP.run_any, WP.run_take, WP.run_cond, WP.run_range1, WP.run_range2, decide_eq_true_eq, decide_eq_false_iff_not, Bool.not_eq_true', Bool.not_eq_false'])
  refine ⟨by simp, by omega, by decide, fun sp s1 s2 => ?_⟩
  have hsp : 2 ≤ ixD ([2, 3, 5, 10] : List Int) sp ∧ ixD ([2, 3, 5, 10] : List Int) sp ≤ 10 := by
    have : sp = 0 ∨ sp = 1 ∨ sp = 2 ∨ sp = 3 := by omega
    rcases this with rfl | rfl | rfl | rfl <;> decide
  have e3 : ([2, 3, 5, 10] : List Int).length = 4 := rfl
  generalize hS : (ixD ([2, 3, 5, 10] : List Int) sp : Int) = S at hsp
  refine ⟨⟨by omega, by omega⟩, by omega, by omega, fun base b1 b2 => ⟨by omega, by decide, fun style t1 t2 => ⟨by simp, ⟨by omega, by omega⟩, ?_⟩⟩⟩
  refine WP.after_inv (fun i m y => n ≤ m ∧ m ≤ n + 3 + i * columns.toNat ∧ i ≤ rows.toNat ∧ NGrid y i columns.toNat) ⟨by omega, by omega, by omega, rfl, fun _ h => by cases h⟩ (fun i m a y ha hi => ?_) (fun m y hy => ?_)
  · obtain ⟨hm1, hm2, hi1, hg⟩ := hi
    obtain ⟨rfl, hi2⟩ := rangeL0_get ha
    have hin : i * columns.toNat ≤ 40 * 40 := Nat.mul_le_mul (by omega) (by omega)
    have es : (i + 1) * columns.toNat = i * columns.toNat + columns.toNat := Nat.succ_mul _ _
    (simp only [WP.run_bind, WP.run_pure, WP.run_req, WP.run_any, WP.run_take, WP.run_cond, WP.run_range1, WP.run_range2, decide_eq_true_eq, decide_eq_false_iff_not, Bool.not_eq_true', Bool.not_eq_false'])
    refine ⟨by simp, ⟨by omega, by omega⟩, ?_⟩
    refine WP.after_inv (fun j m' y => n ≤ m' ∧ m' ≤ n + 3 + i * columns.toNat + j ∧ y.length = j ∧ ∀ d ∈ y, 0 ≤ d ∧ d ≤ 9) ⟨hm1, hm2, rfl, fun _ h => by cases h⟩ (fun j m b y hb hj => ?_) (fun m y hy => ?_)
    · obtain ⟨hj0, hj, hj1, hj2⟩ := hj
      obtain ⟨rfl, hj3⟩ := rangeL0_get hb
      refine draw_height (by omega) (by omega) (by omega) hi2 (by omega) hj3 hc2 _ _ (by omega) fun m' v g1 g2 hv => ?_
      refine ⟨by omega, by omega, by omega, by rw [List.length_append, hj1]; rfl, fun d hd => ?_⟩
      rcases List.mem_append.mp hd with hd | hd
      · exact hj2 d hd
      · have : d = base + v := by simpa using hd
        omega
    · obtain ⟨hj0, hj, hj1, hj2⟩ := hy
      rw [rangeL0_len] at hj hj1
      refine ⟨by have := hg.len; omega, by omega, by omega, by omega, by rw [List.length_append, hg.len]; rfl, fun r hr => ?_⟩
      rcases List.mem_append.mp hr with hr | hr
      · exact hg.row r hr
      · have : r = y := by simpa using hr
        subst this
        exact ⟨hj1, hj2⟩
  · obtain ⟨hm1, hm2, hi1, hg⟩ := hy
    rw [rangeL0_len] at hm2 hg
    have hin : rows.toNat * columns.toNat ≤ 40 * 40 := Nat.mul_le_mul (by omega) (by omega)
    (simp only [WP.run_bind, WP.run_pure, WP.run_req, WP.run_any, WP.run_take, WP.run_cond, WP.run_range1, WP.run_range2, decide_eq_true_eq, decide_eq_false_iff_not, Bool.not_eq_true', Bool.not_eq_false'])
    refine ⟨by omega, by decide, fun u u1 u2 => ⟨⟨by omega, by omega⟩, ?_⟩⟩
    refine WP.after_inv (fun j m' y => n ≤ m' ∧ m' ≤ n + 1650 + 3 * j ∧ NGrid y rows.toNat columns.toNat) ⟨by omega, by omega, hg⟩ (fun j m b y hb hj => ?_) (fun m y hy => ?_)
    · obtain ⟨hj0, hj, hg'⟩ := hj
      obtain ⟨rfl, hj3⟩ := rangeL0_get hb
      (simp only [WP.run_bind, WP.run_pure, WP.run_req, WP.run_any, WP.run_take, WP.run_cond, WP.run_range1, WP.run_range2, decide_eq_true_eq, decide_eq_false_iff_not, Bool.not_eq_true', Bool.not_eq_false'])
      refine ⟨by omega, by omega, fun r r1 r2 => ⟨by omega, by omega, fun c c1 c2 => ⟨by omega, by omega, fun v v1 v2 => ?_⟩⟩⟩
      have hl := hg'.len
      have hrow := (hg'.row _ (ixD_mem r1 (by omega))).1
      refine ⟨⟨by omega, by omega⟩, ⟨by omega, by omega⟩, by omega, by omega, hg'.set r1 (by omega) (by omega) (by omega)⟩
    · obtain ⟨hj0, hj, hg'⟩ := hy
      rw [rangeL0_len] at hj
      refine Is.lcM (g := rowT) Is.pure (by have := hg'.len; omega) (fun r hr => rowT_is (hg'.row r hr).2 (by have := (hg'.row r hr).1; omega)) _ _ ?_
      obtain ⟨h1, h2, h3⟩ := rel_of hg' (by omega) (by omega) (by omega) (by omega)
      exact q _ _ (by omega) (by omega) ⟨h1, by omega, by omega⟩
theorem draw_sizes {most : Int} (h : 1 ≤ most) (h2 : most ≤ 20) : Draws (law_sizesM () most) 20 (fun q => 1 ≤ q.1 ∧ q.1 ≤ 40 ∧ 1 ≤ q.2 ∧ q.2 ≤ 40) := by
  intro n Q hn q
  unfold law_sizesM
  (simp only [WP.run_bind, WP.run_pure, WP.run_req, WP.run_any, WP.run_take, WP.run_cond, WP.run_range1, WP.run_range2, decide_eq_true_eq, decide_eq_false_iff_not, Bool.not_eq_true', Bool.not_eq_false'])
  have h3 : ∀ (m : Nat) (a b : Int), n ≤ m → m ≤ n + 20 → 1 ≤ a → a ≤ 40 → 1 ≤ b → b ≤ 40 → Q m (a, b) := fun m a b g1 g2 a1 a2 b1 b2 => q m _ g1 g2 ⟨a1, a2, b1, b2⟩
  repeat' (first | apply And.intro | intro _)
  all_goals first
    | omega
    | exact .inl ⟨by omega, by omega⟩
    | (apply h3 <;> omega)
end Y

/-! plain facts: loops that look at all, comprehensions of two clauses, more of the charts -/
namespace Y
open PySem L2
section
variable {α β γ ρ : Type}
theorem Is.loopAll {body : α → Unit → WP (Ctl Unit γ)} {xs : List α} {p : α → Bool} {no : γ} (h : ∀ x ∈ xs, Is (body x ()) (if p x then .nx () else .rt no)) : Is (WP.loop body xs ()) (if xs.all p then .nx () else .rt no) := by
  induction xs with
  | nil => exact Is.pure
  | cons x xs ih =>
    have ih := ih fun y m => h y (List.mem_cons_of_mem _ m)
    refine (h x List.mem_cons_self).bind ?_
    rw [List.all_cons]
    cases e : p x with
    | true => exact ih
    | false => exact Is.pure
theorem Is.afterAll {w : WP (Ctl Unit γ)} {b : Bool} {no : γ} {f : Unit → WP ρ} {r : γ → WP ρ} {z : ρ} (h : Is w (if b then .nx () else .rt no)) (h1 : b = true → Is (f ()) z) (h2 : b = false → Is (r no) z) : Is (WP.after w f r) z := by
  refine h.bind ?_
  cases b with
  | true => exact h1 rfl
  | false => exact h2 rfl
theorem Is.ne {α : Type} [DecidableEq α] {a b : WP α} {x y : α} (h : Is a x) (h' : Is b y) : Is (WP.ne a b) (!decide (x = y)) := h.bind (h'.bind Is.pure)
theorem Is.eqv {α : Type} [DecidableEq α] {a b : WP α} {x y : α} (h : Is a x) (h' : Is b y) : Is (WP.eq a b) (decide (x = y)) := h.bind (h'.bind Is.pure)
theorem Is.lenS {w : WP Str} {z : Str} (h : Is w z) (hz : z.length ≤ 100000) : Is (WP.lenS w) ((z.length : Nat) : Int) := h.bind (Is.req hz)
theorem Is.ix [Inhabited α] {w : WP (List α)} {k : WP Int} {xs : List α} {i : Int} (h : Is w xs) (h' : Is k i) (ho : okI xs.length i) : Is (WP.ix w k) (ixD xs i) := h.bind (h'.bind (Is.req ho))
/-- if no: return, else go on -/
theorem Is.guard {s : Type} {t : WP Bool} {b : Bool} {no : γ} {w : WP (Ctl s γ)} {x : Ctl s γ} (h : Is t (!b)) (h1 : b = true → Is w x) : Is (t.bind fun b => WP.cond b ((WP.pure no).bind fun r => WP.pure (.rt r)) w) (if b then x else .rt no) := h.bind (by
  cases b with
  | true => exact h1 rfl
  | false => exact Is.pure)
end
theorem one_eq {c d : Nat} : ((⟨#[c]⟩ : Str) = ⟨#[d]⟩) ↔ c = d := by
  constructor
  · intro h
    injection h with h
    have := congrArg Array.toList h
    simpa using this
  · intro h; rw [h]
theorem x_str : ("x" : Str) = ⟨#[120]⟩ := by decide +kernel
end Y

/-! plain facts: parts of texts and rows -/
namespace Y
open PySem L2
end Y

/-! == of data is equality -/
namespace Y
open PySem L2
open Dat (dat)
class EqD (α : Type) [PyI α] [Dat α] where
  ok : α → Prop
  dep : Nat
  lay : ∀ a : α, ok a → PyData.canLay0 (dat a) = true
  depth : ∀ a : α, PyData.depth (dat a) ≤ dep
  eqv : ∀ a b : α, PyData.eqv (dat a) (dat b) = true ↔ a = b
instance : EqD Int := ⟨fun _ => True, 0, fun _ _ => by simp only [dat, PyData.canLay0], fun _ => by simp only [dat, PyData.depth]; exact Nat.le_refl _, fun a b => by simp only [dat, PyData.eqv]; exact beq_iff_eq⟩
instance : EqD Bool := ⟨fun _ => True, 0, fun _ _ => by simp only [dat, PyData.canLay0], fun _ => by simp only [dat, PyData.depth]; exact Nat.le_refl _, fun a b => by simp only [dat, PyData.eqv]; exact beq_iff_eq⟩
theorem str_beq {a b : Str} : (a == b) = true ↔ a = b := by
  first
    | exact beq_iff_eq
    | simp
instance : EqD Str := ⟨fun s => PyData.canLay0 (.str s) = true, 0, fun _ h => h, fun _ => by simp only [dat, PyData.depth]; exact Nat.le_refl _, fun a b => by simp only [dat, PyData.eqv]; exact str_beq⟩
section
variable {α β : Type} [PyI α] [PyI β] [Dat α] [Dat β] [EqD α] [EqD β]
instance : EqD (α × β) := ⟨fun c => EqD.ok c.1 ∧ EqD.ok c.2, max (EqD.dep α) (EqD.dep β) + 1, fun c h => by
  simp only [dat, PyData.canLay0, PyData.canLayAll0, Bool.and_true]
  rw [Bool.and_eq_true]
  exact ⟨EqD.lay _ h.1, EqD.lay _ h.2⟩, fun c => by
  have h1 := EqD.depth c.1
  have h2 := EqD.depth c.2
  simp only [dat, PyData.depth, PyData.depthAll] at h1 h2 ⊢
  omega, fun a b => by
  have h1 := EqD.eqv a.1 b.1
  have h2 := EqD.eqv a.2 b.2
  obtain ⟨a1, a2⟩ := a
  obtain ⟨b1, b2⟩ := b
  simp only [dat, PyData.eqv, PyData.eqvAll, Bool.and_true] at h1 h2 ⊢
  rw [Bool.and_eq_true, h1, h2, Prod.mk.injEq]⟩
theorem lay_all {xs : List α} (h : ∀ a ∈ xs, EqD.ok a) : PyData.canLayAll0 (xs.map dat) = true := by
  induction xs with
  | nil => simp only [List.map_nil, PyData.canLayAll0]
  | cons x xs ih =>
    simp only [List.map_cons, PyData.canLayAll0]
    rw [Bool.and_eq_true]
    exact ⟨EqD.lay x (h x List.mem_cons_self), ih fun a m => h a (List.mem_cons_of_mem _ m)⟩
theorem depth_all (xs : List α) : PyData.depthAll (xs.map dat) ≤ EqD.dep α := by
  induction xs with
  | nil => simp only [List.map_nil, PyData.depthAll]; exact Nat.zero_le _
  | cons x xs ih =>
    have := EqD.depth x
    simp only [List.map_cons, PyData.depthAll]
    omega
theorem eqv_all : ∀ xs ys : List α, PyData.eqvAll (xs.map dat) (ys.map dat) = true ↔ xs = ys
  | [], [] => by simp [PyData.eqvAll]
  | [], _ :: _ => by simp [PyData.eqvAll]
  | _ :: _, [] => by simp [PyData.eqvAll]
  | x :: xs, y :: ys => by
    simp only [List.map_cons, PyData.eqvAll]
    rw [Bool.and_eq_true, EqD.eqv, eqv_all xs ys, List.cons.injEq]
instance : EqD (List α) := ⟨fun xs => ∀ a ∈ xs, EqD.ok a, EqD.dep α + 1, fun xs h => by
  simp only [dat, PyData.canLay0]
  exact lay_all h, fun xs => by
  have := depth_all xs
  simp only [dat, PyData.depth] at this ⊢
  omega, fun a b => by
  have := eqv_all a b
  simp only [dat, PyData.eqv] at this ⊢
  exact this⟩
instance : EqD (Ls α) := ⟨fun xs => ∀ a ∈ xs.l, EqD.ok a, EqD.dep α + 1, fun xs h => by
  simp only [dat, PyData.canLay0]
  exact lay_all h, fun xs => by
  have := depth_all xs.l
  simp only [dat, PyData.depth] at this ⊢
  omega, fun a b => by
  have := eqv_all a.l b.l
  obtain ⟨a⟩ := a
  obtain ⟨b⟩ := b
  simp only [dat, PyData.eqv] at this ⊢
  rw [this, Ls.mk.injEq]⟩
theorem shaped_of {a : α} (h : EqD.ok a) (hd : EqD.dep α ≤ 64 := by decide) : SeqAt.shaped (dat a) = true := by
  show ((dat a).canLay0 && decide ((dat a).depth ≤ 64)) = true
  rw [Bool.and_eq_true]
  exact ⟨EqD.lay a h, decide_eq_true (Nat.le_trans (EqD.depth a) hd)⟩
theorem shaped_L {xs : List α} (h : ∀ a ∈ xs, EqD.ok a) (hd : EqD.dep α ≤ 63 := by decide) : SeqAt.shaped (.list (xs.map dat)) = true := by
  show (PyData.canLay0 (.list (xs.map dat)) && decide (PyData.depth (.list (xs.map dat)) ≤ 64)) = true
  rw [Bool.and_eq_true]
  have := depth_all xs
  exact ⟨by simp only [PyData.canLay0]; exact lay_all h, decide_eq_true (by simp only [PyData.depth]; omega)⟩
theorem eqv_dec [DecidableEq α] (a b : α) : PyData.eqv (dat a) (dat b) = decide (a = b) := by
  have := EqD.eqv a b
  by_cases h : a = b
  · rw [decide_eq_true h]; exact this.mpr h
  · rw [decide_eq_false h]
    cases e : PyData.eqv (dat a) (dat b) with
    | true => exact absurd (this.mp e) h
    | false => rfl
theorem eqv_decL [DecidableEq α] (a b : List α) : PyData.eqv (.list (a.map dat)) (.list (b.map dat)) = decide (a = b) := by
  have := eqv_all a b
  have e : PyData.eqv (.list (a.map dat)) (.list (b.map dat)) = PyData.eqvAll (a.map dat) (b.map dat) := by simp only [PyData.eqv]
  rw [e]
  by_cases h : a = b
  · rw [decide_eq_true h]; exact this.mpr h
  · rw [decide_eq_false h]
    cases e : PyData.eqvAll (a.map dat) (b.map dat) with
    | true => exact absurd (this.mp e) h
    | false => rfl
theorem Is.eqD [DecidableEq α] {a b : WP α} {x y : α} (ha : Is a x) (hb : Is b y) (hx : EqD.ok x) (hy : EqD.ok y) (hd : EqD.dep α ≤ 64 := by decide) : Is (WP.eqD a b) (decide (x = y)) := ha.bind (hb.bind ((Is.req ⟨shaped_of hx hd, shaped_of hy hd⟩).eq (eqv_dec x y)))
theorem Is.neD [DecidableEq α] {a b : WP α} {x y : α} (ha : Is a x) (hb : Is b y) (hx : EqD.ok x) (hy : EqD.ok y) (hd : EqD.dep α ≤ 64 := by decide) : Is (WP.neD a b) (!decide (x = y)) := ha.bind (hb.bind ((Is.req ⟨shaped_of hx hd, shaped_of hy hd⟩).eq (by rw [eqv_dec])))
theorem Is.eqLD [DecidableEq α] {a b : WP (List α)} {x y : List α} (ha : Is a x) (hb : Is b y) (hx : ∀ z ∈ x, EqD.ok z) (hy : ∀ z ∈ y, EqD.ok z) (hd : EqD.dep α ≤ 63 := by decide) : Is (WP.eqLD a b) (decide (x = y)) := ha.bind (hb.bind ((Is.req ⟨shaped_L hx hd, shaped_L hy hd⟩).eq (eqv_decL x y)))
end
theorem ok_sq (q : Sq) : EqD.ok q := ⟨trivial, trivial⟩
end Y

/-! plain facts: drawn charts, squares set -/
namespace Y
open PySem L2
def law_inM (a_chart : (List Str)) (a_spot : Sq) : WP Bool := (WP.and (WP.chain (fun i j => decide (i ≤ j)) (fun i j => decide (i < j)) (WP.pure (0 : Int)) (WP.fst (WP.pure a_spot)) (WP.len (WP.pure a_chart))) (WP.chain (fun i j => decide (i ≤ j)) (fun i j => decide (i < j)) (WP.pure (0 : Int)) (WP.snd (WP.pure a_spot)) (WP.lenS (WP.ix (WP.pure a_chart) (WP.pure (0 : Int)))))).bind fun r1 => (WP.pure r1)
structure ChO (n m : Int) (ch : List Str) : Prop where
  good : Ch ch
  len : (ch.length : Int) = n
  wd : (wid ch : Int) = m
  sg : ∀ s ∈ ch, ∀ c ∈ s.cps.toList, c = 120 ∨ c = 46
/-- a grid of signs -/
structure SGrid (G : List (List Str)) (k m : Nat) : Prop where
  len : G.length = k
  row : ∀ r ∈ G, r.length = m ∧ ∀ d ∈ r, d = ⟨#[120]⟩ ∨ d = ⟨#[46]⟩
theorem SGrid.set {G : List (List Str)} {k m : Nat} (g : SGrid G k m) {r c : Int} {v : Str} (hr : 0 ≤ r) (hr2 : r < k) (hv : v = ⟨#[120]⟩ ∨ v = ⟨#[46]⟩) : SGrid (setG G r c v) k m := by
  unfold setG
  refine ⟨by rw [setL_len]; exact g.len, fun x hx => ?_⟩
  rcases setL_mem hx with hx | rfl
  · exact g.row x hx
  · have hm := ixD_mem (xs := G) hr (by rw [g.len]; exact hr2)
    refine ⟨by rw [setL_len]; exact (g.row _ hm).1, fun d hd => ?_⟩
    rcases setL_mem hd with hd | rfl
    · exact (g.row _ hm).2 d hd
    · exact hv
theorem Gives.bind {α β : Type} {w : WP α} {P : α → Prop} {f : α → WP β} {P' : β → Prop} (h : Gives w P) (h' : ∀ a, P a → Gives (f a) P') : Gives (w.bind f) P' := fun n Q q => h n _ fun a ha => h' a ha n Q q
theorem Gives.pure {α : Type} {a : α} {P : α → Prop} (h : P a) : Gives (WP.pure a) P := fun n Q q => q a h
theorem Is.gives {α : Type} {w : WP α} {a : α} {P : α → Prop} (h : Is w a) (hp : P a) : Gives w P := fun n Q q => h n Q (q a hp)
theorem Gives.draws {α : Type} {w : WP α} {P : α → Prop} {k : Nat} (h : Gives w P) : Draws w k P := fun n Q _ q => h n Q fun a ha => q n a (Nat.le_refl _) (by omega) ha
theorem Gives.cond {α : Type} {b : Bool} {A B : WP α} {P : α → Prop} (h : b = true → Gives A P) (k : b = false → Gives B P) : Gives (WP.cond b A B) P := by
  cases b with
  | true => exact h rfl
  | false => exact k rfl
theorem Draws.cond {α : Type} {b : Bool} {A B : WP α} {k : Nat} {P : α → Prop} (h : b = true → Draws A k P) (h' : b = false → Draws B k P) : Draws (WP.cond b A B) k P := by
  cases b with
  | true => exact h rfl
  | false => exact h' rfl
abbrev tt {α : Type} : α → Prop := fun _ => True
/-! squares drawn and set -/
theorem law_in_is {ch : List Str} (c : Ch ch) (q : Sq) : Is (law_inM ch q) (isSq ch q) :=
  Is.ret (Is.and (Is.chain Is.pure (Is.pure.bind Is.pure) fun _ => Is.len Is.pure) fun _ => Is.chain Is.pure (Is.pure.bind Is.pure) fun _ => Is.wid0 c)
def setCh (ch : List Str) (q : Sq) (k : Nat) : List Str := ch.set q.1.toNat (mkS ((ixD ch q.1).cps.toList.set q.2.toNat k))
theorem ixD_set {α : Type} [Inhabited α] {xs : List α} {n : Nat} {a : α} {i : Int} (h0 : 0 ≤ i) (h : i < xs.length) : ixD (xs.set n a) i = if n = i.toNat then a else ixD xs i := by
  obtain ⟨h1, e1⟩ := ixD_get h0 h
  obtain ⟨h2, e2⟩ := ixD_get (xs := xs.set n a) h0 (by rw [List.length_set]; exact h)
  rw [e1, e2, List.getElem_set]
section
variable {ch : List Str} {q : Sq} (c : Ch ch) (h : isSq ch q = true) (k : Nat)
include c h
theorem setCh_wid : wid (setCh ch q k) = wid ch := by
  unfold wid setCh
  rw [ixD_set (by omega) (by have := c.ne; omega)]
  split
  · rw [mkS_len, List.length_set, tl_len, c.len1 h]; rfl
  · rfl
theorem setCh_sq (p : Sq) : isSq (setCh ch q k) p = isSq ch p := by
  unfold isSq
  rw [setCh_wid c h k]
  unfold setCh
  rw [List.length_set]
theorem setCh_ch : Ch (setCh ch q k) := by
  have hl : (setCh ch q k).length = ch.length := by unfold setCh; rw [List.length_set]
  refine ⟨by rw [hl]; exact c.ne, by rw [hl]; exact c.hl, fun s hs => ?_, by rw [setCh_wid c h]; exact c.w0, by rw [setCh_wid c h]; exact c.wl⟩
  rw [setCh_wid c h]
  rcases List.mem_or_eq_of_mem_set hs with hs | hs
  · exact c.w s hs
  · rw [hs, mkS_len, List.length_set, tl_len, c.len1 h]
theorem setCh_ld (p : Sq) : isLd (setCh ch q k) p = if p = q then decide (k = 120) else isLd ch p := by
  have hh := isSq_iff.mp h
  unfold isLd
  rw [setCh_sq c h k]
  cases e : isSq ch p with
  | false =>
    rw [Bool.false_and]
    split
    · rename_i g; subst g; rw [e] at h; cases h
    · rfl
  | true =>
    have hp := isSq_iff.mp e
    rw [Bool.true_and, Bool.true_and]
    have e1 : ixD (setCh ch q k) p.1 = if q.1.toNat = p.1.toNat then mkS ((ixD ch q.1).cps.toList.set q.2.toNat k) else ixD ch p.1 := by
      unfold setCh
      exact ixD_set hp.1 hp.2.1
    rw [e1]
    by_cases g1 : q.1.toNat = p.1.toNat
    · rw [if_pos g1]
      have g1' : q.1 = p.1 := by omega
      have e2 : sgn (mkS ((ixD ch q.1).cps.toList.set q.2.toNat k)) p.2 = ⟨#[if q.2.toNat = p.2.toNat then k else ixD (ixD ch q.1).cps.toList p.2]⟩ := by
        unfold sgn
        rw [tl_mkS, ixD_set hp.2.2.1 (by rw [tl_len, c.len1 h]; exact hp.2.2.2)]
      rw [e2]
      by_cases g2 : q.2.toNat = p.2.toNat
      · have : p = q := by apply Prod.ext <;> omega
        rw [if_pos g2, if_pos this, x_str]
        simp only [one_eq]
      · have : p ≠ q := fun z => g2 (by rw [z])
        rw [if_neg g2, if_neg this, g1']
        rfl
    · have : p ≠ q := fun z => g1 (by rw [z])
      rw [if_neg g1, if_neg this]
end
end Y

/-! plain facts: papers of heights -/
namespace Y
open PySem L2
abbrev HP := List (Sq × Int)
def ht (p : HP) (q : Sq) : Int := (lookK p q).getD 0
structure OkP (p : HP) : Prop where
  nd : (p.map (·.1)).Nodup
  nn : ∀ x ∈ p, 0 ≤ x.2
def Shows (dom : Sq → Bool) (inc : Sq → Int) (a b : Sq) (n : Int) (p : HP) : Prop := OkP p ∧ n ≤ ht p a ∧ ht p b = 0 ∧ (∀ x ∈ p, dom x.1 = true) ∧ ∀ x ∈ p, ∀ o ∈ sides x.1, dom o = true → x.2 ≤ ht p o + inc o
theorem ht_mem {p : HP} (nd : (p.map (·.1)).Nodup) {q : Sq} {h : Int} (m : (q, h) ∈ p) : ht p q = h := by
  unfold ht
  rw [lookK_mem nd m]; rfl
theorem ht_none {p : HP} {q : Sq} (h : q ∉ p.map (·.1)) : ht p q = 0 := by
  unfold ht
  cases e : lookK p q with
  | none => rfl
  | some d => exact absurd (List.mem_map.mpr ⟨_, lookK_some e, rfl⟩) h
theorem ht_cases (p : HP) (q : Sq) : (q, ht p q) ∈ p ∨ (q ∉ p.map (·.1) ∧ ht p q = 0) := by
  cases e : lookK p q with
  | none => exact .inr ⟨lookK_none e, by unfold ht; rw [e]; rfl⟩
  | some d =>
    left
    have := lookK_some e
    unfold ht
    rw [e]; exact this
theorem OkP.nneg {p : HP} (h : OkP p) (q : Sq) : 0 ≤ ht p q := by
  rcases ht_cases p q with m | ⟨_, e⟩
  · exact h.nn _ m
  · rw [e]; exact Int.le_refl _
/-- heights of 0 left out -/
theorem nodup_filter {p : HP} (f : Sq × Int → Bool) (nd : (p.map (·.1)).Nodup) : ((p.filter f).map (·.1)).Nodup := nd.sublist (List.filter_sublist.map _)
theorem ht_pos {p : HP} (h : OkP p) (q : Sq) : ht (p.filter fun x => decide (0 < x.2)) q = ht p q := by
  rcases ht_cases p q with m | ⟨m, e⟩
  · by_cases z : 0 < ht p q
    · exact ht_mem (nodup_filter _ h.nd) (List.mem_filter.mpr ⟨m, decide_eq_true z⟩)
    · have h0 := h.nneg q
      rw [ht_none, show ht p q = 0 by omega]
      intro w
      obtain ⟨x, hx, e⟩ := List.mem_map.mp w
      obtain ⟨h1, h2⟩ := List.mem_filter.mp hx
      have h3 := of_decide_eq_true h2
      have : ht p q = x.2 := ht_mem h.nd (by rw [← e]; exact h1)
      omega
  · rw [e, ht_none]
    intro w
    obtain ⟨x, hx, e⟩ := List.mem_map.mp w
    exact m (List.mem_map.mpr ⟨x, (List.mem_filter.mp hx).1, e⟩)
theorem Shows.pos {dom : Sq → Bool} {inc : Sq → Int} {a b : Sq} {n : Int} {p : HP} (h : Shows dom inc a b n p) : Shows dom inc a b n (p.filter fun x => decide (0 < x.2)) := by
  obtain ⟨h1, h2, h3, h4, h5⟩ := h
  have hh := ht_pos h1
  exact ⟨⟨nodup_filter _ h1.nd, fun x m => h1.nn x (List.mem_filter.mp m).1⟩, by rw [hh]; exact h2, by rw [hh]; exact h3, fun x m => h4 x (List.mem_filter.mp m).1, fun x m o ho hd => by rw [hh]; exact h5 x (List.mem_filter.mp m).1 o ho hd⟩
theorem Shows.num {dom : Sq → Bool} {inc : Sq → Int} {a b : Sq} {n : Int} {p : HP} (h : Shows dom inc a b n p) {k : Int} : Shows dom inc a b k p ↔ k ≤ ht p a := ⟨fun z => z.2.1, fun z => ⟨h.1, z, h.2.2⟩⟩
/-- a square raised as far as it goes -/
def rest (p : HP) (s : Sq) : HP := p.filter fun x => !decide (x.1 = s)
theorem rest_keys {p : HP} {s : Sq} : s ∉ (rest p s).map (·.1) := by
  intro w
  obtain ⟨x, hx, e⟩ := List.mem_map.mp w
  have := (List.mem_filter.mp hx).2
  rw [e] at this
  simp at this
theorem raise_nd {p : HP} (nd : (p.map (·.1)).Nodup) {s : Sq} {v : Int} : ((rest p s ++ [(s, v)]).map (·.1)).Nodup := by
  rw [List.map_append, List.nodup_append]
  refine ⟨nodup_filter _ nd, by simp, fun x hx y hy z => ?_⟩
  have : y = s := by simpa using hy
  subst this
  exact rest_keys (z ▸ hx)
theorem ht_raise {p : HP} (nd : (p.map (·.1)).Nodup) {s : Sq} {v : Int} (q : Sq) : ht (rest p s ++ [(s, v)]) q = if q = s then v else ht p q := by
  have nd2 := raise_nd nd (s := s) (v := v)
  by_cases e : q = s
  · subst e
    rw [if_pos rfl]
    exact ht_mem nd2 (List.mem_append_right _ (by simp))
  · rw [if_neg e]
    rcases ht_cases p q with m | ⟨m, e2⟩
    · refine ht_mem nd2 (List.mem_append_left _ (List.mem_filter.mpr ⟨m, ?_⟩))
      rw [decide_eq_false e]; rfl
    · rw [e2, ht_none]
      intro w
      obtain ⟨x, hx, e3⟩ := List.mem_map.mp w
      rcases List.mem_append.mp hx with hx | hx
      · exact m (List.mem_map.mpr ⟨x, (List.mem_filter.mp hx).1, e3⟩)
      · have : x = (s, v) := by simpa using hx
        rw [this] at e3
        exact e e3.symm
theorem sides_ne {s o : Sq} (h : o ∈ sides s) : o ≠ s := by
  obtain ⟨a, b⟩ := s
  obtain ⟨c, d⟩ := o
  simp only [sides, List.mem_cons, Prod.mk.injEq, List.not_mem_nil, or_false] at h
  intro z
  injection z with z1 z2
  omega
theorem Shows.too {dom : Sq → Bool} {inc : Sq → Int} {a b s : Sq} {n v : Int} {p : HP} (nd : (p.map (·.1)).Nodup) (he : ∃ o ∈ sides s, dom o = true ∧ ht p o + inc o < v) : ¬ Shows dom inc a b n (rest p s ++ [(s, v)]) := fun ⟨_, _, _, _, h5⟩ => by
  obtain ⟨o, ho, hd, hlt⟩ := he
  have := h5 (s, v) (List.mem_append_right _ (by simp)) o ho hd
  rw [ht_raise nd, if_neg (sides_ne ho)] at this
  have : v ≤ ht p o + inc o := this
  omega
/-! ### the models -/
theorem take_snoc {α : Type} {xs : List α} {i : Nat} {a : α} (h : xs[i]? = some a) : xs.take (i + 1) = xs.take i ++ [a] := by
  rw [List.take_add_one, h]; rfl
end Y

/-! plain facts: charts whose signs are told, squares filled one after another -/
namespace Y
open PySem L2
structure GC (ch : List Str) : Prop where
  good : Ch ch
  sg : ∀ s ∈ ch, ∀ c ∈ s.cps.toList, c = 120 ∨ c = 46
theorem GC.of {n m : Int} {c : List Str} (h : ChO n m c) : GC c := ⟨h.good, h.sg⟩
theorem GC.ok {c : List Str} (h : GC c) : EqD.ok c := fun s hs => by
  show PyData.canLay0 (.str s) = true
  simp only [PyData.canLay0]
  unfold PyData.strOk
  rw [Array.all_eq_true_iff_forall_mem]
  intro x hx
  have := h.sg s hs x (by simpa using hx)
  rcases this with e | e <;> rw [e] <;> decide
/-- the same size -/
structure Sz (a b : List Str) : Prop where
  l : a.length = b.length
  w : wid a = wid b
theorem Sz.sq {a b : List Str} (h : Sz a b) (q : Sq) : isSq a q = isSq b q := by unfold isSq; rw [h.l, h.w]
theorem Sz.all {a b : List Str} (h : Sz a b) : allSq a = allSq b := by unfold allSq; rw [h.l, h.w]
theorem Sz.refl (a : List Str) : Sz a a := ⟨rfl, rfl⟩
theorem Sz.symm {a b : List Str} (h : Sz a b) : Sz b a := ⟨h.l.symm, h.w.symm⟩
theorem Sz.trans {a b c : List Str} (h : Sz a b) (h' : Sz b c) : Sz a c := ⟨h.l.trans h'.l, h.w.trans h'.w⟩
theorem sz_set {ch : List Str} {q : Sq} (c : Ch ch) (h : isSq ch q = true) (k : Nat) : Sz (setCh ch q k) ch := ⟨by unfold setCh; rw [List.length_set], setCh_wid c h k⟩
/-! ### squares that lie between -/
def btwB (ch : List Str) (q : Sq) : Bool := ((rangeL 0 q.2).any (fun c => isLd ch (q.1, c)) && (rangeL (q.2 + 1) (wid ch : Int)).any (fun c => isLd ch (q.1, c))) || ((rangeL 0 q.1).any (fun r => isLd ch (r, q.2)) && (rangeL (q.1 + 1) (ch.length : Int)).any (fun r => isLd ch (r, q.2)))
theorem Is.range2 {a b : WP Int} {x y : Int} (h : Is a x) (h' : Is b y) (hx : -1000 ≤ x) (hx' : x ≤ 1000) (hy : -1000 ≤ y) (hy' : y ≤ 1000) : Is (WP.range2 a b) (rangeL x y) := Is.b2 h h' (Is.req ⟨by omega, by omega, by omega, by omega⟩)
def Sub (a b : List Str) : Prop := ∀ q, isLd a q = true → isLd b q = true
theorem btw_mono {a b : List Str} (hs : Sz a b) (h : Sub a b) {q : Sq} (hb : btwB a q = true) : btwB b q = true := by
  unfold btwB at hb ⊢
  rw [← hs.l, ← hs.w]
  have mono : ∀ (xs : List Int) (f : Int → Sq), xs.any (fun c => isLd a (f c)) = true → xs.any (fun c => isLd b (f c)) = true := fun xs f hx => by
    rw [List.any_eq_true] at hx ⊢
    obtain ⟨x, h1, h2⟩ := hx
    exact ⟨x, h1, h _ h2⟩
  rw [Bool.or_eq_true, Bool.and_eq_true, Bool.and_eq_true] at hb ⊢
  rcases hb with ⟨h1, h2⟩ | ⟨h1, h2⟩
  · exact .inl ⟨mono _ (fun c => (q.1, c)) h1, mono _ (fun c => (q.1, c)) h2⟩
  · exact .inr ⟨mono _ (fun r => (r, q.2)) h1, mono _ (fun r => (r, q.2)) h2⟩
def opens (ch : List Str) : List Sq := (allSq ch).filter fun q => !isLd ch q && btwB ch q
theorem mem_opens {ch : List Str} {q : Sq} : q ∈ opens ch ↔ isSq ch q = true ∧ isLd ch q = false ∧ btwB ch q = true := by
  unfold opens
  rw [List.mem_filter, mem_allSq, Bool.and_eq_true, Bool.not_eq_true']
/-! ### one after another -/
def Val : List Str → List Sq → Prop
  | _, [] => True
  | ch, q :: qs => (isSq ch q = true ∧ isLd ch q = false ∧ btwB ch q = true) ∧ Val (setCh ch q 120) qs
def Fin' (ch : List Str) (qs : List Sq) : List Str := qs.foldl (fun c q => setCh c q 120) ch
/-- what is filled lies within every closed chart around -/
theorem within : ∀ {qs : List Sq} {ch D : List Str}, Ch ch → Sz ch D → Val ch qs → Sub ch D → opens D = [] → Sub (Fin' ch qs) D
  | [], _, _, _, _, _, h, _ => h
  | q :: qs, ch, D, c, z, ⟨hq, hv⟩, h, ho => by
    show Sub (Fin' (setCh ch q 120) qs) D
    refine within (setCh_ch c hq.1 120) ((sz_set c hq.1 120).trans z) hv (fun p hp => ?_) ho
    rw [setCh_ld c hq.1] at hp
    split at hp
    · rename_i e
      subst e
      cases e : isLd D p with
      | true => rfl
      | false =>
        have : p ∈ opens D := mem_opens.mpr ⟨by rw [← z.sq]; exact hq.1, e, btw_mono z h hq.2.2⟩
        rw [ho] at this
        cases this
    · exact h p hp
/-! grids of signs of a chart -/
end Y

/-! plain facts: squares of land soaked one after another -/
namespace Y
open PySem L2
def wets (ch : List Str) (q : Sq) : List Sq := (sides q).filter fun p => isSq ch p && !isLd ch p
/-! the wet rim -/
def rimOf (ch : List Str) (q : Sq) : Int := if isLd ch q then 0 else 4 - (((wets ch q).length : Nat) : Int)
def rim (ch : List Str) : Int := ((allSq ch).map (rimOf ch)).sum
end Y

/-! in for data; lengths of displays; chains -/
namespace Y
open PySem L2
open Dat (dat)
/-! lengths -/
def Le {α : Type} (n : Nat) (xs : List α) : Prop := xs.length ≤ n
theorem Gives.imp {α : Type} {w : WP α} {P P' : α → Prop} (h : Gives w P) (k : ∀ a, P a → P' a) : Gives w P' := fun n Q q => h n Q fun a ha => q a (k a ha)
theorem Gives.b2 {α β γ : Type} {a : WP α} {b : WP β} {f : α → β → WP γ} {P : α → Prop} {P' : β → Prop} {P2 : γ → Prop} (h : Gives a P) (h' : Gives b P') (k : ∀ x y, P x → P' y → Gives (f x y) P2) : Gives (WP.b2 a b f) P2 := h.bind fun x hx => h'.bind fun y hy => k x y hx hy
theorem Gives.req {α : Type} {p : Prop} {a : α} {P : α → Prop} (h : p) (k : P a) : Gives (WP.req p a) P := fun n Q q => ⟨h, q a k⟩
theorem Gives.cat {α : Type} {a b : WP (List α)} {n m : Nat} (h : Gives a (Le n)) (h' : Gives b (Le m)) (k : n + m ≤ 100000) : Gives (WP.cat a b) (Le (n + m)) :=
  Gives.b2 h h' fun xs ys hx hy => Gives.req (by unfold Le at hx hy; omega) (by unfold Le at *; rw [List.length_append]; omega)
theorem cutL_le {α : Type} (xs : List α) (a b : Option Int) : (cutL xs a b).length ≤ xs.length := by
  unfold cutL
  rw [List.length_take, List.length_drop]; omega
theorem Gives.cut {α : Type} {w : WP (List α)} {l h : WP (Option Int)} {n : Nat} (hw : Gives w (Le n)) (hl : Gives l tt) (hh : Gives h tt) : Gives (WP.cut w l h) (Le n) :=
  hw.bind fun xs hx => hl.bind fun _ _ => hh.bind fun _ _ => Gives.pure (Nat.le_trans (cutL_le _ _ _) hx)
theorem Gives.none {α : Type} : Gives (WP.pure (none : Option α)) tt := Gives.pure trivial
theorem Gives.some {w : WP Int} (h : Gives w tt) : Gives (w.bind fun x => WP.pure (some x)) tt := h.bind fun _ _ => Gives.pure trivial
theorem Gives.any {α : Type} {a : α} : Gives (WP.pure a) tt := Gives.pure trivial
theorem Gives.frz {α : Type} {w : WP (List α)} {n : Nat} (h : Gives w (Le n)) : Gives (w.bind fun xs => WP.pure (⟨xs⟩ : Ls α)) (fun x => Le n x.l) := h.bind fun _ hx => Gives.pure hx
/-- a display whose items all keep P -/
def All {α : Type} (P : α → Prop) (n : Nat) (xs : List α) : Prop := xs.length ≤ n ∧ ∀ x ∈ xs, P x
theorem Gives.nilE {α : Type} {P : α → Prop} : Gives (WP.pure ([] : List α)) (All P 0) := Gives.pure ⟨Nat.le_refl _, fun _ h => by cases h⟩
theorem Gives.consE {α : Type} {w : WP α} {ws : WP (List α)} {P : α → Prop} {n : Nat} (h : Gives w P) (h' : Gives ws (All P n)) : Gives (WP.consE w ws) (All P (n + 1)) :=
  Gives.b2 h h' fun x xs hx hs => Gives.pure ⟨by rw [List.length_cons]; have := hs.1; omega, fun y hy => by
    rcases List.mem_cons.mp hy with e | e
    · rw [e]; exact hx
    · exact hs.2 y e⟩
theorem Gives.row {α : Type} {ws : WP (List α)} {P : α → Prop} {n : Nat} (h : Gives ws (All P n)) (hn : n ≤ 100000) : Gives (WP.row ws) (All P n) := h.bind fun xs hx => Gives.req (by have := hx.1; omega) hx
theorem Gives.rowL {α : Type} {ws : WP (List α)} {P : α → Prop} {n : Nat} (h : Gives ws (All P n)) (hn : n ≤ 100000) : Gives (WP.row ws) (Le n) := (Gives.row h hn).imp fun _ h => h.1
theorem Gives.catA {α : Type} {a b : WP (List α)} {P : α → Prop} {n m : Nat} (h : Gives a (All P n)) (h' : Gives b (All P m)) (k : n + m ≤ 100000) : Gives (WP.cat a b) (All P (n + m)) :=
  Gives.b2 h h' fun xs ys hx hy => Gives.req (by have := hx.1; have := hy.1; omega) ⟨by have := hx.1; have := hy.1; rw [List.length_append]; omega, fun z hz => by
    rcases List.mem_append.mp hz with e | e
    · exact hx.2 z e
    · exact hy.2 z e⟩
theorem Gives.app {α : Type} {w : WP α} {y : List α} {P : α → Prop} {n : Nat} (h : Gives w P) (hy : All P n y) (hn : n < 100000) : Gives (w.bind fun a => WP.req (y.length < 100000) (y ++ [a])) (All P (n + 1)) := h.bind fun a ha => Gives.req (by have := hy.1; omega) ⟨by have := hy.1; rw [List.length_append, List.length_singleton]; omega, fun z hz => by
    rcases List.mem_append.mp hz with e | e
    · exact hy.2 z e
    · rw [List.mem_singleton.mp e]; exact ha⟩
theorem Gives.pair {α β : Type} {a : WP α} {b : WP β} {P : α → Prop} {P' : β → Prop} (h : Gives a P) (h' : Gives b P') : Gives (WP.pair a b) (fun c => P c.1 ∧ P' c.2) := Gives.b2 h h' fun x y hx hy => Gives.pure ⟨hx, hy⟩
theorem Gives.ix {α : Type} [Inhabited α] {xs : List α} {k : WP Int} {P : α → Prop} {i : Int} (h : Is k i) (ho : okI xs.length i) (hp : P (ixD xs i)) : Gives (WP.ix (WP.pure xs) k) P := (Is.pure.bind (h.bind (Is.req ho)) : Is (WP.ix (WP.pure xs) k) (ixD xs i)).gives hp
theorem Gives.lcM {α β : Type} {w : WP (List α)} {f : α → WP β} {P : β → Prop} {n : Nat} (hw : Gives w (Le n)) (hn : n ≤ 100000) (h : ∀ x, Gives (f x) P) : Gives (WP.lc w (fun _ => WP.pure true) f) (All P n) := by
  intro m Q q
  refine hw m _ fun xs hx => ?_
  unfold Le at hx
  have key : ∀ (ys : List α) (m : Nat) (Q : Nat → List β → Prop), (∀ zs, All P ys.length zs → Q m zs) → (WP.comp (fun _ => WP.pure true) f ys).run m Q := fun ys => by
    induction ys with
    | nil => intro m Q q; exact q [] ⟨Nat.le_refl _, fun _ h => by cases h⟩
    | cons y ys ih =>
      intro m Q q
      refine h y m _ fun z hz => ih m _ fun zs hzs => q _ ⟨by rw [List.length_cons, List.length_cons]; have := hzs.1; omega, fun t ht => ?_⟩
      rcases List.mem_cons.mp ht with e | e
      · rw [e]; exact hz
      · exact hzs.2 t e
  first
    | exact ⟨by omega, key xs m _ fun zs hzs => q zs ⟨by have := hzs.1; omega, hzs.2⟩⟩
    | exact key xs m _ fun zs hzs => q zs ⟨by have := hzs.1; omega, hzs.2⟩
/-! the same with draws -/
theorem Draws.any {α : Type} {a : α} : Draws (WP.pure a) 0 tt := Draws.pure trivial
theorem Draws.b2 {α β γ : Type} {a : WP α} {b : WP β} {f : α → β → WP γ} {P : α → Prop} {P' : β → Prop} {P2 : γ → Prop} {k k' k2 : Nat} (h : Draws a k P) (h' : Draws b k' P') (g : ∀ x y, P x → P' y → Draws (f x y) k2 P2) : Draws (WP.b2 a b f) (k + (k' + k2)) P2 := h.bind fun x hx => h'.bind fun y hy => g x y hx hy
theorem Draws.req {α : Type} {p : Prop} {a : α} {P : α → Prop} (h : p) (k : P a) : Draws (WP.req p a) 0 P := Gives.draws (Gives.req h k)
theorem Draws.cat {α : Type} {a b : WP (List α)} {n m k k' : Nat} (h : Draws a k (Le n)) (h' : Draws b k' (Le m)) (g : n + m ≤ 100000) : Draws (WP.cat a b) (k + (k' + 0)) (Le (n + m)) :=
  Draws.b2 h h' fun xs ys hx hy => Draws.req (by unfold Le at hx hy; omega) (by unfold Le at *; rw [List.length_append]; omega)
theorem Draws.cut {α : Type} {w : WP (List α)} {l h : WP (Option Int)} {n k : Nat} (hw : Draws w k (Le n)) (hl : Gives l tt) (hh : Gives h tt) : Draws (WP.cut w l h) (k + 0) (Le n) :=
  hw.bind fun xs hx => Gives.draws (hl.bind fun _ _ => hh.bind fun _ _ => Gives.pure (Nat.le_trans (cutL_le _ _ _) hx))
theorem Draws.frz {α : Type} {w : WP (List α)} {n k : Nat} (N : Nat) (h : Draws w k (Le n)) (hn : n ≤ N) : Draws (w.bind fun xs => WP.pure (⟨xs⟩ : Ls α)) (k + 0) (fun x => Le N x.l) := h.bind fun _ hx => Draws.pure (Nat.le_trans hx hn)
theorem Draws.nilE {α : Type} {P : α → Prop} : Draws (WP.pure ([] : List α)) 0 (All P 0) := Gives.draws Gives.nilE
theorem Draws.consE {α : Type} {w : WP α} {ws : WP (List α)} {P : α → Prop} {n k k' : Nat} (h : Draws w k P) (h' : Draws ws k' (All P n)) : Draws (WP.consE w ws) (k + (k' + 0)) (All P (n + 1)) :=
  Draws.b2 h h' fun x xs hx hs => Draws.pure ⟨by rw [List.length_cons]; have := hs.1; omega, fun y hy => by
    rcases List.mem_cons.mp hy with e | e
    · rw [e]; exact hx
    · exact hs.2 y e⟩
theorem Draws.row {α : Type} {ws : WP (List α)} {P : α → Prop} {n k : Nat} (h : Draws ws k (All P n)) (hn : n ≤ 100000) : Draws (WP.row ws) (k + 0) (All P n) := h.bind fun xs hx => Draws.req (by have := hx.1; omega) hx
theorem Draws.rowL {α : Type} {ws : WP (List α)} {n k : Nat} (h : Draws ws k (All tt n)) (hn : n ≤ 100000) : Draws (WP.row ws) (k + 0) (Le n) := h.bind fun xs hx => Draws.req (by have := hx.1; omega) hx.1
theorem Draws.catA {α : Type} {a b : WP (List α)} {P : α → Prop} {n m k k' : Nat} (h : Draws a k (All P n)) (h' : Draws b k' (All P m)) (g : n + m ≤ 100000) : Draws (WP.cat a b) (k + (k' + 0)) (All P (n + m)) :=
  Draws.b2 h h' fun xs ys hx hy => Draws.req (by have := hx.1; have := hy.1; omega) ⟨by have := hx.1; have := hy.1; rw [List.length_append]; omega, fun z hz => by
    rcases List.mem_append.mp hz with e | e
    · exact hx.2 z e
    · exact hy.2 z e⟩
theorem Draws.app {α : Type} {w : WP α} {y : List α} {P : α → Prop} {n k : Nat} (h : Draws w k P) (hy : All P n y) (hn : n < 100000) : Draws (w.bind fun a => WP.req (y.length < 100000) (y ++ [a])) (k + 0) (All P (n + 1)) := h.bind fun a ha => Draws.req (by have := hy.1; omega) ⟨by have := hy.1; rw [List.length_append, List.length_singleton]; omega, fun z hz => by
    rcases List.mem_append.mp hz with e | e
    · exact hy.2 z e
    · rw [List.mem_singleton.mp e]; exact ha⟩
/-! chains -/
def Chn {α : Type} (R : α → α → Prop) : List α → Prop
  | [] => True
  | [_] => True
  | a :: b :: l => R a b ∧ Chn R (b :: l)
theorem Chn.tail {α : Type} {R : α → α → Prop} : ∀ {a : α} {l : List α}, Chn R (a :: l) → Chn R l
  | _, [], _ => trivial
  | _, _ :: _, h => h.2
theorem Chn.app {α : Type} {R : α → α → Prop} : ∀ {xs ys : List α}, Chn R xs → Chn R ys → (∀ a b, xs.getLast? = some a → ys.head? = some b → R a b) → Chn R (xs ++ ys)
  | [], _, _, h, _ => h
  | [x], [], _, _, _ => trivial
  | [x], y :: ys, _, h, k => ⟨k x y rfl rfl, h⟩
  | x :: y :: l, ys, h, h', k => ⟨h.1, Chn.app (xs := y :: l) h.2 h' fun a b e e' => k a b (by rw [List.getLast?_cons_cons]; exact e) e'⟩
theorem Chn.left {α : Type} {R : α → α → Prop} : ∀ {xs ys : List α}, Chn R (xs ++ ys) → Chn R xs
  | [], _, _ => trivial
  | [_], _, _ => trivial
  | _ :: y :: l, ys, h => ⟨h.1, Chn.left (xs := y :: l) (ys := ys) h.2⟩
theorem Chn.right {α : Type} {R : α → α → Prop} : ∀ {xs ys : List α}, Chn R (xs ++ ys) → Chn R ys
  | [], _, h => h
  | _ :: l, ys, h => Chn.right (xs := l) (Chn.tail (l := l ++ ys) h)
theorem Chn.take {α : Type} {R : α → α → Prop} {xs : List α} (h : Chn R xs) (n : Nat) : Chn R (xs.take n) := Chn.left (ys := xs.drop n) (by rw [List.take_append_drop]; exact h)
theorem Chn.drop {α : Type} {R : α → α → Prop} {xs : List α} (h : Chn R xs) (n : Nat) : Chn R (xs.drop n) := Chn.right (xs := xs.take n) (by rw [List.take_append_drop]; exact h)
theorem Chn.map {α β : Type} {R : α → α → Prop} {R' : β → β → Prop} {f : α → β} (k : ∀ a b, R a b → R' (f a) (f b)) : ∀ {xs : List α}, Chn R xs → Chn R' (xs.map f)
  | [], _ => trivial
  | [_], _ => trivial
  | _ :: y :: l, h => ⟨k _ _ h.1, Chn.map k (xs := y :: l) h.2⟩
theorem Chn.get {α : Type} {R : α → α → Prop} : ∀ {xs : List α}, Chn R xs → ∀ {i : Nat} {a b : α}, xs[i]? = some a → xs[i + 1]? = some b → R a b
  | [], _, _, _, _, h, _ => by cases h
  | [_], _, 0, _, _, _, h => by cases h
  | [_], _, _ + 1, _, _, h, _ => by cases h
  | x :: y :: l, h, 0, _, _, e, e' => by cases e; cases e'; exact h.1
  | x :: y :: l, h, i + 1, _, _, e, e' => Chn.get (xs := y :: l) h.2 (i := i) e e'
theorem Chn.snoc {α : Type} {R : α → α → Prop} {xs : List α} {b : α} (h : Chn R xs) (k : ∀ a, xs.getLast? = some a → R a b) : Chn R (xs ++ [b]) := h.app trivial fun a c e e' => by cases e'; exact k a e
end Y

/-! sizes: what is drawn and built stays small; rules by the form of the code -/
namespace Y
open PySem L2
class Bdd (α : Type) where
  bd : Nat → α → Prop
  mono : ∀ {n m : Nat} {a : α}, n ≤ m → bd n a → bd m a
instance : Bdd Int := ⟨fun n i => -(n : Int) ≤ i ∧ i ≤ n, fun h q => ⟨by omega, by omega⟩⟩
instance : Bdd Bool := ⟨fun _ _ => True, fun _ q => q⟩
instance : Bdd Unit := ⟨fun _ _ => True, fun _ q => q⟩
instance : Bdd Str := ⟨fun n s => s.length ≤ n, fun h q => Nat.le_trans q h⟩
section
variable {α β γ δ ε s : Type} [Bdd α] [Bdd β] [Bdd γ] [Bdd δ] [Bdd ε] [Bdd s]
instance : Bdd (Option α) := ⟨fun n o => ∀ a, o = some a → Bdd.bd n a, fun h q a e => Bdd.mono h (q a e)⟩
instance : Bdd (α × β) := ⟨fun n c => Bdd.bd n c.1 ∧ Bdd.bd n c.2, fun h q => ⟨Bdd.mono h q.1, Bdd.mono h q.2⟩⟩
instance : Bdd (Tri α β γ) := ⟨fun n c => Bdd.bd n c.a ∧ Bdd.bd n c.b ∧ Bdd.bd n c.c, fun h q => ⟨Bdd.mono h q.1, Bdd.mono h q.2.1, Bdd.mono h q.2.2⟩⟩
instance : Bdd (T4 α β γ δ) := ⟨fun n c => Bdd.bd n c.a ∧ Bdd.bd n c.b ∧ Bdd.bd n c.c ∧ Bdd.bd n c.d, fun h q => ⟨Bdd.mono h q.1, Bdd.mono h q.2.1, Bdd.mono h q.2.2.1, Bdd.mono h q.2.2.2⟩⟩
instance : Bdd (HL2 α β) := ⟨fun n c => Bdd.bd n c.a ∧ Bdd.bd n c.b, fun h q => ⟨Bdd.mono h q.1, Bdd.mono h q.2⟩⟩
instance : Bdd (HL3 α β γ) := ⟨fun n c => Bdd.bd n c.a ∧ Bdd.bd n c.b ∧ Bdd.bd n c.c, fun h q => ⟨Bdd.mono h q.1, Bdd.mono h q.2.1, Bdd.mono h q.2.2⟩⟩
instance : Bdd (List α) := ⟨fun n xs => xs.length ≤ n ∧ ∀ x ∈ xs, Bdd.bd n x, fun h q => ⟨Nat.le_trans q.1 h, fun x m => Bdd.mono h (q.2 x m)⟩⟩
instance : Bdd (Ls α) := ⟨fun n xs => Bdd.bd n xs.l, fun h q => Bdd.mono (α := List α) h q⟩
instance : Bdd (Fd α) := ⟨fun n d => Bdd.bd n d.kvs, fun h q => Bdd.mono (α := List (Sq × α)) h q⟩
instance : Bdd (Ctl s γ) := ⟨fun n c => match c with | .nx z => Bdd.bd n z | .bk z => Bdd.bd n z | .rt r => Bdd.bd n r, fun {n m a} h q => by
  cases a with
  | nx z => exact Bdd.mono (α := s) h q
  | bk z => exact Bdd.mono (α := s) h q
  | rt r => exact Bdd.mono (α := γ) h q⟩
/-- safe, with at most k draws, its value at most n -/
abbrev Sf {α : Type} [Bdd α] (w : WP α) (k n : Nat) : Prop := Draws w k (Bdd.bd n)
theorem Sf.imp {w : WP α} {k k' n n' : Nat} (h : Sf w k n) (hk : k ≤ k') (hn : n ≤ n') : Sf w k' n' := Draws.imp h hk fun _ q => Bdd.mono hn q
theorem Sf.of_is {w : WP α} {a : α} {n : Nat} (h : Is w a) (hb : Bdd.bd n a) : Sf w 0 n := Gives.draws (h.gives hb)
theorem Sf.pure {a : α} {n : Nat} (h : Bdd.bd n a) : Sf (WP.pure a) 0 n := Draws.pure h
theorem Sf.int {i : Int} : Sf (WP.pure i) 0 i.natAbs := Draws.pure ⟨by omega, by omega⟩
theorem Sf.bool {b : Bool} : Sf (WP.pure b) 0 0 := Draws.pure trivial
theorem Sf.nil : Sf (WP.pure ([] : List α)) 0 0 := Draws.pure ⟨Nat.le_refl _, fun _ h => by cases h⟩
theorem Sf.non : Sf (WP.pure (none : Option α)) 0 0 := Draws.pure fun _ h => by cases h
theorem Sf.some {w : WP α} {k n : Nat} (h : Sf w k n) : Sf (w.bind fun x => WP.pure (some x)) k n := Draws.imp (k := k + 0) (h.bind fun a ha => Draws.pure (fun b e => by cases e; exact ha)) (Nat.le_refl _) fun _ h => h
theorem Sf.bind {w : WP α} {f : α → WP β} {k k' n n' : Nat} (h : Sf w k n) (h' : ∀ a, Bdd.bd n a → Sf (f a) k' n') : Sf (w.bind f) (k + k') n' := Draws.bind h h'
theorem Sf.req {P : Prop} {a : α} {n : Nat} (h : Bdd.bd n a) (p : P) : Sf (WP.req P a) 0 n := Draws.req p h
theorem Sf.b2 {a : WP α} {b : WP β} {f : α → β → WP γ} {k k' k2 n n' n2 : Nat} (h : Sf a k n) (h' : Sf b k' n') (g : ∀ x y, Bdd.bd n x → Bdd.bd n' y → Sf (f x y) k2 n2) : Sf (WP.b2 a b f) (k + (k' + k2)) n2 := h.bind fun x hx => h'.bind fun y hy => g x y hx hy
theorem Sf.b3 {a : WP α} {b : WP β} {c : WP δ} {f : α → β → δ → WP γ} {k k' k2 k3 n n' n2 n3 : Nat} (h : Sf a k n) (h' : Sf b k' n') (h2 : Sf c k2 n2) (g : ∀ x y z, Bdd.bd n x → Bdd.bd n' y → Bdd.bd n2 z → Sf (f x y z) k3 n3) : Sf (WP.b3 a b c f) (k + (k' + (k2 + k3))) n3 := h.bind fun x hx => h'.bind fun y hy => h2.bind fun z hz => g x y z hx hy hz
theorem Sf.add {a b : WP Int} {k k' n n' : Nat} (h : Sf a k n) (h' : Sf b k' n') : Sf (WP.add a b) (k + k') (n + n') := Sf.b2 (k2 := 0) h h' fun x y hx hy => Draws.pure ⟨by have := hx.1; have := hy.1; omega, by have := hx.2; have := hy.2; omega⟩
theorem Sf.sub {a b : WP Int} {k k' n n' : Nat} (h : Sf a k n) (h' : Sf b k' n') : Sf (WP.sub a b) (k + k') (n + n') := Sf.b2 (k2 := 0) h h' fun x y hx hy => Draws.pure ⟨by have := hx.1; have := hy.2; omega, by have := hx.2; have := hy.1; omega⟩
theorem abs_mul_le {x y : Int} {n m : Nat} (hx : x.natAbs ≤ n) (hy : y.natAbs ≤ m) : (x * y).natAbs ≤ n * m := by rw [Int.natAbs_mul]; exact Nat.mul_le_mul hx hy
theorem Sf.mul {a b : WP Int} {k k' n n' : Nat} (h : Sf a k n) (h' : Sf b k' n') (hn : n < 2 ^ 64) : Sf (WP.mul a b) (k + k') (n * n') := Sf.b2 (k2 := 0) h h' fun x y hx hy => Draws.req (.inl ⟨by have := hx.1; omega, by have := hx.2; omega⟩) (by
  have := abs_mul_le (x := x) (y := y) (n := n) (m := n') (by have := hx.1; have := hx.2; omega) (by have := hy.1; have := hy.2; omega)
  exact ⟨by omega, by omega⟩)
theorem Sf.lt {a b : WP Int} {k k' n n' : Nat} (h : Sf a k n) (h' : Sf b k' n') : Sf (WP.lt a b) (k + k') 0 := Sf.b2 (k2 := 0) h h' fun _ _ _ _ => Sf.bool
theorem Sf.le {a b : WP Int} {k k' n n' : Nat} (h : Sf a k n) (h' : Sf b k' n') : Sf (WP.le a b) (k + k') 0 := Sf.b2 (k2 := 0) h h' fun _ _ _ _ => Sf.bool
theorem Sf.gt {a b : WP Int} {k k' n n' : Nat} (h : Sf a k n) (h' : Sf b k' n') : Sf (WP.gt a b) (k + k') 0 := Sf.b2 (k2 := 0) h h' fun _ _ _ _ => Sf.bool
theorem Sf.ge {a b : WP Int} {k k' n n' : Nat} (h : Sf a k n) (h' : Sf b k' n') : Sf (WP.ge a b) (k + k') 0 := Sf.b2 (k2 := 0) h h' fun _ _ _ _ => Sf.bool
theorem Sf.eq [DecidableEq α] {a b : WP α} {k k' n n' : Nat} (h : Sf a k n) (h' : Sf b k' n') : Sf (WP.eq a b) (k + k') 0 := Sf.b2 (k2 := 0) h h' fun _ _ _ _ => Sf.bool
theorem Sf.ne [DecidableEq α] {a b : WP α} {k k' n n' : Nat} (h : Sf a k n) (h' : Sf b k' n') : Sf (WP.ne a b) (k + k') 0 := Sf.b2 (k2 := 0) h h' fun _ _ _ _ => Sf.bool
theorem Sf.not {a : WP Bool} {k n : Nat} (h : Sf a k n) : Sf (WP.not a) k 0 := h.bind (k' := 0) fun _ _ => Sf.bool
theorem Sf.cond {b : Bool} {A B : WP α} {k k' n n' : Nat} (h : Sf A k n) (h' : Sf B k' n') : Sf (WP.cond b A B) (max k k') (max n n') := by
  cases b with
  | true => exact h.imp (Nat.le_max_left _ _) (Nat.le_max_left _ _)
  | false => exact h'.imp (Nat.le_max_right _ _) (Nat.le_max_right _ _)
theorem Sf.and {a b : WP Bool} {k k' n n' : Nat} (h : Sf a k n) (h' : Sf b k' n') : Sf (WP.and a b) (k + k') 0 := h.bind fun x _ => (Sf.cond h' Sf.bool).imp (Nat.max_le.mpr ⟨Nat.le_refl _, Nat.zero_le _⟩) (Nat.le_refl _) |> fun z => Draws.imp z (Nat.le_refl _) fun _ _ => trivial
theorem Sf.or {a b : WP Bool} {k k' n n' : Nat} (h : Sf a k n) (h' : Sf b k' n') : Sf (WP.or a b) (k + k') 0 := h.bind fun x _ => (Sf.cond Sf.bool h').imp (Nat.max_le.mpr ⟨Nat.zero_le _, Nat.le_refl _⟩) (Nat.le_refl _) |> fun z => Draws.imp z (Nat.le_refl _) fun _ _ => trivial
theorem Sf.ite {c : WP Bool} {A B : WP α} {k k' k2 n n' n2 : Nat} (h : Sf c k n) (h' : Sf A k' n') (h2 : Sf B k2 n2) : Sf (WP.ite c A B) (k + max k' k2) (max n' n2) := h.bind fun _ _ => Sf.cond h' h2
theorem Sf.chain {C C' : Int → Int → Bool} {a b c : WP Int} {k k' k2 n n' n2 : Nat} (h : Sf a k n) (h' : Sf b k' n') (h2 : Sf c k2 n2) : Sf (WP.chain C C' a b c) (k + (k' + k2)) 0 := h.bind fun x _ => h'.bind fun y _ => (Sf.cond (h2.bind (k' := 0) (n' := 0) fun _ _ => Sf.bool) Sf.bool).imp (Nat.max_le.mpr ⟨Nat.le_refl _, Nat.zero_le _⟩) (Nat.le_refl _)
theorem Sf.fst {w : WP (α × β)} {k n : Nat} (h : Sf w k n) : Sf (WP.fst w) k n := h.bind (k' := 0) fun _ q => Draws.pure q.1
theorem Sf.snd {w : WP (α × β)} {k n : Nat} (h : Sf w k n) : Sf (WP.snd w) k n := h.bind (k' := 0) fun _ q => Draws.pure q.2
theorem Sf.pair {a : WP α} {b : WP β} {k k' n n' : Nat} (h : Sf a k n) (h' : Sf b k' n') : Sf (WP.pair a b) (k + k') (max n n') := Sf.b2 (k2 := 0) h h' fun _ _ hx hy => Draws.pure ⟨Bdd.mono (Nat.le_max_left _ _) hx, Bdd.mono (Nat.le_max_right _ _) hy⟩
theorem Sf.tri {a : WP α} {b : WP β} {c : WP δ} {k k' k2 n n' n2 : Nat} (h : Sf a k n) (h' : Sf b k' n') (h2 : Sf c k2 n2) : Sf (WP.tri a b c) (k + (k' + k2)) (max n (max n' n2)) := Sf.b3 (k3 := 0) h h' h2 fun _ _ _ hx hy hz => Draws.pure ⟨Bdd.mono (by omega) hx, Bdd.mono (by omega) hy, Bdd.mono (by omega) hz⟩
theorem Sf.len {w : WP (List α)} {k n : Nat} (h : Sf w k n) : Sf (WP.len w) k n := h.bind (k' := 0) fun xs q => Draws.pure ⟨by omega, by have := q.1; omega⟩
theorem Sf.lenS {w : WP Str} {k n : Nat} (h : Sf w k n) (hn : n ≤ 100000) : Sf (WP.lenS w) k n := h.bind (k' := 0) fun xs q => Draws.req (Nat.le_trans q hn) ⟨by omega, by have : xs.length ≤ n := q; omega⟩
theorem bd_app {xs ys : List α} {n m : Nat} (h : Bdd.bd n xs) (h' : Bdd.bd m ys) : Bdd.bd (n + m) (xs ++ ys) := ⟨by rw [List.length_append]; exact Nat.add_le_add h.1 h'.1, fun z hz => by
  rcases List.mem_append.mp hz with e | e
  · exact Bdd.mono (Nat.le_add_right _ _) (h.2 z e)
  · exact Bdd.mono (Nat.le_add_left _ _) (h'.2 z e)⟩
theorem Sf.cat {a b : WP (List α)} {k k' n n' : Nat} (h : Sf a k n) (h' : Sf b k' n') (hn : n + n' ≤ 100000) : Sf (WP.cat a b) (k + k') (n + n') := Sf.b2 (k2 := 0) h h' fun x y hx hy => Draws.req (by have := hx.1; have := hy.1; omega) (bd_app hx hy)
theorem bd_sub {xs ys : List α} {n : Nat} (h : Bdd.bd n xs) (hl : ys.length ≤ xs.length) (hm : ∀ y ∈ ys, y ∈ xs) : Bdd.bd n ys := ⟨Nat.le_trans hl h.1, fun y m => h.2 y (hm y m)⟩
theorem cutL_mem {xs : List α} {a b : Option Int} {x : α} (h : x ∈ cutL xs a b) : x ∈ xs := List.mem_of_mem_drop (List.mem_of_mem_take h)
theorem Sf.cut {w : WP (List α)} {l h : WP (Option Int)} {k k' k2 n n' n2 : Nat} (hw : Sf w k n) (hl : Sf l k' n') (hh : Sf h k2 n2) : Sf (WP.cut w l h) (k + (k' + k2)) n := Sf.b3 (k3 := 0) hw hl hh fun xs _ _ hx _ _ => Draws.pure (bd_sub hx (cutL_le _ _ _) fun _ m => cutL_mem m)
theorem Sf.frz {w : WP (List α)} {k n : Nat} (h : Sf w k n) : Sf (w.bind fun xs => WP.pure (⟨xs⟩ : Ls α)) k n := h.bind (k' := 0) fun _ q => Draws.pure q
theorem Sf.ret {w : WP α} {k n : Nat} (h : Sf w k n) : Sf (w.bind fun r => WP.pure r) k n := h.bind (k' := 0) fun _ q => Draws.pure q
theorem Sf.consE {w : WP α} {ws : WP (List α)} {k k' n n' : Nat} (h : Sf w k n) (h' : Sf ws k' n') : Sf (WP.consE w ws) (k + k') (max n (n' + 1)) := Sf.b2 (k2 := 0) h h' fun x xs hx hs => Draws.pure ⟨by rw [List.length_cons]; have := hs.1; omega, fun y hy => by
  rcases List.mem_cons.mp hy with e | e
  · rw [e]; exact Bdd.mono (Nat.le_max_left _ _) hx
  · exact Bdd.mono (by omega) (hs.2 y e)⟩
theorem Sf.row {w : WP (List α)} {k n : Nat} (h : Sf w k n) (hn : n ≤ 100000) : Sf (WP.row w) k n := h.bind (k' := 0) fun xs q => Draws.req (Nat.le_trans q.1 hn) q
theorem Sf.app {w : WP α} {y : List α} {k n m : Nat} (h : Sf w k n) (hy : Bdd.bd m y) (hn : m < 100000) : Sf (w.bind fun a => WP.req (y.length < 100000) (y ++ [a])) k (max n (m + 1)) := h.bind (k' := 0) fun a ha => Draws.req (by have := hy.1; omega) ⟨by have := hy.1; rw [List.length_append, List.length_singleton]; omega, fun z hz => by
  rcases List.mem_append.mp hz with e | e
  · exact Bdd.mono (by omega) (hy.2 z e)
  · rw [List.mem_singleton.mp e]; exact Bdd.mono (by omega) ha⟩
theorem Sf.take {many : Int} (h : 0 < many) : Sf (WP.b2 (WP.pure ()) (WP.pure many) m_take) 1 many.natAbs := fun n Q hn q => ⟨by omega, h, fun x h1 h2 => q _ x (by omega) (by omega) ⟨by omega, by omega⟩⟩
theorem bd_ix [Inhabited α] {xs : List α} {i : Int} {n : Nat} (h : Bdd.bd n xs) (ho : okI xs.length i) : Bdd.bd n (ixD xs i) := by
  obtain ⟨j, hj, hl⟩ := ixN_ok ho
  have e : ixD xs i = xs[j] := by
    unfold ixD atI
    rw [hj]
    show (xs[j]?).getD default = _
    rw [List.getElem?_eq_getElem hl]; rfl
  rw [e]; exact h.2 _ (List.getElem_mem hl)
theorem Sf.ix [Inhabited α] {xs : List α} {j : WP Int} {n : Nat} {i : Int} (h : Is j i) (hx : Bdd.bd n xs) (ho : okI xs.length i) : Sf (WP.ix (WP.pure xs) j) 0 n := Sf.of_is (Is.ix Is.pure h ho) (bd_ix hx ho)
theorem sf_comp {c : α → WP Bool} {f : α → WP β} {k k' n m j : Nat} (hc : ∀ x, Bdd.bd n x → Sf (c x) k j) (hf : ∀ x, Bdd.bd n x → Sf (f x) k' m) : ∀ xs : List α, (∀ x ∈ xs, Bdd.bd n x) → Draws (WP.comp c f xs) (xs.length * (k + k')) (fun ys : List β => ys.length ≤ xs.length ∧ ∀ y ∈ ys, Bdd.bd m y)
  | [], _ => by
    rw [List.length_nil, Nat.zero_mul]
    exact Draws.pure ⟨Nat.le_refl _, fun _ h => by cases h⟩
  | x :: xs, h => by
    have ih := sf_comp hc hf xs fun y m => h y (List.mem_cons_of_mem _ m)
    refine Draws.imp (k := k + (k' + (xs.length * (k + k') + 0))) ?_ (by rw [List.length_cons, Nat.succ_mul]; omega) (fun _ h => h)
    refine Draws.bind (hc x (h x List.mem_cons_self)) fun b _ => ?_
    cases b with
    | true =>
      refine Draws.bind (hf x (h x List.mem_cons_self)) fun z hz => Draws.bind ih fun zs hzs => Draws.pure ⟨by rw [List.length_cons, List.length_cons]; have := hzs.1; omega, fun t ht => ?_⟩
      rcases List.mem_cons.mp ht with e | e
      · rw [e]; exact hz
      · exact hzs.2 t e
    | false => exact Draws.imp ih (by omega) fun ys hy => ⟨by rw [List.length_cons]; have := hy.1; omega, hy.2⟩
theorem Sf.lc {w : WP (List α)} {c : α → WP Bool} {f : α → WP β} {k k1 k2 n m j : Nat} (hw : Sf w k n) (hc : ∀ x, Bdd.bd n x → Sf (c x) k1 j) (hf : ∀ x, Bdd.bd n x → Sf (f x) k2 m) (hn : n ≤ 100000) : Sf (WP.lc w c f) (k + n * (k1 + k2)) (max n m) :=
  Draws.imp (k := k + (0 + n * (k1 + k2))) (P := Bdd.bd (max n m)) (Draws.bind hw fun xs hx => Draws.bind (P := fun ys => ys = xs) (Draws.req (Nat.le_trans hx.1 hn) rfl) fun ys e => Draws.imp (sf_comp hc hf ys (by rw [e]; exact hx.2)) (by rw [e]; exact Nat.mul_le_mul_right _ hx.1) fun zs h => (show zs.length ≤ max n m ∧ ∀ z ∈ zs, Bdd.bd (max n m) z from ⟨by have := h.1; have := hx.1; rw [← e] at this; omega, fun y hy => Bdd.mono (by omega) (h.2 y hy)⟩)) (by omega) fun ys h => h
theorem Sf.loop {body : α → s → WP (Ctl s γ)} {xs : List α} {x : s} {f : s → WP β} {r : γ → WP β} {A L n0 kb k1 k2 n1 n2 : Nat} (c : Nat) (hx : Bdd.bd n0 x) (hl : xs.length ≤ L) (ha : ∀ a ∈ xs, Bdd.bd A a)
    (hb : ∀ m a y, m ≤ n0 + L * c → Bdd.bd A a → Bdd.bd m y → Sf (body a y) kb (m + c)) (hf : ∀ y, Bdd.bd (n0 + L * c) y → Sf (f y) k1 n1) (hr : ∀ g, Bdd.bd (n0 + L * c) g → Sf (r g) k2 n2) : Sf (WP.after (WP.loop body xs x) f r) (L * kb + max k1 k2) (max n1 n2) := by
  intro n Q hn q
  have hL : ∀ i, i ≤ xs.length → i * kb ≤ L * kb := fun i hi => Nat.mul_le_mul_right _ (Nat.le_trans hi hl)
  have hC : ∀ i, i ≤ xs.length → i * c ≤ L * c := fun i hi => Nat.mul_le_mul_right _ (Nat.le_trans hi hl)
  refine WP.after_inv (fun i m y => n ≤ m ∧ m ≤ n + i * kb ∧ Bdd.bd (n0 + i * c) y) ⟨by omega, by omega, by rw [Nat.zero_mul]; exact hx⟩ (fun i m a y hai hy => ?_) (fun m y hy => ?_)
  · have hi := (List.getElem?_eq_some_iff.mp hai).1
    have h1 := hL (i + 1) (by omega)
    have h2 := hC (i + 1) (by omega)
    have e1 : (i + 1) * kb = i * kb + kb := Nat.succ_mul _ _
    have e2 : (i + 1) * c = i * c + c := Nat.succ_mul _ _
    obtain ⟨g1, g2, g3⟩ := hy
    refine hb (n0 + i * c) a y (by omega) (ha a (List.mem_of_getElem? hai)) g3 m _ (by omega) fun m' ctl l1 l2 hctl => ?_
    cases ctl with
    | nx z => exact ⟨by omega, by omega, by rw [e2, ← Nat.add_assoc]; exact hctl⟩
    | bk z => exact hf z (Bdd.mono (by omega) hctl) m' Q (by omega) fun m2 b h3 h4 hb => q m2 b (by omega) (by omega) (Bdd.mono (by omega) hb)
    | rt g => exact hr g (Bdd.mono (by omega) hctl) m' Q (by omega) fun m2 b h3 h4 hb => q m2 b (by omega) (by omega) (Bdd.mono (by omega) hb)
  · have h1 := hL _ (Nat.le_refl _)
    have h2 := hC _ (Nat.le_refl _)
    exact hf y (Bdd.mono (by omega) hy.2.2) m Q (by have := hy.2.1; omega) fun m2 b h3 h4 hb => q m2 b (by have := hy.1; omega) (by have := hy.2.1; omega) (Bdd.mono (by omega) hb)
theorem Sf.rt {r : WP γ} {k n : Nat} (h : Sf r k n) : Sf (r.bind fun r => WP.pure (Ctl.rt (s := s) r)) k n := h.bind (k' := 0) fun _ q => Draws.pure q
theorem Sf.nx {y : s} {n : Nat} (h : Bdd.bd n y) : Sf (WP.pure (Ctl.nx (γ := γ) y)) 0 n := Draws.pure h
theorem Sf.bk {y : s} {n : Nat} (h : Bdd.bd n y) : Sf (WP.pure (Ctl.bk (γ := γ) y)) 0 n := Draws.pure h
theorem Sf.range1 {w : WP Int} {k n : Nat} (h : Sf w k n) (hn : n ≤ 100000) : Sf (WP.range1 w) k n := h.bind (k' := 0) fun x q => Draws.req ⟨by have := q.1; omega, by have := q.2; omega⟩ ⟨by rw [rangeL0_len]; have := q.2; omega, fun y hy => by
  have := mem_rangeL hy
  have := q.2
  exact ⟨by omega, by omega⟩⟩
end
section
variable {α β γ δ : Type} [Bdd α] [Bdd β] [Bdd γ] [Bdd δ] {n : Nat}
end
end Y

/-! the law's own comparison of data -/
namespace Y
open PySem PySem.Spec PyProof.Rows L2
open Dat (dat)
/-- data that may be compared: not too deep, not too long -/
def okD : Nat → PyData → Prop
  | _, .none => True
  | _, .bool _ => True
  | _, .int _ => True
  | _, .str s => PyData.canLay0 (.str s) = true
  | n + 1, .list xs => xs.length ≤ 100000 ∧ ∀ x ∈ xs, okD n x
  | n + 1, .tuple xs => xs.length ≤ 100000 ∧ ∀ x ∈ xs, okD n x
  | _, _ => False
theorem okD_mono : ∀ {n : Nat} {d : PyData}, okD n d → okD (n + 1) d := by
  intro n
  induction n with
  | zero =>
    intro d h
    cases d with
    | list xs => exact h.elim
    | tuple xs => exact h.elim
    | dict xs => exact h.elim
    | none => exact h
    | bool b => exact h
    | int b => exact h
    | str b => exact h
  | succ n ih =>
    intro d h
    cases d with
    | list xs => exact ⟨h.1, fun x m => ih (h.2 x m)⟩
    | tuple xs => exact ⟨h.1, fun x m => ih (h.2 x m)⟩
    | dict xs => exact h.elim
    | none => exact h
    | bool b => exact h
    | int b => exact h
    | str b => exact h
theorem okD_le {n m : Nat} {d : PyData} (h : okD n d) (hn : n ≤ m) : okD m d := by
  induction hn with
  | refl => exact h
  | step _ ih => exact okD_mono ih
class Cm (α : Type) [PyI α] [Dat α] where
  ok : α → Prop
  n : Nat
  okd : ∀ {a : α}, ok a → okD n (dat a)
instance : Cm Int := ⟨fun _ => True, 0, fun _ => trivial⟩
instance : Cm Bool := ⟨fun _ => True, 0, fun _ => trivial⟩
instance : Cm Unit := ⟨fun _ => True, 0, fun _ => trivial⟩
instance : Cm Str := ⟨fun s => PyData.canLay0 (.str s) = true, 0, fun h => h⟩
section
variable {α β : Type} [PyI α] [PyI β] [Dat α] [Dat β] [Cm α] [Cm β]
instance : Cm (α × β) := ⟨fun c => Cm.ok c.1 ∧ Cm.ok c.2, max (Cm.n α) (Cm.n β) + 1, fun h => ⟨by show (2 : Nat) ≤ 100000; omega, fun x hx => by
  rcases List.mem_cons.mp hx with e | hx
  · rw [e]; exact okD_le (Cm.okd h.1) (Nat.le_max_left _ _)
  · rw [List.mem_singleton.mp hx]; exact okD_le (Cm.okd h.2) (Nat.le_max_right _ _)⟩⟩
instance : Cm (List α) := ⟨fun xs => xs.length ≤ 100000 ∧ ∀ x ∈ xs, Cm.ok x, Cm.n α + 1, fun h => ⟨by rw [List.length_map]; exact h.1, fun x hx => by
  obtain ⟨a, ha, rfl⟩ := List.mem_map.mp hx
  exact Cm.okd (h.2 a ha)⟩⟩
instance : Cm (Ls α) := ⟨fun xs => xs.l.length ≤ 100000 ∧ ∀ x ∈ xs.l, Cm.ok x, Cm.n α + 1, fun h => ⟨by rw [List.length_map]; exact h.1, fun x hx => by
  obtain ⟨a, ha, rfl⟩ := List.mem_map.mp hx
  exact Cm.okd (h.2 a ha)⟩⟩
instance : Cm (Option α) := ⟨fun o => ∀ a, o = some a → Cm.ok a, Cm.n α, fun {o} h => by
  cases o with
  | none =>
    show okD (Cm.n α) .none
    cases Cm.n α <;> exact trivial
  | some a => exact Cm.okd (h a rfl)⟩
end
end Y

/-! plain facts: the deal -/
namespace Y
open PySem L2
def law_dealM (a_script : List Int) : WP Unit := (WP.row (WP.pure ([] : List Int))).bind fun a1_row => (WP.range1 (WP.min2 (WP.len (WP.pure a_script)) (WP.pure (63 : Int)))).bind fun xs2 => WP.after (WP.loop (γ := Unit) (fun c2 (y2 : (List Int)) => (WP.abs ((WP.ix (WP.pure a_script) (WP.pure c2)).bind WP.pure)).bind fun a3_cell => ((WP.ge (WP.pure a3_cell) (WP.pow (WP.pure (10 : Int)) (WP.pure (18 : Int)))).bind fun b => WP.cond b ((WP.range1 (WP.pure (40 : Int))).bind fun xs5 => WP.after (WP.loop (γ := Unit) (fun c5 (y5 : (List Int) × Int) => ((WP.gt (WP.pure y5.2) (WP.pure (0 : Int))).bind fun b => WP.cond b (((WP.mod (WP.pure y5.2) (WP.pure (1009 : Int))).bind fun a => WP.req (y5.1.length < 100000) (y5.1 ++ [a])).bind fun a7_row => (WP.fdiv (WP.pure y5.2) (WP.pure (1009 : Int))).bind fun a8_cell => (WP.pure (a7_row, a8_cell))) ((WP.pure (y5.1, y5.2)))).bind fun (y6 : (List Int) × Int) => (WP.pure (.nx (y6.1, y6.2)))) xs5 (y2, a3_cell)) (fun (z5 : (List Int) × Int) => (WP.pure (z5.1, z5.2))) (fun r => (WP.none (b := r)))) ((WP.add (WP.add (WP.mul (WP.mod (WP.pure a3_cell) (WP.pure (2147483629 : Int))) (WP.pure (48271 : Int))) (WP.mul (WP.pure c2) (WP.pure (69621 : Int)))) (WP.pure (11 : Int))).bind fun a9_cell => (WP.range1 (WP.pure (5 : Int))).bind fun xs10 => WP.after (WP.loop (γ := Unit) (fun c10 (y10 : (List Int) × Int) => (WP.mod (WP.add (WP.add (WP.mul (WP.pure y10.2) (WP.pure (16807 : Int))) (WP.pure (12345 : Int))) (WP.pure c10)) (WP.pure (2147483647 : Int))).bind fun a11_cell => ((WP.mod (WP.fdiv (WP.pure a11_cell) (WP.pure (7 : Int))) (WP.pure (1009 : Int))).bind fun a => WP.req (y10.1.length < 100000) (y10.1 ++ [a])).bind fun a12_row => (WP.pure (.nx (a12_row, a11_cell)))) xs10 (y2, a9_cell)) (fun (z10 : (List Int) × Int) => (WP.pure (z10.1, z10.2))) (fun r => (WP.none (b := r))))).bind fun (y4 : (List Int) × Int) => (WP.pure (.nx y4.1))) xs2 a1_row) (fun (z2 : (List Int)) => (WP.add (WP.sum (WP.pure z2)) (WP.len (WP.pure a_script))).bind fun a13_total => (WP.pure a13_total).bind fun _ => WP.pure ()) (fun r => (WP.pure r))
theorem len_app {a : Int} {xs : List Int} : (xs ++ [a]).length = xs.length + 1 := by simp
theorem deal_plain (ns : List Int) (hl : ns.length ≤ 63) (n : Nat) : (law_dealM ns).run n fun _ _ => True := by
  unfold law_dealM
  (simp only [WP.run_bind, WP.run_pure, WP.run_req, WP.run_any, WP.run_take, WP.run_cond, WP.run_range1, WP.run_range2, decide_eq_true_eq, decide_eq_false_iff_not, Bool.not_eq_true', Bool.not_eq_false'])
  refine ⟨by decide, ⟨by split <;> omega, by split <;> omega⟩, ?_⟩
  refine WP.after_inv (fun i m row => row.length ≤ 40 * i) (by simp) (fun i m k row hk hrow => ?_) (fun m row hrow => ?_)
  · obtain ⟨ek, hk'⟩ := rangeL0_get hk
    have hi : i < 63 := by split at hk' <;> omega
    have hi2 : i < ns.length := by split at hk' <;> omega
    subst ek
    (simp only [WP.run_bind, WP.run_pure, WP.run_req, WP.run_any, WP.run_take, WP.run_cond, WP.run_range1, WP.run_range2, decide_eq_true_eq, decide_eq_false_iff_not, Bool.not_eq_true', Bool.not_eq_false'])
    refine ⟨⟨by omega, by omega⟩, ⟨by decide, by decide, by decide⟩, fun _ => ⟨⟨by decide, by decide⟩, ?_⟩, fun _ => ?_⟩
    · refine WP.after_inv (fun j m y => y.1.length ≤ 40 * i + j) (by simpa using hrow) (fun j m t y ht hy => ?_) (fun m y hy => ?_)
      · obtain ⟨et, ht'⟩ := rangeL0_get ht
        (simp only [WP.run_bind, WP.run_pure, WP.run_req, WP.run_any, WP.run_take, WP.run_cond, WP.run_range1, WP.run_range2, decide_eq_true_eq, decide_eq_false_iff_not, Bool.not_eq_true', Bool.not_eq_false'])
        refine ⟨fun _ => ⟨by decide, by omega, ⟨by decide, by decide⟩, ?_⟩, fun _ => ?_⟩
        · show (y.1 ++ _).length ≤ _
          rw [len_app]; omega
        · show y.1.length ≤ _
          omega
      · rw [rangeL0_len] at hy
        show y.1.length ≤ 40 * (i + 1)
        have : (40 : Int).toNat = 40 := rfl
        omega
    · refine ⟨by decide, .inr ⟨by decide, by decide⟩, .inr ⟨by decide, by decide⟩, ⟨by decide, by decide⟩, ?_⟩
      refine WP.after_inv (fun j m y => y.1.length ≤ 40 * i + j) (by simpa using hrow) (fun j m t y ht hy => ?_) (fun m y hy => ?_)
      · obtain ⟨et, ht'⟩ := rangeL0_get ht
        (simp only [WP.run_bind, WP.run_pure, WP.run_req, WP.run_any, WP.run_take, WP.run_cond, WP.run_range1, WP.run_range2, decide_eq_true_eq, decide_eq_false_iff_not, Bool.not_eq_true', Bool.not_eq_false'])
        refine ⟨.inr ⟨by decide, by decide⟩, by decide, ⟨by decide, by decide⟩, by decide, by omega, ?_⟩
        show (y.1 ++ _).length ≤ _
        rw [len_app]; omega
      · rw [rangeL0_len] at hy
        show y.1.length ≤ 40 * (i + 1)
        have : (5 : Int).toNat = 5 := rfl
        omega
  · (simp only [WP.run_bind, WP.run_pure, WP.run_req, WP.run_any, WP.run_take, WP.run_cond, WP.run_range1, WP.run_range2, decide_eq_true_eq, decide_eq_false_iff_not, Bool.not_eq_true', Bool.not_eq_false'])
end Y

/-! regions: sorted lists of squares, parts that steps make -/
namespace Y
open PySem PySem.Spec PyProof.Rows L2
def ltQ (a b : Sq) : Prop := a.1 < b.1 ∨ (a.1 = b.1 ∧ a.2 < b.2)
theorem ltQ_asym {a b : Sq} (h : ltQ a b) : ¬ ltQ b a := by unfold ltQ at *; omega
theorem ltQ_irr (a : Sq) : ¬ ltQ a a := by unfold ltQ; omega
theorem ltQ_ne {a b : Sq} (h : ltQ a b) : a ≠ b := fun e => ltQ_irr b (e ▸ h)
theorem srt_ext : ∀ {xs ys : List Sq}, xs.Pairwise ltQ → ys.Pairwise ltQ → (∀ q, q ∈ xs ↔ q ∈ ys) → xs = ys
  | [], [], _, _, _ => rfl
  | [], y :: ys, _, _, h => absurd ((h y).mpr List.mem_cons_self) (by simp)
  | x :: xs, [], _, _, h => absurd ((h x).mp List.mem_cons_self) (by simp)
  | x :: xs, y :: ys, hx, hy, h => by
    have h1 := List.pairwise_cons.mp hx
    have h2 := List.pairwise_cons.mp hy
    have e : x = y := by
      rcases List.mem_cons.mp ((h x).mp List.mem_cons_self) with e | m1
      · exact e
      · rcases List.mem_cons.mp ((h y).mpr List.mem_cons_self) with e | m2
        · exact e.symm
        · exact absurd (h1.1 y m2) (ltQ_asym (h2.1 x m1))
    subst e
    rw [srt_ext h1.2 h2.2 fun q => ?_]
    constructor
    · intro m
      rcases List.mem_cons.mp ((h q).mp (List.mem_cons_of_mem _ m)) with e | m'
      · exact absurd e (ltQ_ne (h1.1 q m)).symm
      · exact m'
    · intro m
      rcases List.mem_cons.mp ((h q).mpr (List.mem_cons_of_mem _ m)) with e | m'
      · exact absurd e (ltQ_ne (h2.1 q m)).symm
      · exact m'
/-- a region: the squares that steps lead to from s, in order -/
def IsReg (st : Sq → List Sq) (s : Sq) (l : List Sq) : Prop := l.Pairwise ltQ ∧ ∀ q, q ∈ l ↔ Rch st s q
theorem IsReg.inj {st : Sq → List Sq} {s : Sq} {l l' : List Sq} (h : IsReg st s l) (h' : IsReg st s l') : l = l' := srt_ext h.1 h'.1 fun q => by rw [h.2, h'.2]
/-- the regions of ascending squares, one after another -/
def Regs (st : Sq → List Sq) : List Sq → List (List Sq) → List (List Sq) → Prop
  | [], acc, R => R = acc
  | x :: xs, acc, R => ((∃ l ∈ acc, x ∈ l) ∧ Regs st xs acc R) ∨ ((∀ l ∈ acc, x ∉ l) ∧ ∃ l, IsReg st x l ∧ Regs st xs (acc ++ [l]) R)
section
variable {st st' : Sq → List Sq}
theorem Regs.inj : ∀ {xs : List Sq} {acc R R' : List (List Sq)}, Regs st xs acc R → Regs st xs acc R' → R = R'
  | [], _, _, _, h, h' => (show _ = _ from h).trans (show _ = _ from h').symm
  | x :: xs, acc, R, R', h, h' => by
    rcases h with ⟨⟨l, hl, hx⟩, h⟩ | ⟨hn, l, hl, h⟩
    · rcases h' with ⟨_, h'⟩ | ⟨hn', _⟩
      · exact h.inj h'
      · exact absurd hx (hn' l hl)
    · rcases h' with ⟨⟨l', hl', hx⟩, _⟩ | ⟨_, l', hl', h'⟩
      · exact absurd hx (hn l' hl')
      · rw [hl.inj hl'] at h
        exact h.inj h'
theorem Regs.app : ∀ {xs ys : List Sq} {acc R : List (List Sq)}, Regs st (xs ++ ys) acc R ↔ ∃ M, Regs st xs acc M ∧ Regs st ys M R
  | [], ys, acc, R => ⟨fun h => ⟨acc, rfl, h⟩, fun ⟨M, h, h'⟩ => by rw [show M = acc from h] at h'; exact h'⟩
  | x :: xs, ys, acc, R => by
    constructor
    · rintro (⟨a, h⟩ | ⟨a, l, b, h⟩)
      · obtain ⟨M, h1, h2⟩ := Regs.app.mp h
        exact ⟨M, .inl ⟨a, h1⟩, h2⟩
      · obtain ⟨M, h1, h2⟩ := Regs.app.mp h
        exact ⟨M, .inr ⟨a, l, b, h1⟩, h2⟩
    · rintro ⟨M, ⟨a, h1⟩ | ⟨a, l, b, h1⟩, h2⟩
      · exact .inl ⟨a, Regs.app.mpr ⟨M, h1, h2⟩⟩
      · exact .inr ⟨a, l, b, Regs.app.mpr ⟨M, h1, h2⟩⟩
theorem Regs.snoc {xs : List Sq} {x : Sq} {acc R : List (List Sq)} (h : Regs st xs acc R) : ((∃ l ∈ R, x ∈ l) → Regs st (xs ++ [x]) acc R) ∧ (∀ l, (∀ m ∈ R, x ∉ m) → IsReg st x l → Regs st (xs ++ [x]) acc (R ++ [l])) :=
  ⟨fun hx => Regs.app.mpr ⟨R, h, .inl ⟨hx, rfl⟩⟩, fun l hn hl => Regs.app.mpr ⟨R, h, .inr ⟨hn, l, hl, rfl⟩⟩⟩
theorem Regs.congr : ∀ {xs : List Sq} {acc R : List (List Sq)}, (∀ x ∈ xs, ∀ q, Rch st x q ↔ Rch st' x q) → Regs st xs acc R → Regs st' xs acc R
  | [], _, _, _, h => h
  | x :: xs, acc, R, e, h => by
    have e' : ∀ y ∈ xs, ∀ q, Rch st y q ↔ Rch st' y q := fun y m => e y (List.mem_cons_of_mem _ m)
    rcases h with ⟨a, h⟩ | ⟨a, l, b, h⟩
    · exact .inl ⟨a, h.congr e'⟩
    · exact .inr ⟨a, l, ⟨b.1, fun q => by rw [b.2, e x List.mem_cons_self]⟩, h.congr e'⟩
theorem Regs.keep : ∀ {xs : List Sq} {acc R : List (List Sq)}, Regs st xs acc R → ∀ l ∈ acc, l ∈ R
  | [], _, _, h, l, m => by rw [show _ = _ from h]; exact m
  | x :: xs, acc, R, h, l, m => by
    rcases h with ⟨_, h⟩ | ⟨_, k, _, h⟩
    · exact h.keep l m
    · exact h.keep l (List.mem_append_left _ m)
theorem Regs.mem : ∀ {xs : List Sq} {acc R : List (List Sq)}, Regs st xs acc R → ∀ l ∈ R, l ∈ acc ∨ ∃ x ∈ xs, IsReg st x l
  | [], _, _, h, l, m => .inl (by rw [show _ = _ from h] at m; exact m)
  | x :: xs, acc, R, h, l, m => by
    rcases h with ⟨_, h⟩ | ⟨_, k, hk, h⟩
    · rcases h.mem l m with a | ⟨y, hy, r⟩
      · exact .inl a
      · exact .inr ⟨y, List.mem_cons_of_mem _ hy, r⟩
    · rcases h.mem l m with a | ⟨y, hy, r⟩
      · rcases List.mem_append.mp a with a | a
        · exact .inl a
        · rw [List.mem_singleton.mp a]; exact .inr ⟨x, List.mem_cons_self, hk⟩
      · exact .inr ⟨y, List.mem_cons_of_mem _ hy, r⟩
theorem Regs.len : ∀ {xs : List Sq} {acc R : List (List Sq)}, Regs st xs acc R → R.length ≤ acc.length + xs.length
  | [], _, _, h => by rw [show _ = _ from h]; simp
  | x :: xs, acc, R, h => by
    rcases h with ⟨_, h⟩ | ⟨_, k, hk, h⟩
    · have := h.len; rw [List.length_cons]; omega
    · have := h.len; rw [List.length_append, List.length_singleton] at this; rw [List.length_cons]; omega
end
/-! dicts as sets -/
theorem putQ_keys {β : Type} {kvs : List (Sq × β)} {q : Sq} {b : β} : (putQ kvs q b).map (·.1) = if hasK kvs q then kvs.map (·.1) else kvs.map (·.1) ++ [q] := by
  cases e : hasK kvs q with
  | true =>
    rw [putQ_old e, List.map_map, if_pos rfl]
    refine List.map_congr_left fun p _ => ?_
    show (if p.1 = q then (p.1, b) else p).1 = p.1
    split <;> rfl
  | false => rw [putQ_new e, List.map_append]; rfl
theorem hasK_put {β : Type} {kvs : List (Sq × β)} {q p : Sq} {b : β} : hasK (putQ kvs q b) p = true ↔ p = q ∨ hasK kvs p = true := by
  rw [hasK_iff, putQ_keys]
  cases e : hasK kvs q with
  | true =>
    rw [if_pos rfl]
    exact ⟨fun h => .inr (hasK_iff.mpr h), fun h => h.elim (fun h => by rw [h]; exact hasK_iff.mp e) hasK_iff.mp⟩
  | false =>
    rw [if_neg (by decide), List.mem_append, List.mem_singleton]
    exact ⟨fun h => h.elim (fun h => .inr (hasK_iff.mpr h)) .inl, fun h => h.elim .inr fun h => .inl (hasK_iff.mp h)⟩
structure KN {β : Type} (kvs : List (Sq × β)) (U : List Sq) : Prop where
  nd : (kvs.map (·.1)).Nodup
  sub : ∀ q ∈ kvs.map (·.1), q ∈ U
theorem KN.nil {β : Type} {U : List Sq} : KN ([] : List (Sq × β)) U := ⟨List.nodup_nil, fun _ h => by cases h⟩
theorem KN.put {β : Type} {kvs : List (Sq × β)} {U : List Sq} {q : Sq} {b : β} (h : KN kvs U) (hq : q ∈ U) : KN (putQ kvs q b) U := by
  constructor
  · rw [putQ_keys]
    cases e : hasK kvs q with
    | true => exact h.nd
    | false =>
      rw [if_neg (by decide), List.nodup_append]
      refine ⟨h.nd, by simp, fun x hx y hy => ?_⟩
      rw [List.mem_singleton.mp hy]
      rintro rfl
      exact hasK_false.mp e hx
  · intro p hp
    rcases hasK_put.mp (hasK_iff.mpr hp) with e | e
    · rw [e]; exact hq
    · exact h.sub p (hasK_iff.mp e)
theorem KN.len {β : Type} {kvs : List (Sq × β)} {U : List Sq} (h : KN kvs U) : kvs.length ≤ U.length := by
  have := nodup_le h.nd h.sub
  rwa [List.length_map] at this
end Y

/-! waters: neighbours, the margin, lands and waters of the program -/
namespace Y
open PySem PySem.Spec PyProof.Rows L2
def nbrs (q : Sq) : List Sq := [(q.1 + -1, q.2 + -1), (q.1 + -1, q.2 + 0), (q.1 + -1, q.2 + 1), (q.1 + 0, q.2 + -1), (q.1 + 0, q.2 + 1), (q.1 + 1, q.2 + -1), (q.1 + 1, q.2 + 0), (q.1 + 1, q.2 + 1)]
def isNr (ch : List Str) (q : Sq) : Bool := (decide (-1 ≤ q.1) && decide (q.1 ≤ (ch.length : Int))) && (decide (-1 ≤ q.2) && decide (q.2 ≤ (wid ch : Int)))
theorem isNr_iff {ch : List Str} {q : Sq} : isNr ch q = true ↔ -1 ≤ q.1 ∧ q.1 ≤ (ch.length : Int) ∧ -1 ≤ q.2 ∧ q.2 ≤ (wid ch : Int) := by
  unfold isNr
  simp only [Bool.and_eq_true, decide_eq_true_eq]
  exact ⟨fun ⟨⟨a, b⟩, c, d⟩ => ⟨a, b, c, d⟩, fun ⟨a, b, c, d⟩ => ⟨⟨a, b⟩, c, d⟩⟩
/-- water, of the chart or the margin -/
def isWt (ch : List Str) (q : Sq) : Bool := isNr ch q && !isLd ch q
theorem isWt_iff {ch : List Str} {q : Sq} : isWt ch q = true ↔ isNr ch q = true ∧ isLd ch q = false := by
  unfold isWt
  rw [Bool.and_eq_true, Bool.not_eq_true']
def wtBeside (ch : List Str) (q : Sq) : List Sq := (nbrs q).filter (isWt ch)
theorem mem_wtB {ch : List Str} {p q : Sq} : q ∈ wtBeside ch p ↔ q ∈ nbrs p ∧ isWt ch q = true := List.mem_filter
theorem rch_wt {ch : List Str} {s q : Sq} (h : Rch (wtBeside ch) s q) : q = s ∨ isWt ch q = true := by
  induction h with
  | refl => exact .inl rfl
  | step _ h _ => exact .inr (mem_wtB.mp h).2
/-- the squares of the chart and the margin, in order: the first i rows -/
def mcRow (ch : List Str) (r : Int) : List Sq := (List.range (wid ch + 2)).map fun (c : Nat) => ((r, (c : Int) - 1) : Sq)
def mcTo (ch : List Str) (i : Nat) : List Sq := (List.range i).flatMap fun (r : Nat) => mcRow ch ((r : Int) - 1)
def mc (ch : List Str) : List Sq := mcTo ch (ch.length + 2)
theorem mem_mcTo {ch : List Str} {i : Nat} {q : Sq} : q ∈ mcTo ch i ↔ -1 ≤ q.1 ∧ q.1 < (i : Int) - 1 ∧ -1 ≤ q.2 ∧ q.2 ≤ (wid ch : Int) := by
  unfold mcTo mcRow
  simp only [List.mem_flatMap, List.mem_map, List.mem_range]
  constructor
  · rintro ⟨r, hr, c, hc, rfl⟩
    dsimp only; omega
  · rintro ⟨h1, h2, h3, h4⟩
    exact ⟨(q.1 + 1).toNat, by omega, (q.2 + 1).toNat, by omega, by apply Prod.ext <;> dsimp only <;> omega⟩
theorem mem_mc {ch : List Str} {q : Sq} : q ∈ mc ch ↔ isNr ch q = true := by
  unfold mc
  rw [mem_mcTo, isNr_iff]; omega
def landList (ch : List Str) : List Sq := (allSq ch).filter (isLd ch)
def waterList (ch : List Str) : List Sq := (mc ch).filter (isWt ch)
abbrev LandsOf (ch : List Str) (R : List (List Sq)) : Prop := Regs (ldBeside ch) (landList ch) [] R
abbrev WatersOf (ch : List Str) (R : List (List Sq)) : Prop := Regs (wtBeside ch) (waterList ch) [] R
theorem mem_landList {ch : List Str} {q : Sq} : q ∈ landList ch ↔ isLd ch q = true := by
  unfold landList
  rw [List.mem_filter, mem_allSq]
  exact ⟨fun h => h.2, fun h => ⟨isLd_sq h, h⟩⟩
theorem mem_waterList {ch : List Str} {q : Sq} : q ∈ waterList ch ↔ isWt ch q = true := by
  unfold waterList
  rw [List.mem_filter, mem_mc]
  exact ⟨fun h => h.2, fun h => ⟨(isWt_iff.mp h).1, h⟩⟩
end Y

/-! the laws' own floods (k07 and others) -/
namespace Y
open PySem PySem.Spec PyProof.Rows L2
end Y

/-! squares of a chart changed; the drawn grid of k07 and others -/
namespace Y
open PySem PySem.Spec PyProof.Rows L2
end Y

/-! the sea and the lakes; joined and drained -/
namespace Y
open PySem PySem.Spec PyProof.Rows L2
theorem Regs.pre {st : Sq → List Sq} : ∀ {xs : List Sq} {acc R : List (List Sq)}, Regs st xs acc R → ∃ t, R = acc ++ t
  | [], _, _, h => ⟨[], by rw [show _ = _ from h, List.append_nil]⟩
  | x :: xs, acc, R, h => by
    rcases h with ⟨_, h⟩ | ⟨_, l, _, h⟩
    · exact h.pre
    · obtain ⟨t, e⟩ := h.pre
      exact ⟨l :: t, by rw [e, List.append_assoc]; rfl⟩
theorem wet_out {ch : List Str} {q : Sq} (h : isNr ch q = true) (h' : isSq ch q = false) : isWt ch q = true := isWt_iff.mpr ⟨h, by
  cases e : isLd ch q with
  | true => rw [isLd_sq e] at h'; cases h'
  | false => rfl⟩
theorem sq_no {ch : List Str} {q : Sq} (h : q.1 < 0 ∨ (ch.length : Int) ≤ q.1 ∨ q.2 < 0 ∨ (wid ch : Int) ≤ q.2) : isSq ch q = false := by
  cases e : isSq ch q with
  | false => rfl
  | true => rw [isSq_iff] at e; omega
theorem corner_wt (ch : List Str) : isWt ch (-1, -1) = true := wet_out (isNr_iff.mpr ⟨by show (-1 : Int) ≤ -1; omega, by show (-1 : Int) ≤ _; omega, by show (-1 : Int) ≤ -1; omega, by show (-1 : Int) ≤ _; omega⟩) (sq_no (.inl (by show (-1 : Int) < 0; omega)))
theorem waterList_cons (ch : List Str) : ∃ t, waterList ch = (-1, -1) :: t := by
  unfold waterList mc
  have e : mcTo ch (ch.length + 2) = (-1, -1) :: (mcTo ch (ch.length + 2)).tail := by
    have h : ((mcTo ch (ch.length + 2)).head?) = some ((-1 : Int), (-1 : Int)) := by
      unfold mcTo mcRow
      rw [List.range_succ_eq_map (n := wid ch + 1), List.range_succ_eq_map (n := ch.length + 1), List.flatMap_cons]
      rfl
    cases e2 : mcTo ch (ch.length + 2) with
    | nil => rw [e2] at h; cases h
    | cons a t => rw [e2] at h; cases h; rfl
  rw [e, List.filter_cons_of_pos (corner_wt ch)]
  exact ⟨_, rfl⟩
theorem WatersOf.cons {ch : List Str} {R : List (List Sq)} (h : WatersOf ch R) : ∃ S L, R = S :: L ∧ IsReg (wtBeside ch) (-1, -1) S := by
  obtain ⟨t, e⟩ := waterList_cons ch
  unfold WatersOf at h
  rw [e] at h
  rcases h with ⟨⟨l, hl, _⟩, _⟩ | ⟨_, l, hl, h⟩
  · cases hl
  · obtain ⟨t, e⟩ := h.pre
    exact ⟨l, t, e, hl⟩
theorem LandsOf.in {ch : List Str} {R : List (List Sq)} (h : LandsOf ch R) : ∀ l ∈ R, ∀ q ∈ l, isLd ch q = true := fun l hl q hq => by
  rcases h.mem l hl with a | ⟨x, hx, r⟩
  · cases a
  · exact (rch_land ((r.2 q).mp hq)).elim (fun e => e ▸ mem_landList.mp hx) id
theorem WatersOf.in {ch : List Str} {R : List (List Sq)} (h : WatersOf ch R) : ∀ l ∈ R, ∀ q ∈ l, isWt ch q = true := fun l hl q hq => by
  rcases h.mem l hl with a | ⟨x, hx, r⟩
  · cases a
  · exact (rch_wt ((r.2 q).mp hq)).elim (fun e => e ▸ mem_waterList.mp hx) id
theorem Regs.srt {st : Sq → List Sq} {xs : List Sq} {R : List (List Sq)} (h : Regs st xs [] R) : ∀ l ∈ R, l.Pairwise ltQ := fun l hl => by
  rcases h.mem l hl with a | ⟨x, hx, r⟩
  · cases a
  · exact r.1
end Y

/-! rings: closed walks, inside and outside -/
namespace Y
open PySem PySem.Spec PyProof.Rows L2
section
variable {α β : Type}
def pairsFrom (a : α) : List α → List (α × α)
  | [] => []
  | x :: xs => (a, x) :: pairsFrom x xs
def lastD (a : α) : List α → α
  | [] => a
  | x :: xs => lastD x xs
/-- the steps of a closed walk: (the one before, this one), beginning with (last, first) -/
def cyc : List α → List (α × α)
  | [] => []
  | x :: xs => pairsFrom (lastD x xs) (x :: xs)
theorem lastD_mem {a : α} : ∀ {l : List α}, lastD a l ∈ a :: l
  | [] => List.mem_cons_self
  | x :: xs => List.mem_cons_of_mem _ (lastD_mem (a := x) (l := xs))
theorem lastD_map (f : α → β) : ∀ (a : α) (l : List α), f (lastD a l) = lastD (f a) (l.map f)
  | _, [] => rfl
  | _, x :: xs => lastD_map f x xs
theorem pairsFrom_map (f : α → β) : ∀ (a : α) (l : List α), (pairsFrom a l).map (fun p => (f p.1, f p.2)) = pairsFrom (f a) (l.map f)
  | _, [] => rfl
  | a, x :: xs => by
    show _ :: _ = _ :: _
    rw [pairsFrom_map f x xs]
theorem cyc_map (f : α → β) (l : List α) : (cyc l).map (fun p => (f p.1, f p.2)) = cyc (l.map f) := by
  cases l with
  | nil => rfl
  | cons x xs =>
    show (pairsFrom _ _).map _ = pairsFrom _ _
    rw [pairsFrom_map, lastD_map f]; rfl
theorem pairsFrom_mem {a : α} : ∀ {l : List α} {p : α × α}, p ∈ pairsFrom a l → (p.1 = a ∨ p.1 ∈ l) ∧ p.2 ∈ l
  | x :: xs, p, h => by
    rcases List.mem_cons.mp h with e | h
    · subst e; exact ⟨.inl rfl, List.mem_cons_self⟩
    · obtain ⟨h1, h2⟩ := pairsFrom_mem h
      exact ⟨.inr (h1.elim (fun e => e ▸ List.mem_cons_self) (List.mem_cons_of_mem _)), List.mem_cons_of_mem _ h2⟩
theorem cyc_mem {l : List α} {p : α × α} (h : p ∈ cyc l) : p.1 ∈ l ∧ p.2 ∈ l := by
  cases l with
  | nil => cases h
  | cons x xs =>
    obtain ⟨h1, h2⟩ := pairsFrom_mem h
    exact ⟨h1.elim (fun e => e ▸ lastD_mem) id, h2⟩
/-- a parity -/
def par (f : α → Bool) : List α → Bool
  | [] => false
  | x :: xs => xor (f x) (par f xs)
theorem par_map (f : β → Bool) (g : α → β) : ∀ l : List α, par f (l.map g) = par (fun x => f (g x)) l
  | [] => rfl
  | x :: xs => by show xor _ _ = xor _ _; rw [par_map f g xs]
theorem par_congr {f g : α → Bool} : ∀ {l : List α}, (∀ x ∈ l, f x = g x) → par f l = par g l
  | [], _ => rfl
  | x :: xs, h => by show xor _ _ = xor _ _; rw [h x List.mem_cons_self, par_congr fun y m => h y (List.mem_cons_of_mem _ m)]
theorem par_xor (f g : α → Bool) : ∀ l : List α, par (fun x => xor (f x) (g x)) l = xor (par f l) (par g l)
  | [] => rfl
  | x :: xs => by
    show xor (xor _ _) _ = xor (xor _ _) (xor _ _)
    rw [par_xor f g xs]
    cases f x <;> cases g x <;> cases par f xs <;> cases par g xs <;> rfl
theorem par_filter (f p : α → Bool) : ∀ l : List α, (∀ x ∈ l, p x = false → f x = false) → par f (l.filter p) = par f l
  | [], _ => rfl
  | x :: xs, h => by
    have ih := par_filter f p xs fun y m => h y (List.mem_cons_of_mem _ m)
    cases e : p x with
    | true => rw [List.filter_cons_of_pos e]; show xor _ _ = xor _ _; rw [ih]
    | false => rw [List.filter_cons_of_neg (by rw [e]; decide), ih]; show _ = xor _ _; rw [h x List.mem_cons_self e, Bool.false_xor]
theorem par_bd (A : α → Bool) : ∀ (a : α) (l : List α), par (fun p : α × α => xor (A p.1) (A p.2)) (pairsFrom a l) = xor (A a) (A (lastD a l))
  | a, [] => by show false = xor (A a) (A a); cases A a <;> rfl
  | a, x :: xs => by
    show xor (xor (A a) (A x)) (par _ (pairsFrom x xs)) = xor (A a) (A (lastD x xs))
    rw [par_bd A x xs]
    cases A a <;> cases A x <;> cases A (lastD x xs) <;> rfl
/-- a closed walk leaves a set as often as it enters it -/
theorem par_cyc (A : α → Bool) (l : List α) : par (fun p : α × α => xor (A p.1) (A p.2)) (cyc l) = false := by
  cases l with
  | nil => rfl
  | cons x xs =>
    unfold cyc
    rw [par_bd]
    show xor (A (lastD x xs)) (A (lastD x xs)) = false
    cases A (lastD x xs) <;> rfl
theorem par_none {f : α → Bool} : ∀ {l : List α}, (∀ x ∈ l, f x = false) → par f l = false
  | [], _ => rfl
  | x :: xs, h => by show xor _ _ = false; rw [h x List.mem_cons_self, par_none fun y m => h y (List.mem_cons_of_mem _ m)]; rfl
theorem par_one [DecidableEq α] {a : α} : ∀ {l : List α}, l.Nodup → a ∈ l → par (fun x => decide (x = a)) l = true
  | x :: xs, nd, h => by
    have h1 := List.nodup_cons.mp nd
    show xor (decide (x = a)) (par (fun x => decide (x = a)) xs) = true
    by_cases e : x = a
    · subst e
      rw [decide_eq_true (show x = x from rfl), par_none (f := fun y => decide (y = x)) fun y m => decide_eq_false fun e => h1.1 (by rw [← e]; exact m)]; rfl
    · rw [decide_eq_false e, par_one h1.2 ((List.mem_cons.mp h).resolve_left fun z => e z.symm)]; rfl
theorem firsts : ∀ (a : α) (l : List α), (pairsFrom a l).map (·.1) ++ [lastD a l] = a :: l
  | _, [] => rfl
  | a, x :: xs => by
    show a :: ((pairsFrom x xs).map (·.1) ++ [lastD x xs]) = _
    rw [firsts x xs]
theorem cyc_firsts {l : List α} : ((cyc l).map (·.1)).Perm l := by
  cases l with
  | nil => exact List.Perm.refl _
  | cons x xs =>
    show (lastD x xs :: (pairsFrom x xs).map (·.1)).Perm (x :: xs)
    rw [← firsts x xs]
    exact List.perm_append_comm (l₁ := [_])
/-- without those that are equal to the one before -/
def dedF [DecidableEq α] (a : α) : List α → List α
  | [] => []
  | x :: xs => if x = a then dedF a xs else x :: dedF x xs
theorem dedF_pairs [DecidableEq α] : ∀ (a : α) (l : List α), pairsFrom a (dedF a l) = (pairsFrom a l).filter fun p => !decide (p.2 = p.1)
  | _, [] => rfl
  | a, x :: xs => by
    show pairsFrom a (if x = a then dedF a xs else x :: dedF x xs) = ((a, x) :: pairsFrom x xs).filter fun p => !decide (p.2 = p.1)
    by_cases e : x = a
    · subst e
      rw [if_pos rfl, List.filter_cons_of_neg (by simp)]
      exact dedF_pairs x xs
    · rw [if_neg e, List.filter_cons_of_pos (by simp [e])]
      show _ :: _ = _ :: _
      rw [dedF_pairs x xs]
theorem dedF_last [DecidableEq α] : ∀ (a : α) (l : List α), lastD a (dedF a l) = lastD a l
  | _, [] => rfl
  | a, x :: xs => by
    show lastD a (if x = a then dedF a xs else x :: dedF x xs) = lastD x xs
    by_cases e : x = a
    · subst e
      rw [if_pos rfl]
      exact dedF_last x xs
    · rw [if_neg e]
      exact dedF_last x xs
def dedC [DecidableEq α] : List α → List α
  | [] => []
  | x :: xs => dedF (lastD x xs) (x :: xs)
theorem dedC_cyc [DecidableEq α] (l : List α) : cyc (dedC l) = (cyc l).filter fun p => !decide (p.2 = p.1) := by
  cases l with
  | nil => rfl
  | cons x xs =>
    show cyc (dedF (lastD x xs) (x :: xs)) = (pairsFrom (lastD x xs) (x :: xs)).filter _
    rw [← dedF_pairs]
    have h := dedF_last (lastD x xs) (x :: xs)
    cases e : dedF (lastD x xs) (x :: xs) with
    | nil => rfl
    | cons y ys =>
      rw [e] at h
      show pairsFrom (lastD y ys) (y :: ys) = pairsFrom (lastD x xs) (y :: ys)
      rw [show lastD y ys = lastD x xs from h]
end
/-! inside -/
def rightB (x : Sq) (s : Sq × Sq) : Bool := (decide (s.1.1 = x.1) && decide (s.2.1 = x.1 + 1) && decide (x.2 < s.1.2)) || (decide (s.2.1 = x.1) && decide (s.1.1 = x.1 + 1) && decide (x.2 < s.2.2))
def insB (R : List Sq) (x : Sq) : Bool := par (rightB x) (cyc R)
theorem rightB_iff {x : Sq} {s : Sq × Sq} : rightB x s = true ↔ (s.1.1 = x.1 ∧ s.2.1 = x.1 + 1 ∧ x.2 < s.1.2) ∨ (s.2.1 = x.1 ∧ s.1.1 = x.1 + 1 ∧ x.2 < s.2.2) := by
  unfold rightB
  simp only [Bool.or_eq_true, Bool.and_eq_true, decide_eq_true_eq]
  constructor
  · rintro (⟨⟨a, b⟩, c⟩ | ⟨⟨a, b⟩, c⟩)
    · exact .inl ⟨a, b, c⟩
    · exact .inr ⟨a, b, c⟩
  · rintro (⟨a, b, c⟩ | ⟨a, b, c⟩)
    · exact .inl ⟨⟨a, b⟩, c⟩
    · exact .inr ⟨⟨a, b⟩, c⟩
/-- a king's step or none -/
def King (p q : Sq) : Prop := p.1 - 1 ≤ q.1 ∧ q.1 ≤ p.1 + 1 ∧ p.2 - 1 ≤ q.2 ∧ q.2 ≤ p.2 + 1
end Y

/-! shores: the ring around a land -/
namespace Y
open PySem PySem.Spec PyProof.Rows L2
abbrev Shore := Sq × Sq
def nxSh (ld : Sq → Bool) (s : Shore) : Shore :=
  let d1 := s.2.2 - s.1.2
  let d2 := s.1.1 - s.2.1
  let bl : Sq := (s.1.1 + d1, s.1.2 + d2)
  let bw : Sq := (s.2.1 + d1, s.2.2 + d2)
  if !ld bl then (s.1, bl) else if !ld bw then (bl, bw) else (bw, s.2)
/-- a shore -/
structure Sh (ld : Sq → Bool) (s : Shore) : Prop where
  l : ld s.1 = true
  w : ld s.2 = false
  b : s.2 ∈ sides s.1
theorem mem_sides {p q : Sq} : q ∈ sides p ↔ (q.1 = p.1 - 1 ∧ q.2 = p.2) ∨ (q.1 = p.1 ∧ q.2 = p.2 - 1) ∨ (q.1 = p.1 ∧ q.2 = p.2 + 1) ∨ (q.1 = p.1 + 1 ∧ q.2 = p.2) := by
  obtain ⟨a, b⟩ := p
  obtain ⟨c, d⟩ := q
  unfold sides
  simp only [List.mem_cons, List.not_mem_nil, or_false, Prod.mk.injEq]
/-- where a shore leads: the three turns -/
theorem nxSh_cases {ld : Sq → Bool} {s : Shore} (h : Sh ld s) :
    let t := nxSh ld s
    Sh ld t ∧ ((t.1 = s.1 ∧ t.2.1 = s.1.1 + (s.2.2 - s.1.2) ∧ t.2.2 = s.1.2 + (s.1.1 - s.2.1)) ∨
      (t.1.1 = s.1.1 + (s.2.2 - s.1.2) ∧ t.1.2 = s.1.2 + (s.1.1 - s.2.1) ∧ t.2.1 = s.2.1 + (s.2.2 - s.1.2) ∧ t.2.2 = s.2.2 + (s.1.1 - s.2.1)) ∨
      (t.2 = s.2 ∧ t.1.1 = s.2.1 + (s.2.2 - s.1.2) ∧ t.1.2 = s.2.2 + (s.1.1 - s.2.1) ∧ ld (s.1.1 + (s.2.2 - s.1.2), s.1.2 + (s.1.1 - s.2.1)) = true)) := by
  have hb := mem_sides.mp h.b
  unfold nxSh
  dsimp only
  cases e1 : ld (s.1.1 + (s.2.2 - s.1.2), s.1.2 + (s.1.1 - s.2.1)) with
  | false =>
    simp only [Bool.not_false, if_true]
    exact ⟨⟨h.l, e1, mem_sides.mpr (by dsimp only; omega)⟩, .inl ⟨trivial, trivial, trivial⟩⟩
  | true =>
    simp only [Bool.not_true, if_false, Bool.false_eq_true]
    cases e2 : ld (s.2.1 + (s.2.2 - s.1.2), s.2.2 + (s.1.1 - s.2.1)) with
    | false =>
      simp only [Bool.not_false, if_true]
      exact ⟨⟨e1, e2, mem_sides.mpr (by dsimp only; omega)⟩, .inr (.inl ⟨trivial, trivial, trivial, trivial⟩)⟩
    | true =>
      simp only [Bool.not_true, if_false, Bool.false_eq_true]
      exact ⟨⟨e2, h.w, mem_sides.mpr (by dsimp only; omega)⟩, .inr (.inr ⟨trivial, trivial, trivial, trivial⟩)⟩
/-- a shore is what the one behind it says -/
theorem nxSh_inj {ld : Sq → Bool} {s t : Shore} (hs : Sh ld s) (ht : Sh ld t) (h : nxSh ld s = nxSh ld t) : s = t := by
  have a := (nxSh_cases hs).2
  have b := (nxSh_cases ht).2
  rw [← h] at b
  have hu := (nxSh_cases hs).1
  have sb := mem_sides.mp hs.b
  have tb := mem_sides.mp ht.b
  have ls := hs.l
  have ws := hs.w
  have lt := ht.l
  have wt := ht.w
  revert a b hu
  generalize nxSh ld s = u
  intro a b hu
  have ub := mem_sides.mp hu.b
  have lu := hu.l
  have wu := hu.w
  obtain ⟨⟨s11, s12⟩, s21, s22⟩ := s
  obtain ⟨⟨t11, t12⟩, t21, t22⟩ := t
  obtain ⟨⟨u11, u12⟩, u21, u22⟩ := u
  dsimp only at *
  have no : ∀ {a b c d : Int}, ld (a, b) = true → ld (c, d) = false → a = c → b = d → False := fun hp hq e1 e2 => by
    rw [e1, e2, hq] at hp; cases hp
  simp only [Prod.mk.injEq] at a b ⊢
  rcases a with a | a | a <;> rcases b with b | b | b
  · omega
  · exact (no lt ws (by omega) (by omega)).elim
  · exact (no b.2.2.2 ws (by omega) (by omega)).elim
  · exact (no ls wt (by omega) (by omega)).elim
  · omega
  · exact (no lt ws (by omega) (by omega)).elim
  · exact (no a.2.2.2 wt (by omega) (by omega)).elim
  · exact (no ls wt (by omega) (by omega)).elim
  · omega
end Y

/-! the ring around a land has it inside -/
namespace Y
open PySem PySem.Spec PyProof.Rows L2
def stp (ld : Sq → Bool) (q : Sq) : List Sq := (sides q).filter ld
structure Orb (ld : Sq → Bool) (s0 : Shore) (O : List Shore) : Prop where
  nd : O.Nodup
  mem : s0 ∈ O
  sh : ∀ s ∈ O, Sh ld s
  nx : ∀ p ∈ cyc O, p.2 = nxSh ld p.1
  con : ∀ s ∈ O, Rch (stp ld) s0.1 s.1
theorem seconds {α : Type} : ∀ (a : α) (l : List α), (pairsFrom a l).map (·.2) = l
  | _, [] => rfl
  | a, x :: xs => by show x :: _ = _; rw [seconds x xs]
theorem cyc_seconds {α : Type} (l : List α) : (cyc l).map (·.2) = l := by
  cases l with
  | nil => rfl
  | cons x xs => exact seconds _ _
theorem sh_con {ld : Sq → Bool} {s : Shore} (h : Sh ld s) : Rch (stp ld) s.1 (nxSh ld s).1 := by
  obtain ⟨ht, c⟩ := nxSh_cases h
  have hb := mem_sides.mp h.b
  revert ht c
  generalize nxSh ld s = t
  intro ht c
  rcases c with c | c | c
  · rw [c.1]; exact .refl
  · exact Rch.one (List.mem_filter.mpr ⟨mem_sides.mpr (by omega), ht.l⟩)
  · exact .step (Rch.one (List.mem_filter.mpr ⟨mem_sides.mpr (by dsimp only; omega), c.2.2.2⟩)) (List.mem_filter.mpr ⟨mem_sides.mpr (by dsimp only; omega), ht.l⟩)
theorem king_nx {ld : Sq → Bool} {s : Shore} (h : Sh ld s) : King s.2 (nxSh ld s).2 := by
  obtain ⟨ht, c⟩ := nxSh_cases h
  have hb := mem_sides.mp h.b
  revert ht c
  generalize nxSh ld s = t
  intro ht c
  unfold King
  rcases c with c | c | c
  · omega
  · omega
  · rw [c.1]; omega
theorem par3 {α : Type} (f g h : α → Bool) (l : List α) : par (fun x => xor (f x) (xor (g x) (h x))) l = xor (par f l) (xor (par g l) (par h l)) := by
  rw [par_xor f (fun x => xor (g x) (h x)) l, par_xor g h l]
def ringOf (O : List Shore) : List Sq := dedC (O.map (·.2))
section
variable {ld : Sq → Bool} {s0 : Shore} {O : List Shore} (o : Orb ld s0 O)
include o
theorem Orb.cyc_ring : cyc (ringOf O) = ((cyc O).map fun p => (p.1.2, p.2.2)).filter fun p => !decide (p.2 = p.1) := by
  unfold ringOf
  rw [dedC_cyc, ← cyc_map (fun s : Shore => s.2)]
theorem Orb.step {p : Sq × Sq} (h : p ∈ cyc (ringOf O)) : King p.1 p.2 ∧ p.2 ≠ p.1 := by
  rw [o.cyc_ring] at h
  obtain ⟨h1, h2⟩ := List.mem_filter.mp h
  obtain ⟨q, hq, rfl⟩ := List.mem_map.mp h1
  refine ⟨?_, of_decide_eq_false (by rwa [Bool.not_eq_true'] at h2)⟩
  have e := o.nx q hq
  show King q.1.2 q.2.2
  rw [e]
  exact king_nx (o.sh _ (cyc_mem hq).1)
end
/-- the first square of a land -/
structure First (ld : Sq → Bool) (l0 : Sq) : Prop where
  l : ld l0 = true
  min : ∀ q, Rch (stp ld) l0 q → l0.1 < q.1 ∨ (l0.1 = q.1 ∧ l0.2 ≤ q.2)
section
variable {ld : Sq → Bool} {l0 : Sq} {O : List Shore} (f : First ld l0) (o : Orb ld (l0, (l0.1 - 1, l0.2)) O)
include f o
theorem Orb.only {s : Shore} (hs : s ∈ O) (h1 : s.2.1 = l0.1 - 1) (h2 : s.2.2 = l0.2) : s = (l0, (l0.1 - 1, l0.2)) := by
  have hb := mem_sides.mp (o.sh s hs).b
  have hm := f.min _ (o.con s hs)
  obtain ⟨⟨a, b⟩, c, d⟩ := s
  obtain ⟨r, k⟩ := l0
  simp only [Prod.mk.injEq] at *
  omega
theorem Orb.first_sh : Sh ld (l0, (l0.1 - 1, l0.2)) := o.sh _ o.mem
theorem Orb.left_water : ld (l0.1, l0.2 - 1) = false := by
  cases e : ld (l0.1, l0.2 - 1) with
  | false => rfl
  | true =>
    have := f.min _ (Rch.one (List.mem_filter.mpr ⟨mem_sides.mpr (by dsimp only; omega), e⟩))
    dsimp only at this
    omega
theorem Orb.left_sh : Sh ld (l0, (l0.1, l0.2 - 1)) := ⟨f.l, o.left_water f, mem_sides.mpr (by dsimp only; omega)⟩
theorem Orb.left_nx : nxSh ld (l0, (l0.1, l0.2 - 1)) = (l0, (l0.1 - 1, l0.2)) := by
  have hw := (o.first_sh f).w
  unfold nxSh
  dsimp only at hw ⊢
  have e : ld (l0.1 + (l0.2 - 1 - l0.2), l0.2 + (l0.1 - l0.1)) = false := by
    rw [show l0.1 + (l0.2 - 1 - l0.2) = l0.1 - 1 by omega, show l0.2 + (l0.1 - l0.1) = l0.2 by omega]; exact hw
  rw [e]
  simp only [Bool.not_false, if_true, Prod.mk.injEq, true_and]
  omega
/-- what stands behind the square above the first -/
theorem Orb.succ : ((nxSh ld (l0, (l0.1 - 1, l0.2))).2.1 = l0.1 ∨ (nxSh ld (l0, (l0.1 - 1, l0.2))).2.1 = l0.1 - 1) ∧ (nxSh ld (l0, (l0.1 - 1, l0.2))).2.2 = l0.2 + 1 := by
  have hs := o.first_sh f
  obtain ⟨ht, c⟩ := nxSh_cases hs
  have hc := sh_con hs
  have hm := f.min _ hc
  revert ht c hm
  generalize nxSh ld (l0, (l0.1 - 1, l0.2)) = t
  intro ht c hm
  dsimp only at c
  rcases c with c | c | c
  · omega
  · omega
  · omega
theorem Orb.before_first {p : Shore × Shore} (hp : p ∈ cyc O) (h : p.2 = (l0, (l0.1 - 1, l0.2))) : p.1 = (l0, (l0.1, l0.2 - 1)) := by
  have e := o.nx p hp
  rw [h, ← o.left_nx f] at e
  exact (nxSh_inj (o.left_sh f) (o.sh _ (cyc_mem hp).1) e).symm
theorem Orb.parity {p : Shore × Shore} (hp : p ∈ cyc O) : rightB l0 (p.1.2, p.2.2) = xor (xor (decide (p.1.2.1 = l0.1 - 1 ∧ l0.2 < p.1.2.2)) (decide (p.2.2.1 = l0.1 - 1 ∧ l0.2 < p.2.2.2))) (xor (xor (decide (p.1.2.1 = l0.1 ∧ l0.2 < p.1.2.2)) (decide (p.2.2.1 = l0.1 ∧ l0.2 < p.2.2.2))) (decide (p.1 = (l0, (l0.1 - 1, l0.2))))) := by
  obtain ⟨m1, m2⟩ := cyc_mem hp
  have s1 := o.sh _ m1
  have s2 := o.sh _ m2
  have b1 := mem_sides.mp s1.b
  have b2 := mem_sides.mp s2.b
  have g1 := f.min _ (o.con _ m1)
  have g2 := f.min _ (o.con _ m2)
  have k : King p.1.2 p.2.2 := by rw [o.nx p hp]; exact king_nx s1
  unfold King at k
  have ne : ∀ {q : Sq}, ld q = false → ¬ (q.1 = l0.1 ∧ q.2 = l0.2) := fun hq e => by
    have : _ = l0 := Prod.ext e.1 e.2
    rw [this, f.l] at hq; cases hq
  have n1 := ne s1.w
  have n2 := ne s2.w
  have fin : ∀ c : Bool, (¬ c = true → ¬ (p.1.2.1 = l0.1 - 1 ∧ p.1.2.2 = l0.2) ∧ (¬ (p.2.2.1 = l0.1 - 1 ∧ p.2.2.2 = l0.2) ∨ (p.1.2.1 = l0.1 ∧ p.1.2.2 = l0.2 - 1 ∧ p.2.2.1 = l0.1 - 1 ∧ p.2.2.2 = l0.2))) → (c = true → p.1.2.1 = l0.1 - 1 ∧ p.1.2.2 = l0.2 ∧ (p.2.2.1 = l0.1 ∨ p.2.2.1 = l0.1 - 1) ∧ p.2.2.2 = l0.2 + 1) →
      rightB l0 (p.1.2, p.2.2) = xor (xor (decide (p.1.2.1 = l0.1 - 1 ∧ l0.2 < p.1.2.2)) (decide (p.2.2.1 = l0.1 - 1 ∧ l0.2 < p.2.2.2))) (xor (xor (decide (p.1.2.1 = l0.1 ∧ l0.2 < p.1.2.2)) (decide (p.2.2.1 = l0.1 ∧ l0.2 < p.2.2.2))) c) := by
    intro c hc0 hc1
    have hr := rightB_iff (x := l0) (s := (p.1.2, p.2.2))
    dsimp only at hr
    cases c with
    | true =>
      have hc1 := hc1 rfl
      cases e : rightB l0 (p.1.2, p.2.2) <;> rw [e] at hr <;>
        by_cases a1 : (p.1.2.1 = l0.1 - 1 ∧ l0.2 < p.1.2.2) <;> by_cases a2 : (p.2.2.1 = l0.1 - 1 ∧ l0.2 < p.2.2.2) <;> by_cases a3 : (p.1.2.1 = l0.1 ∧ l0.2 < p.1.2.2) <;> by_cases a4 : (p.2.2.1 = l0.1 ∧ l0.2 < p.2.2.2) <;>
        first
          | ((first | rw [decide_eq_true a1] | rw [decide_eq_false a1]); (first | rw [decide_eq_true a2] | rw [decide_eq_false a2]); (first | rw [decide_eq_true a3] | rw [decide_eq_false a3]); (first | rw [decide_eq_true a4] | rw [decide_eq_false a4]); rfl)
          | (exfalso; simp only [true_iff, Bool.false_eq_true, false_iff] at hr; omega)
    | false =>
      have hc0 := hc0 (by decide)
      cases e : rightB l0 (p.1.2, p.2.2) <;> rw [e] at hr <;>
        by_cases a1 : (p.1.2.1 = l0.1 - 1 ∧ l0.2 < p.1.2.2) <;> by_cases a2 : (p.2.2.1 = l0.1 - 1 ∧ l0.2 < p.2.2.2) <;> by_cases a3 : (p.1.2.1 = l0.1 ∧ l0.2 < p.1.2.2) <;> by_cases a4 : (p.2.2.1 = l0.1 ∧ l0.2 < p.2.2.2) <;>
        first
          | ((first | rw [decide_eq_true a1] | rw [decide_eq_false a1]); (first | rw [decide_eq_true a2] | rw [decide_eq_false a2]); (first | rw [decide_eq_true a3] | rw [decide_eq_false a3]); (first | rw [decide_eq_true a4] | rw [decide_eq_false a4]); rfl)
          | (exfalso; simp only [true_iff, Bool.false_eq_true, false_iff] at hr; omega)
  refine fin _ (fun hn => ?_) (fun hy => ?_)
  · rw [decide_eq_true_eq] at hn
    refine ⟨fun e => hn (o.only f m1 e.1 e.2), ?_⟩
    by_cases e : p.2.2.1 = l0.1 - 1 ∧ p.2.2.2 = l0.2
    · have := o.before_first f hp (o.only f m2 e.1 e.2)
      rw [this]
      exact .inr ⟨rfl, rfl, e.1, e.2⟩
    · exact .inl e
  · have e := of_decide_eq_true hy
    have h1 := o.succ f
    have h2 := o.nx p hp
    rw [e] at h2
    rw [← h2] at h1
    rw [e]
    exact ⟨rfl, rfl, h1.1, h1.2⟩
/-- the land is inside -/
theorem Orb.inside : insB (ringOf O) l0 = true := by
  unfold insB
  have hf : ∀ p ∈ (cyc O).map (fun p => (p.1.2, p.2.2)), (!decide (p.2 = p.1)) = false → rightB l0 p = false := fun p _ hp => by
    rw [Bool.not_eq_false', decide_eq_true_eq] at hp
    rw [← Bool.not_eq_true, rightB_iff, hp]
    omega
  rw [o.cyc_ring, par_filter _ _ _ hf, par_map, par_congr fun p hp => o.parity f hp]
  have h1 : par (fun p : Shore × Shore => xor (decide (p.1.2.1 = l0.1 - 1 ∧ l0.2 < p.1.2.2)) (decide (p.2.2.1 = l0.1 - 1 ∧ l0.2 < p.2.2.2))) (cyc O) = false := par_cyc (fun s : Shore => decide (s.2.1 = l0.1 - 1 ∧ l0.2 < s.2.2)) O
  have h2 : par (fun p : Shore × Shore => xor (decide (p.1.2.1 = l0.1 ∧ l0.2 < p.1.2.2)) (decide (p.2.2.1 = l0.1 ∧ l0.2 < p.2.2.2))) (cyc O) = false := par_cyc (fun s : Shore => decide (s.2.1 = l0.1 ∧ l0.2 < s.2.2)) O
  have h3 : par (fun p : Shore × Shore => decide (p.1 = (l0, (l0.1 - 1, l0.2)))) (cyc O) = true := by
    rw [← par_map (fun s : Shore => decide (s = (l0, (l0.1 - 1, l0.2)))) (fun p : Shore × Shore => p.1)]
    exact par_one (cyc_firsts.nodup_iff.mpr o.nd) (cyc_firsts.mem_iff.mpr o.mem)
  refine (par3 (fun p : Shore × Shore => xor (decide (p.1.2.1 = l0.1 - 1 ∧ l0.2 < p.1.2.2)) (decide (p.2.2.1 = l0.1 - 1 ∧ l0.2 < p.2.2.2))) (fun p : Shore × Shore => xor (decide (p.1.2.1 = l0.1 ∧ l0.2 < p.1.2.2)) (decide (p.2.2.1 = l0.1 ∧ l0.2 < p.2.2.2))) (fun p : Shore × Shore => decide (p.1 = (l0, (l0.1 - 1, l0.2)))) (cyc O)).trans ?_
  rw [h1, h2, h3]
  rfl
end
/-! the ring is a ring -/
section
variable {ld : Sq → Bool} {l0 : Sq} {O : List Shore} (f : First ld l0) (o : Orb ld (l0, (l0.1 - 1, l0.2)) O)
include f o
theorem Orb.long : 4 ≤ (ringOf O).length := by
  have hc := o.cyc_ring
  have in1 : ∀ {p : Shore × Shore}, p ∈ cyc O → p.2.2 ≠ p.1.2 → p.1.2 ∈ ringOf O ∧ p.2.2 ∈ ringOf O := fun {p} hp hne => by
    have : (p.1.2, p.2.2) ∈ cyc (ringOf O) := by
      rw [hc]
      exact List.mem_filter.mpr ⟨List.mem_map.mpr ⟨p, hp, rfl⟩, by rw [decide_eq_false hne]; rfl⟩
    exact cyc_mem this
  -- the one before
  obtain ⟨p, hp, ep⟩ : ∃ p ∈ cyc O, p.2 = (l0, (l0.1 - 1, l0.2)) := by
    have : (l0, (l0.1 - 1, l0.2)) ∈ (cyc O).map (·.2) := by rw [cyc_seconds]; exact o.mem
    obtain ⟨p, hp, e⟩ := List.mem_map.mp this
    exact ⟨p, hp, e⟩
  have ep1 := o.before_first f hp ep
  have w := in1 hp (by rw [ep, ep1]; intro e; injection e; omega)
  rw [ep, ep1] at w
  -- the one behind
  obtain ⟨q, hq, eq⟩ : ∃ q ∈ cyc O, q.1 = (l0, (l0.1 - 1, l0.2)) := by
    have : (l0, (l0.1 - 1, l0.2)) ∈ (cyc O).map (·.1) := cyc_firsts.mem_iff.mpr o.mem
    obtain ⟨p, hp, e⟩ := List.mem_map.mp this
    exact ⟨p, hp, e⟩
  have eq2 := o.nx q hq
  have hs := o.succ f
  rw [eq] at eq2
  rw [← eq2] at hs
  have v := in1 hq (by rw [eq]; intro e; rw [e] at hs; dsimp only at hs; omega)
  -- one below
  have hi := o.inside f
  obtain ⟨s, hs2, e3⟩ : ∃ s ∈ cyc (ringOf O), rightB l0 s = true := by
    by_cases h : ∃ s ∈ cyc (ringOf O), rightB l0 s = true
    · exact h
    · have : insB (ringOf O) l0 = false := par_none fun s hs => by
        rw [← Bool.not_eq_true]; exact fun e => h ⟨s, hs, e⟩
      rw [this] at hi; cases hi
  obtain ⟨c1, c2⟩ := cyc_mem hs2
  have hb := rightB_iff.mp e3
  obtain ⟨z, hz, ez⟩ : ∃ z ∈ ringOf O, z.1 = l0.1 + 1 := by
    rcases hb with h | h
    · exact ⟨s.2, c2, h.2.1⟩
    · exact ⟨s.1, c1, h.2.1⟩
  have key : [(l0.1 - 1, l0.2), (l0.1, l0.2 - 1), q.2.2, z].length ≤ (ringOf O).length := by
    refine nodup_le ?_ fun x hx => ?_
    · simp only [List.nodup_cons, List.mem_cons, List.not_mem_nil, or_false, not_or, not_false_iff, List.nodup_nil, and_true]
      refine ⟨⟨fun e => by injection e; omega, fun e => by rw [← e] at hs; dsimp only at hs; omega, fun e => by rw [← e] at ez; dsimp only at ez; omega⟩, ⟨fun e => by rw [← e] at hs; dsimp only at hs; omega, fun e => by rw [← e] at ez; dsimp only at ez; omega⟩, fun e => by rw [e, ez] at hs; omega⟩
    · simp only [List.mem_cons, List.not_mem_nil, or_false] at hx
      rcases hx with e | e | e | e <;> subst e
      · exact w.2
      · exact w.1
      · exact v.2
      · exact hz
  exact key
end
end Y

/-! rings and ways: the defs of the program as models, and what they give -/
namespace Y
open PySem PySem.Spec PyProof.Rows L2
/-! ### the steps of a closed walk by places -/
section
variable {α : Type} [Inhabited α]
theorem pairsFrom_get : ∀ (a : α) (l : List α) (i : Nat), i < l.length → (pairsFrom a l)[i]? = some ((a :: l).getD i default, l.getD i default)
  | a, [], i, h => by cases h
  | a, x :: xs, 0, h => rfl
  | a, x :: xs, i + 1, h => by
    show (pairsFrom x xs)[i]? = _
    rw [pairsFrom_get x xs i (by simpa using h)]
    rfl
theorem lastD_get : ∀ (a : α) (l : List α), lastD a l = (a :: l).getD l.length default
  | _, [] => rfl
  | a, x :: xs => by
    show lastD x xs = (x :: xs).getD xs.length default
    exact lastD_get x xs
theorem ixD_getD {l : List α} {i : Nat} (h : i < l.length) : ixD l (i : Int) = l.getD i default := by
  rw [ixD_nat h]; simp [h]
theorem ixD_last {x : α} {xs : List α} : ixD (x :: xs) (-1) = lastD x xs := by
  rw [lastD_get]
  unfold ixD atI ixN
  rw [if_neg (by omega), if_pos (by rw [List.length_cons]; omega)]
  have e : (-1 + (((x :: xs).length : Nat) : Int)).toNat = xs.length := by rw [List.length_cons]; omega
  have e2 : ((((x :: xs).length : Nat) : Int) + -1).toNat = xs.length := by rw [List.length_cons]; omega
  first | rw [e] | rw [e2]
  simp [List.getD]
end
/-! ### rings -/
theorem Is.lt {a b : WP Int} {x y : Int} (h : Is a x) (h' : Is b y) : Is (WP.lt a b) (decide (x < y)) := h.bind (h'.bind Is.pure)
theorem Is.gt {a b : WP Int} {x y : Int} (h : Is a x) (h' : Is b y) : Is (WP.gt a b) (decide (y < x)) := h.bind (h'.bind Is.pure)
theorem Is.all {w : WP (List Bool)} {bs : List Bool} (h : Is w bs) : Is (WP.all w) (bs.all id) := h.bind Is.pure
end Y

/-! ways and rings: what the searches give -/
namespace Y
open PySem PySem.Spec PyProof.Rows L2
theorem pairsFrom_snoc {α : Type} : ∀ (a : α) (l : List α) (x : α), pairsFrom a (l ++ [x]) = pairsFrom a l ++ [(lastD a l, x)]
  | _, [], _ => rfl
  | a, y :: ys, x => by show (a, y) :: pairsFrom y (ys ++ [x]) = (a, y) :: pairsFrom y ys ++ [(lastD y ys, x)]; rw [pairsFrom_snoc y ys x]; rfl
theorem lastD_snoc {α : Type} : ∀ (a : α) (l : List α) (x : α), lastD a (l ++ [x]) = x
  | _, [], _ => rfl
  | _, y :: ys, x => lastD_snoc y ys x
/-- on the way round -/
structure Pre (ld : Sq → Bool) (s0 : Shore) (t : List Shore) (x : Shore) : Prop where
  nd : (s0 :: t).Nodup
  sh : ∀ s ∈ s0 :: t, Sh ld s
  nx : ∀ p ∈ pairsFrom s0 t, p.2 = nxSh ld p.1
  con : ∀ s ∈ s0 :: t, Rch (stp ld) s0.1 s.1
  cur : x = nxSh ld (lastD s0 t)
theorem Pre.step {ld : Sq → Bool} {s0 x : Shore} {t : List Shore} (p : Pre ld s0 t x) (h : x ≠ s0) : Pre ld s0 (t ++ [x]) (nxSh ld x) := by
  have hl := p.sh _ (lastD_mem (a := s0) (l := t))
  have hx : x ∉ s0 :: t := fun hm => by
    rcases List.mem_cons.mp hm with e | hm
    · exact h e
    · have hs : x ∈ (pairsFrom s0 t).map (·.2) := by rw [seconds]; exact hm
      obtain ⟨q, hq, e⟩ := List.mem_map.mp hs
      have m1 : q.1 ∈ s0 :: t := by
        rcases (pairsFrom_mem hq).1 with e | e
        · rw [e]; exact List.mem_cons_self
        · exact List.mem_cons_of_mem _ e
      have e2 := p.nx q hq
      have : q.1 = lastD s0 t := nxSh_inj (p.sh _ m1) hl (by rw [← e2, ← p.cur]; exact e)
      have nd := p.nd
      rw [← firsts s0 t, List.nodup_append] at nd
      exact nd.2.2 q.1 (List.mem_map.mpr ⟨q, hq, rfl⟩) (lastD s0 t) List.mem_cons_self this
  have hsx : Sh ld x := by rw [p.cur]; exact (nxSh_cases hl).1
  refine ⟨?_, fun s hs => ?_, fun q hq => ?_, fun s hs => ?_, by rw [lastD_snoc]⟩
  · rw [← List.cons_append, List.nodup_append]
    exact ⟨p.nd, by simp, fun a ha b hb e => hx (by simp at hb; rw [← hb, ← e]; exact ha)⟩
  · rw [← List.cons_append] at hs
    rcases List.mem_append.mp hs with hs | hs
    · exact p.sh s hs
    · simp at hs; rw [hs]; exact hsx
  · rw [pairsFrom_snoc] at hq
    rcases List.mem_append.mp hq with hq | hq
    · exact p.nx q hq
    · simp at hq; subst hq; exact p.cur
  · rw [← List.cons_append] at hs
    rcases List.mem_append.mp hs with hs | hs
    · exact p.con s hs
    · simp at hs; rw [hs, p.cur]
      exact (p.con _ (lastD_mem (a := s0) (l := t))).trans (sh_con hl)
end Y

/-! ways -/
namespace Y
open PySem PySem.Spec PyProof.Rows L2
/-- a way from a to b -/
def Way (st : Sq → List Sq) (a b : Sq) (w : List Sq) : Prop := ∃ t, w = a :: t ∧ lastD a t = b ∧ ∀ p ∈ pairsFrom a t, p.2 ∈ st p.1
/-! the papers of ways -/
theorem Way.ix {st : Sq → List Sq} {a b : Sq} {w : List Sq} (h : Way st a b w) : 0 < w.length ∧ ixD w 0 = a ∧ ixD w (-1) = b ∧ ∀ k : Int, 1 ≤ k → k < w.length → ixD w k ∈ st (ixD w (k - 1)) := by
  obtain ⟨t, rfl, e, hp⟩ := h
  refine ⟨by simp, ixD_nat (xs := a :: t) (i := 0) (by simp), by rw [ixD_last]; exact e, fun k h1 h2 => ?_⟩
  obtain ⟨i, rfl⟩ : ∃ i : Nat, k = ((i + 1 : Nat) : Int) := ⟨(k - 1).toNat, by omega⟩
  rw [List.length_cons] at h2
  have hi : i < t.length := by omega
  have e1 : (((i + 1 : Nat) : Int)) - 1 = (i : Int) := by omega
  have g := pairsFrom_get a t i hi
  have := hp _ (List.mem_of_getElem? g)
  rw [e1, ixD_getD (by rw [List.length_cons]; omega), ixD_getD (by rw [List.length_cons]; omega)]
  exact this
theorem Way.ld {ch : List Str} {a b : Sq} {w : List Sq} (h : Way (ldBeside ch) a b w) (ha : isLd ch a = true) : ∀ q ∈ w, isLd ch q = true := by
  obtain ⟨t, rfl, e, hp⟩ := h
  intro q hq
  rcases List.mem_cons.mp hq with e | hq
  · rw [e]; exact ha
  · have hs : q ∈ (pairsFrom a t).map (·.2) := by rw [seconds]; exact hq
    obtain ⟨r, hr, e⟩ := List.mem_map.mp hs
    rw [← e]; exact (List.mem_filter.mp (hp r hr)).2
end Y

/-! step papers -/
namespace Y
open PySem PySem.Spec PyProof.Rows L2
theorem sides_is (q : Sq) : Is (law_sidesM q) (sides q) := side_neighbours_is q
end Y

/-! dicts with nested keys, plain; tides; late papers -/
namespace Y
open PySem PySem.Spec L2
theorem Is.run {α : Type} {w : WP α} {a : α} {n : Nat} {Q : Nat → α → Prop} (h : Is w a) (q : Q n a) : w.run n Q := h n Q q
section
variable {κ β : Type} [DecidableEq κ]
theorem lookN_mem {kvs : List (κ × β)} (nd : (kvs.map (·.1)).Nodup) {q : κ} {d : β} (h : (q, d) ∈ kvs) : lookN kvs q = some d := by
  unfold lookN
  induction kvs with
  | nil => cases h
  | cons a as ih =>
    rw [List.map_cons, List.nodup_cons] at nd
    by_cases hq : a.1 = q
    · rw [List.find?_cons_of_pos (by simpa using hq)]
      rcases List.mem_cons.mp h with e | e
      · rw [← e]; rfl
      · exact absurd (List.mem_map.mpr ⟨_, e, rfl⟩) (by rw [← hq]; exact nd.1)
    · rw [List.find?_cons_of_neg (by simpa using hq)]
      rcases List.mem_cons.mp h with e | e
      · exact absurd (by rw [← e]) hq
      · exact ih nd.2 e
theorem lookN_none {kvs : List (κ × β)} {q : κ} (h : q ∉ kvs.map (·.1)) : lookN kvs q = none := by
  unfold lookN
  rw [List.find?_eq_none.mpr]; · rfl
  intro x m e
  exact h (List.mem_map.mpr ⟨x, m, by simpa using e⟩)
theorem lookN_some {kvs : List (κ × β)} {q : κ} {d : β} (h : lookN kvs q = some d) : (q, d) ∈ kvs := by
  unfold lookN at h
  cases e : kvs.find? fun p => decide (p.1 = q) with
  | none => rw [e] at h; cases h
  | some p =>
    rw [e] at h
    have h1 := List.mem_of_find?_eq_some e
    have h2 := List.find?_some e
    have : p.1 = q := by simpa using h2
    have h3 : p.2 = d := by simpa using h
    rw [← this, ← h3]; exact h1
theorem hasN_iff {kvs : List (κ × β)} {q : κ} : hasN kvs q = true ↔ q ∈ kvs.map (·.1) := by
  unfold hasN
  constructor
  · intro h
    cases e : lookN kvs q with
    | none => rw [e] at h; cases h
    | some d => exact List.mem_map.mpr ⟨_, lookN_some e, rfl⟩
  · intro h
    cases e : lookN kvs q with
    | some d => rfl
    | none =>
      exfalso
      obtain ⟨x, m, hx⟩ := List.mem_map.mp h
      unfold lookN at e
      rw [Option.map_eq_none_iff, List.find?_eq_none] at e
      exact e x m (by simpa using hx)
theorem hasN_false {kvs : List (κ × β)} {q : κ} : hasN kvs q = false ↔ q ∉ kvs.map (·.1) := by rw [← hasN_iff]; simp
theorem putD_new {kvs : List (κ × β)} {q : κ} {b : β} (h : hasN kvs q = false) : putD kvs q b = kvs ++ [(q, b)] := by
  unfold putD
  rw [h]; rfl
theorem putD_keys {kvs : List (κ × β)} {q : κ} {b : β} (h : hasN kvs q = true) : (putD kvs q b).map (·.1) = kvs.map (·.1) := by
  unfold putD
  rw [if_pos h, List.map_map]
  refine List.map_congr_left fun p _ => ?_
  show (if p.1 = q then (p.1, b) else p).1 = p.1
  split <;> rfl
theorem lookN_put {kvs : List (κ × β)} {q : κ} {b : β} (h : hasN kvs q = true) (x : κ) : lookN (putD kvs q b) x = if x = q then some b else lookN kvs x := by
  have h' := h
  unfold putD
  rw [if_pos h]
  unfold hasN lookN at h'
  unfold lookN
  clear h
  induction kvs with
  | nil => cases h'
  | cons a as ih =>
    rw [List.map_cons]
    by_cases ha : a.1 = q
    · rw [if_pos ha]
      by_cases hx : x = q
      · rw [if_pos hx, List.find?_cons_of_pos (by simpa using ha.trans hx.symm)]; rfl
      · rw [if_neg hx, List.find?_cons_of_neg (by simpa using fun z => hx (z.symm.trans ha)), List.find?_cons_of_neg (by simpa using fun z => hx (z.symm.trans ha))]
        clear ih h' ha
        induction as with
        | nil => rfl
        | cons c cs ih2 =>
          rw [List.map_cons]
          by_cases hc : c.1 = x
          · rw [if_neg (fun z => hx (hc.symm.trans z)), List.find?_cons_of_pos (by simpa using hc), List.find?_cons_of_pos (by simpa using hc)]
          · have hc' : ¬ decide ((if c.1 = q then (c.1, b) else c).1 = x) = true := by
              by_cases hcq : c.1 = q
              · rw [if_pos hcq]; simpa using hc
              · rw [if_neg hcq]; simpa using hc
            rw [List.find?_cons_of_neg (a := if c.1 = q then (c.1, b) else c) (p := fun p => decide (p.1 = x)) hc', List.find?_cons_of_neg (by simpa using hc)]
            exact ih2
    · rw [if_neg ha]
      rw [List.find?_cons_of_neg (by simpa using ha)] at h'
      have ih := ih h'
      by_cases hax : a.1 = x
      · rw [List.find?_cons_of_pos (by simpa using hax), List.find?_cons_of_pos (by simpa using hax), if_neg (fun z => ha (hax.trans z))]
      · rw [List.find?_cons_of_neg (by simpa using hax), List.find?_cons_of_neg (by simpa using hax)]
        exact ih
end
theorem Is.b4' {α β γ δ ε : Type} {a : WP α} {b : WP β} {c : WP γ} {d : WP δ} {x : α} {y : β} {z : γ} {u : δ} {f : α → β → γ → δ → WP ε} {v : ε} (h : Is a x) (h' : Is b y) (h2 : Is c z) (h3 : Is d u) (k : Is (f x y z u) v) : Is (WP.b4 a b c d f) v := h.bind (h'.bind (h2.bind (h3.bind k)))
theorem take_nodupN {α : Type} {xs : List α} (nd : xs.Nodup) {i : Nat} {x : α} (h : xs[i]? = some x) : x ∉ xs.take i := fun m => by
  obtain ⟨j, hj⟩ := List.mem_iff_getElem?.mp m
  rw [List.getElem?_take] at hj
  split at hj
  · next hji =>
    have l1 := (List.getElem?_eq_some_iff.mp h)
    have l2 := (List.getElem?_eq_some_iff.mp hj)
    obtain ⟨a1, a2⟩ := l1
    obtain ⟨b1, b2⟩ := l2
    have := (List.getElem_inj (h₀ := a1) (h₁ := b1) nd).mp (a2.trans b2.symm)
    omega
  · cases hj
/-! ### tides -/
def tl (td : List Int) (t : Int) : Int := ixD td (t % (td.length : Int))
def dry (rel : List Str) (td : List Int) (q : Sq) (t : Int) : Bool := isSq rel q && decide (tl td t ≤ hg rel q)
def stays (q : Sq) : List Sq := q :: sides q
def nx (td : List Int) (o : Sq) (i : Int) : Sq × Int := (o, (i + 1) % (td.length : Int))
theorem dry_sq {rel : List Str} {td : List Int} {q : Sq} {t : Int} (h : dry rel td q t = true) : isSq rel q = true := by
  unfold dry at h
  rw [Bool.and_eq_true] at h
  exact h.1
theorem dry_mod {rel : List Str} {td : List Int} {q : Sq} {t : Int} : dry rel td q (t % (td.length : Int)) = dry rel td q t := by
  unfold dry tl
  rw [Int.emod_emod]
/-! ### the models -/
def is_dryM (a_relief : (List Str)) (a_tide : (List Int)) (a_square : Sq) (a_time : Int) : WP Bool := (WP.ge (WP.b2 (WP.pure a_relief) (WP.pure a_square) heightM) (WP.ix (WP.pure a_tide) (WP.mod (WP.pure a_time) (WP.len (WP.pure a_tide))))).bind fun r1 => (WP.pure r1)
def staysM (a_square : Sq) : WP (List Sq) := (WP.cat (WP.row (WP.consE (WP.pure a_square) (WP.pure ([] : List Sq)))) (WP.b1 (WP.pure a_square) side_neighboursM)).bind fun r1 => (WP.pure r1)
def steps_dryM (a_relief : (List Str)) (a_tide : (List Int)) (a_square : Sq) (a_time : Int) : WP (List Sq) := (WP.lc (WP.b1 (WP.pure a_square) staysM) (fun c1 => (WP.and (WP.b2 (WP.pure a_relief) (WP.pure c1) is_squareM) (WP.b4 (WP.pure a_relief) (WP.pure a_tide) (WP.pure c1) (WP.add (WP.pure a_time) (WP.pure (1 : Int))) is_dryM))) (fun c1 => (WP.pure c1))).bind fun r1 => (WP.pure r1)
def pair_is_rightM (a_relief : (List Str)) (a_tide : (List Int)) (a_square : Sq) (a_index : Int) : WP Bool := (WP.and (WP.b2 (WP.pure a_relief) (WP.pure a_square) is_squareM) (WP.chain (fun i j => decide (i ≤ j)) (fun i j => decide (i < j)) (WP.pure (0 : Int)) (WP.pure a_index) (WP.len (WP.pure a_tide)))).bind fun r1 => (WP.pure r1)
def late_heightsM (a_relief : (List Str)) (a_tide : (List Int)) (a_paper : (List (Tri Sq Int Int))) : WP (Option (List ((Sq × Int) × Int))) := (WP.pure ([] : (List ((Sq × Int) × Int)))).bind fun a1_heights => WP.after (WP.loop (γ := (Option (List ((Sq × Int) × Int)))) (fun c2 (y2 : (List ((Sq × Int) × Int))) => (WP.or (WP.not (WP.b4 (WP.pure a_relief) (WP.pure a_tide) (WP.pure c2.a) (WP.pure c2.b) pair_is_rightM)) (WP.or (WP.nin (WP.pair (WP.pure c2.a) (WP.pure c2.b)) (WP.pure y2)) (WP.lt (WP.pure c2.c) (WP.pure (0 : Int))))).bind fun b => WP.cond b ((WP.pure (none : (Option (List ((Sq × Int) × Int))))).bind fun r4 => (WP.pure (.rt r4))) ((WP.b2 (WP.pure c2.c) (WP.pair (WP.pure c2.a) (WP.pure c2.b)) fun b q => WP.req (y2.length < 100000) (putD y2 q b)).bind fun a5_heights => (WP.pure (.nx a5_heights)))) a_paper a1_heights) (fun (z2 : (List ((Sq × Int) × Int))) => (WP.pure (some z2))) (fun r => (WP.pure r))
def shows_lateM (a_relief : (List Str)) (a_tide : (List Int)) (a_start : Sq) (a_goal : Sq) (a_number : Int) (a_paper : (List (Tri Sq Int Int))) : WP Bool := (WP.b3 (WP.pure a_relief) (WP.pure a_tide) (WP.pure a_paper) late_heightsM).bind fun a1_heights => (WP.isN (WP.pure a1_heights)).bind fun b => WP.cond b ((WP.pure false).bind fun r3 => (WP.pure r3)) ((WP.req (a1_heights.isSome = true) (a1_heights.getD [])).bind fun a4_heights => (WP.and (WP.b4 (WP.pure a_relief) (WP.pure a_tide) (WP.pure a_start) (WP.pure (0 : Int)) is_dryM) (WP.lt (WP.ngetD (WP.pure a4_heights) (WP.pair (WP.pure a_start) (WP.pure (0 : Int))) (WP.pure (0 : Int))) (WP.pure a_number))).bind fun b => WP.cond b ((WP.pure false).bind fun r6 => (WP.pure r6)) ((WP.range1 (WP.len (WP.pure a_tide))).bind fun xs7 => WP.after (WP.loop (γ := Bool) (fun c7 (y7 : Unit) => (WP.and (WP.b4 (WP.pure a_relief) (WP.pure a_tide) (WP.pure a_goal) (WP.pure c7) is_dryM) (WP.ne (WP.ngetD (WP.pure a4_heights) (WP.pair (WP.pure a_goal) (WP.pure c7)) (WP.pure (0 : Int))) (WP.pure (0 : Int)))).bind fun b => WP.cond b ((WP.pure false).bind fun r9 => (WP.pure (.rt r9))) ((WP.pure (.nx ())))) xs7 ()) (fun (z7 : Unit) => (WP.pure a4_heights).bind fun a10_heights => WP.after (WP.loop (γ := Bool) (fun c11 (y11 : Unit) => (WP.pure c11.1).bind fun a12_square_index => (WP.b4 (WP.pure a_relief) (WP.pure a_tide) (WP.pure a12_square_index.1) (WP.pure a12_square_index.2) is_dryM).bind fun b => WP.cond b ((WP.b4 (WP.pure a_relief) (WP.pure a_tide) (WP.pure a12_square_index.1) (WP.pure a12_square_index.2) steps_dryM).bind fun xs14 => WP.after (WP.loop (γ := Bool) (fun c14 (y14 : Unit) => (WP.gt (WP.pure c11.2) (WP.add (WP.ngetD (WP.pure a10_heights) (WP.pair (WP.pure c14) (WP.mod (WP.add (WP.pure a12_square_index.2) (WP.pure (1 : Int))) (WP.len (WP.pure a_tide)))) (WP.pure (0 : Int))) (WP.pure (1 : Int)))).bind fun b => WP.cond b ((WP.pure false).bind fun r16 => (WP.pure (.rt r16))) ((WP.pure (.nx ())))) xs14 ()) (fun (z14 : Unit) => (WP.pure (.nx ()))) (fun r => (WP.pure (.rt r)))) ((WP.pure (.nx ())))) a10_heights ()) (fun (z11 : Unit) => (WP.pure true).bind fun r17 => (WP.pure r17)) (fun r => (WP.pure r))) (fun r => (WP.pure r))))
theorem is_dry_is {rel : List Str} {td : List Int} {q : Sq} {t : Int} (r : Rel rel) (ht : 0 < td.length) (h : isSq rel q = true) : Is (is_dryM rel td q t) (dry rel td q t) := by
  unfold dry
  rw [h, Bool.true_and]
  have hp : (0 : Int) < (td.length : Int) := by omega
  have h0 := Int.emod_nonneg t (show (td.length : Int) ≠ 0 by omega)
  have h1 := Int.emod_lt_of_pos t hp
  exact Is.ret (Is.bind (height_is r h) (Is.bind (Is.ix Is.pure (Is.bind Is.pure (Is.bind Is.pure (Is.req hp))) ⟨by omega, by omega⟩) Is.pure))
theorem stays_is (q : Sq) : Is (staysM q) (stays q) := by
  refine Is.ret (Is.bind (a := [q]) (fun n Q z => ⟨by simp, z⟩) (Is.bind (side_neighbours_is q) (Is.req (by show 1 + 4 ≤ 100000; decide))))
theorem steps_dry_is {rel : List Str} {td : List Int} {q : Sq} {t : Int} (r : Rel rel) (ht : 0 < td.length) : Is (steps_dryM rel td q t) ((stays q).filter fun o => dry rel td o (t + 1)) := by
  refine Is.ret (Is.lcF (stays_is q) (by show 5 ≤ 100000; decide) fun o _ => ?_)
  refine (Is.and (is_square_is r.ch o) fun h => is_dry_is (t := t + 1) r ht h).eq ?_
  unfold dry
  cases isSq rel o <;> rfl
abbrev T3P := Tri Sq Int Int
def kk (x : T3P) : Sq × Int := (x.a, x.b)
def kv (x : T3P) : (Sq × Int) × Int := ((x.a, x.b), x.c)
def kvsL (p : List T3P) : List ((Sq × Int) × Int) := p.map kv
theorem kvs_keys (p : List T3P) : (kvsL p).map (·.1) = p.map kk := by unfold kvsL; rw [List.map_map]; rfl
def inT (rel : List Str) (td : List Int) (x : T3P) : Prop := isSq rel x.a = true ∧ 0 ≤ x.b ∧ x.b < (td.length : Int) ∧ 0 ≤ x.c
structure OkL (rel : List Str) (td : List Int) (p : List T3P) : Prop where
  nd : (p.map kk).Nodup
  ok : ∀ x ∈ p, inT rel td x
/-- the height of a pair, 0 where there is none -/
def hN (p : List T3P) (k : Sq × Int) : Int := (lookN (kvsL p) k).getD 0
theorem hN_mem {p : List T3P} (nd : (p.map kk).Nodup) {x : T3P} (m : x ∈ p) : hN p (kk x) = x.c := by
  unfold hN
  have e : lookN (kvsL p) (kk x) = some x.c := lookN_mem (by rw [kvs_keys]; exact nd) (List.mem_map.mpr ⟨x, m, rfl⟩)
  rw [e]; rfl
theorem hN_none {p : List T3P} {k : Sq × Int} (h : k ∉ p.map kk) : hN p k = 0 := by
  unfold hN
  rw [lookN_none (by rw [kvs_keys]; exact h)]; rfl
structure Late (rel : List Str) (td : List Int) (s g : Sq) (n : Int) (p : List T3P) : Prop where
  ok : OkL rel td p
  st : dry rel td s 0 = true → n ≤ hN p (s, 0)
  go : ∀ i, 0 ≤ i → i < (td.length : Int) → dry rel td g i = true → hN p (g, i) = 0
  le : ∀ x ∈ p, dry rel td x.a x.b = true → ∀ o ∈ stays x.a, dry rel td o (x.b + 1) = true → x.c ≤ hN p (nx td o x.b) + 1
theorem ok_snocL {rel : List Str} {td : List Int} {p : List T3P} {i : Nat} {c : T3P} (h : p[i]? = some c) (ok : OkL rel td (p.take i)) (hk : hasN (kvsL (p.take i)) (c.a, c.b) = false) (hc : inT rel td c) : OkL rel td (p.take (i + 1)) := by
  rw [take_snoc h]
  refine ⟨?_, fun x m => ?_⟩
  · rw [List.map_append, List.nodup_append]
    refine ⟨ok.nd, by simp, fun x hx y hy z => ?_⟩
    have : y = kk c := by simpa using hy
    subst this
    have := hasN_false.mp hk
    rw [kvs_keys] at this
    rw [z] at hx
    exact this hx
  · rcases List.mem_append.mp m with m | m
    · exact ok.ok x m
    · rw [List.mem_singleton.mp m]; exact hc
theorem has_takeL {p : List T3P} {i : Nat} {c : T3P} (h : p[i]? = some c) (hk : hasN (kvsL (p.take i)) (c.a, c.b) = true) : ¬ (p.map kk).Nodup := fun nd => by
  have h2 : (p.map kk)[i]? = some (kk c) := by rw [List.getElem?_map, h]; rfl
  refine take_nodupN nd h2 ?_
  rw [← List.map_take, ← kvs_keys]
  exact hasN_iff.mp hk
theorem pair_right_is {rel : List Str} {td : List Int} (c : Ch rel) (q : Sq) (i : Int) : Is (pair_is_rightM rel td q i) (isSq rel q && (decide (0 ≤ i) && decide (i < (td.length : Int)))) := Is.ret (Is.and (is_square_is c q) fun _ => Is.chain Is.pure Is.pure fun _ => Is.len Is.pure)
theorem late_heights_gives {rel : List Str} {td : List Int} (c : Ch rel) {p : List T3P} (hl : p.length < 100000) : Gives (late_heightsM rel td p) (fun o => (OkL rel td p ∧ o = some (kvsL p)) ∨ (¬ OkL rel td p ∧ o = none)) := by
  intro n Q q
  unfold late_heightsM
  rw [WP.run_bind, WP.run_pure]
  refine WP.after_inv (fun i m y => m = n ∧ y = kvsL (p.take i) ∧ OkL rel td (p.take i)) ⟨rfl, rfl, ⟨by simp, fun _ m => by cases m⟩⟩ (fun i m x y hx hi => ?_) (fun m y hy => ?_)
  · obtain ⟨rfl, rfl, ok⟩ := hi
    rw [WP.run_bind]
    refine Is.run (Is.or (Is.not (Is.b4' Is.pure Is.pure Is.pure Is.pure (pair_right_is c x.a x.b))) fun _ => Is.or (Is.b2 (Is.b2 Is.pure Is.pure Is.pure) Is.pure Is.pure) fun _ => Is.bind Is.pure (Is.bind Is.pure Is.pure)) ?_
    rw [WP.run_cond]
    refine ⟨fun hb => ?_, fun hb => ?_⟩
    · rw [WP.run_bind, WP.run_pure, WP.run_pure]
      refine q _ (.inr ⟨fun z => ?_, rfl⟩)
      have zx := z.ok x (List.mem_of_getElem? hx)
      obtain ⟨z1, z2, z3, z4⟩ := zx
      have hk : hasN (kvsL (p.take i)) (x.a, x.b) = false := by
        cases e : hasN (kvsL (p.take i)) (x.a, x.b) with
        | false => rfl
        | true => exact absurd z.nd (has_takeL hx e)
      rw [z1, hk, decide_eq_true z2, decide_eq_true z3, decide_eq_false (by omega)] at hb
      cases hb
    · rw [Bool.or_eq_false_iff, Bool.or_eq_false_iff, Bool.not_eq_false', Bool.and_eq_true, Bool.and_eq_true] at hb
      obtain ⟨⟨b1, b2, b3⟩, b4, b5⟩ := hb
      rw [WP.run_bind]
      refine Is.run (a := putD (kvsL (p.take i)) (x.a, x.b) x.c) (Is.b2 Is.pure (Is.b2 Is.pure Is.pure Is.pure) (Is.req (by unfold kvsL; rw [List.length_map, List.length_take]; omega))) ?_
      rw [WP.run_pure]
      have hin : inT rel td x := ⟨b1, of_decide_eq_true b2, of_decide_eq_true b3, by have := of_decide_eq_false b5; omega⟩
      refine ⟨rfl, ?_, ok_snocL hx ok b4 hin⟩
      rw [putD_new b4, take_snoc hx]
      unfold kvsL
      rw [List.map_append]; rfl
  · obtain ⟨rfl, rfl, ok⟩ := hy
    rw [List.take_length] at ok ⊢
    exact q _ (.inl ⟨ok, rfl⟩)
/-- what the judge works out -/
def lateB (rel : List Str) (td : List Int) (s g : Sq) (n : Int) (p : List T3P) : Bool :=
  !(dry rel td s 0 && decide (hN p (s, 0) < n)) && ((rangeL 0 (td.length : Int)).all (fun i => !(dry rel td g i && !decide (hN p (g, i) = 0))) &&
    p.all fun x => !dry rel td x.a x.b || ((stays x.a).filter fun o => dry rel td o (x.b + 1)).all fun o => !decide (hN p (nx td o x.b) + 1 < x.c))
theorem mem_rangeL0 {k i : Int} : i ∈ rangeL 0 k ↔ 0 ≤ i ∧ i < k := by
  rw [List.mem_iff_getElem?]
  constructor
  · rintro ⟨j, hj⟩
    have := rangeL0_get hj
    omega
  · rintro ⟨h1, h2⟩
    refine ⟨i.toNat, ?_⟩
    rw [rangeL_get (by rw [Int.sub_zero]; omega)]
    congr 1
    omega
theorem late_iff {rel : List Str} {td : List Int} {s g : Sq} {n : Int} {p : List T3P} (ok : OkL rel td p) : lateB rel td s g n p = true ↔ Late rel td s g n p := by
  unfold lateB
  rw [Bool.and_eq_true, Bool.and_eq_true, List.all_eq_true, List.all_eq_true]
  constructor
  · rintro ⟨h1, h2, h3⟩
    refine ⟨ok, fun h => ?_, fun i i0 i1 h => ?_, fun x hx h o ho h' => ?_⟩
    · rw [h, Bool.true_and, Bool.not_eq_true', decide_eq_false_iff_not] at h1; omega
    · have := h2 i (mem_rangeL0.mpr ⟨i0, i1⟩)
      rw [h, Bool.true_and, Bool.not_not] at this
      exact of_decide_eq_true this
    · have := h3 x hx
      rw [h, Bool.not_true, Bool.false_or, List.all_eq_true] at this
      have := this o (List.mem_filter.mpr ⟨ho, h'⟩)
      rw [Bool.not_eq_true', decide_eq_false_iff_not] at this
      omega
  · intro h
    refine ⟨?_, fun i hi => ?_, fun x hx => ?_⟩
    · cases e : dry rel td s 0 with
      | false => rfl
      | true =>
        have := h.st e
        rw [Bool.true_and, Bool.not_eq_true', decide_eq_false_iff_not]; omega
    · cases e : dry rel td g i with
      | false => rfl
      | true =>
        have hi := mem_rangeL0.mp hi
        rw [h.go i hi.1 hi.2 e]; rfl
    · cases e : dry rel td x.a x.b with
      | false => rfl
      | true =>
        rw [Bool.not_true, Bool.false_or, List.all_eq_true]
        intro o ho
        have ho := List.mem_filter.mp ho
        have := h.le x hx e o ho.1 ho.2
        rw [Bool.not_eq_true', decide_eq_false_iff_not]
        omega
theorem shows_late_gives {rel : List Str} {td : List Int} (r : Rel rel) (ht : 0 < td.length) (ht2 : td.length ≤ 100000) {s g : Sq} (hs : isSq rel s = true) (hg : isSq rel g = true) (nn : Int) {p : List T3P} (hl : p.length < 100000) : Gives (shows_lateM rel td s g nn p) (fun b => b = true ↔ Late rel td s g nn p) := by
  intro n Q q
  unfold shows_lateM
  rw [WP.run_bind]
  refine (late_heights_gives r.ch hl) n _ fun o ho => ?_
  rcases ho with ⟨ok, rfl⟩ | ⟨nok, rfl⟩
  · refine Is.run (a := lateB rel td s g nn p) ?_ (q _ (late_iff ok))
    refine Is.bind (a := false) (Is.bind Is.pure Is.pure) ?_
    refine Is.cond (fun h => by cases h) fun _ => ?_
    refine Is.bind (Is.req rfl) ?_
    unfold lateB
    have hgp : (0 : Int) < (td.length : Int) := by omega
    have hn : ∀ (a : Sq) (k : Int), Is (WP.ngetD (WP.pure (kvsL p)) (WP.pair (WP.pure a) (WP.pure k)) (WP.pure (0 : Int))) (hN p (a, k)) := fun a k => Is.b3 Is.pure (Is.b2 Is.pure Is.pure Is.pure) Is.pure Is.pure
    refine Is.bind (Is.and (y := decide (hN p (s, 0) < nn)) (Is.b4' Is.pure Is.pure Is.pure Is.pure (is_dry_is r ht hs)) fun _ => Is.b2 (hn s 0) Is.pure Is.pure) ?_
    refine Is.cond (fun h => (Is.bind Is.pure Is.pure).eq (by rw [h]; rfl)) fun h => ?_
    rw [h, Bool.not_false, Bool.true_and]
    refine Is.bind (Is.range1 (Is.len Is.pure) (by omega)) ?_
    refine Is.afterAll (Is.loopAll (p := fun i => !(dry rel td g i && !decide (hN p (g, i) = 0))) (no := false) fun i _ => ?_) (fun h => ?_) fun h => ?_
    · refine Is.guard ((Is.and (Is.b4' Is.pure Is.pure Is.pure Is.pure (is_dry_is r ht hg)) fun _ => Is.ne (hn g i) Is.pure).eq (Bool.not_not _).symm) fun _ => Is.pure
    · rw [h, Bool.true_and]
      refine Is.bind Is.pure ?_
      refine (Is.afterAll (b := (kvsL p).all fun x => !dry rel td x.1.1 x.1.2 || ((stays x.1.1).filter fun o => dry rel td o (x.1.2 + 1)).all fun o => !decide (hN p (nx td o x.1.2) + 1 < x.2)) (Is.loopAll (no := false) fun x hx => ?_) (fun h => ?_) fun h => ?_ : Is _ ((kvsL p).all fun x => !dry rel td x.1.1 x.1.2 || ((stays x.1.1).filter fun o => dry rel td o (x.1.2 + 1)).all fun o => !decide (hN p (nx td o x.1.2) + 1 < x.2))).eq ?_
      · obtain ⟨y, hy, rfl⟩ := List.mem_map.mp hx
        have hok := ok.ok y hy
        refine Is.bind Is.pure (Is.bind (Is.b4' Is.pure Is.pure Is.pure Is.pure (is_dry_is r ht hok.1)) (Is.cond (fun h => ?_) fun h => ?_))
        · rw [show dry rel td (kv y).1.1 (kv y).1.2 = true from h, Bool.not_true, Bool.false_or]
          refine Is.bind (Is.b4' Is.pure Is.pure Is.pure Is.pure (steps_dry_is r ht)) ?_
          refine Is.afterAll (Is.loopAll (p := fun o => !decide (hN p (nx td o y.b) + 1 < y.c)) (no := false) fun o _ => ?_) (fun h => ?_) fun h => ?_
          · refine Is.guard ((Is.b2 (x := y.c) (y := hN p (nx td o y.b) + 1) Is.pure (Is.b2 (x := hN p (nx td o y.b)) (y := 1) (Is.b3 (x := kvsL p) (y := nx td o y.b) (z := 0) Is.pure (Is.b2 (x := o) (y := (y.b + 1) % (td.length : Int)) Is.pure (Is.b2 (x := y.b + 1) (y := (td.length : Int)) (Is.b2 Is.pure Is.pure Is.pure) (Is.len Is.pure) (Is.req hgp)) Is.pure) Is.pure Is.pure) Is.pure Is.pure) Is.pure).eq (Bool.not_not _).symm) fun _ => Is.pure
          · rw [show (((stays (kv y).1.1).filter fun o => dry rel td o ((kv y).1.2 + 1)).all fun o => !decide (hN p (nx td o (kv y).1.2) + 1 < (kv y).2)) = true from h]
            exact Is.pure
          · rw [show (((stays (kv y).1.1).filter fun o => dry rel td o ((kv y).1.2 + 1)).all fun o => !decide (hN p (nx td o (kv y).1.2) + 1 < (kv y).2)) = false from h]
            exact Is.pure
        · rw [show dry rel td (kv y).1.1 (kv y).1.2 = false from h]
          exact Is.pure
      · rw [h]; exact Is.bind Is.pure Is.pure
      · rw [h]; exact Is.pure
      · unfold kvsL; rw [List.all_map]; rfl
    · rw [h]; exact Is.pure
  · refine Is.run (a := false) (Is.bind (a := true) (Is.bind Is.pure Is.pure) (Is.cond (fun _ => Is.bind Is.pure Is.pure) fun h => by cases h)) (q _ ⟨(fun z => by cases z), fun z => absurd z.ok nok⟩)
end Y

namespace W
open PySem PySem.Spec L2 Y
theorem deal_plain (ns : List Int) (hl : ns.length ≤ 63) (n : Nat) : (m__law_deal ns).run n fun _ _ => True := Y.deal_plain ns hl n
theorem yes_is (a b : Bool) : Is (m__law_yes a b) (decide (a = b)) := (Is.ret (Is.and (Is.pure.bind Is.pure) fun _ => Is.b2 Is.pure Is.pure Is.pure)).eq (by simp)
section
variable {rel : List Str} {td : List Int} (r : Rel rel) (ht : 0 < td.length)
include r ht
theorem law_dry_is (q : Sq) (t : Int) : Is (m__law_dry rel td q t) (dry rel td q t) := by
  have hp : (0 : Int) < (td.length : Int) := by omega
  have h0 := Int.emod_nonneg t (show (td.length : Int) ≠ 0 by omega)
  have h1 := Int.emod_lt_of_pos t hp
  refine Is.ret (Is.and (Is.b2 Is.pure Is.pure (law_in_is r.ch q)) fun h => ?_)
  exact Is.bind (Is.b2 Is.pure Is.pure (law_high_is r h)) (Is.bind (Is.ix Is.pure (Is.bind Is.pure (Is.bind Is.pure (Is.req hp))) ⟨by omega, by omega⟩) Is.pure)
omit r ht in
theorem law_stays_is (q : Sq) : Is (m__law_stays q) (stays q) := by
  refine Is.ret (Is.bind (a := [q]) (fun n Q z => ⟨by simp, z⟩) (Is.bind (sides_is q) (Is.req (by show 1 + 4 ≤ 100000; decide))))
theorem law_is_late_gives (ht2 : td.length ≤ 100000) (s g : Sq) (nn : Int) {p : List T3P} (hl : p.length < 100000) : Gives (m__law_is_late rel td s g nn ⟨p⟩) (fun b => b = true ↔ Late rel td s g nn p) := by
  intro n Q q
  unfold m__law_is_late
  rw [WP.run_bind, WP.run_pure, WP.run_bind, WP.run_bind, WP.run_pure, WP.run_pure]
  have hgp : (0 : Int) < (td.length : Int) := by omega
  refine WP.after_inv (fun i m y => m = n ∧ y = kvsL (p.take i) ∧ OkL rel td (p.take i)) ⟨rfl, rfl, ⟨by simp, fun _ m => by cases m⟩⟩ (fun i m x y hx hi => ?_) (fun m y hy => ?_)
  · obtain ⟨rfl, rfl, ok⟩ := hi
    rw [WP.run_bind]
    refine Is.run (Is.or (Is.not (Is.b2 Is.pure Is.pure (law_in_is r.ch x.a))) fun _ => Is.or (Is.not (Is.chain Is.pure Is.pure fun _ => Is.len Is.pure)) fun _ => Is.or (Is.bind Is.pure (Is.bind Is.pure Is.pure)) fun _ => Is.b2 (Is.b2 Is.pure Is.pure Is.pure) Is.pure Is.pure) ?_
    rw [WP.run_cond]
    refine ⟨fun hb => ?_, fun hb => ?_⟩
    · rw [WP.run_bind, WP.run_pure, WP.run_pure]
      refine q _ ⟨(fun z => by cases z), fun z => ?_⟩
      obtain ⟨z1, z2, z3, z4⟩ := z.ok.ok x (List.mem_of_getElem? hx)
      have hk : hasN (kvsL (p.take i)) (x.a, x.b) = false := by
        cases e : hasN (kvsL (p.take i)) (x.a, x.b) with
        | false => rfl
        | true => exact absurd z.ok.nd (has_takeL hx e)
      rw [z1, hk, decide_eq_true z2, decide_eq_true z3, decide_eq_false (by omega)] at hb
      cases hb
    · rw [Bool.or_eq_false_iff, Bool.or_eq_false_iff, Bool.or_eq_false_iff, Bool.not_eq_false', Bool.not_eq_false', Bool.and_eq_true] at hb
      obtain ⟨b1, ⟨b2, b3⟩, b5, b4⟩ := hb
      rw [WP.run_bind]
      refine Is.run (a := putD (kvsL (p.take i)) (x.a, x.b) x.c) (Is.b2 Is.pure (Is.b2 Is.pure Is.pure Is.pure) (Is.req (by unfold kvsL; rw [List.length_map, List.length_take]; omega))) ?_
      rw [WP.run_pure]
      have hin : inT rel td x := ⟨b1, of_decide_eq_true b2, of_decide_eq_true b3, by have := of_decide_eq_false b5; omega⟩
      refine ⟨rfl, ?_, ok_snocL hx ok b4 hin⟩
      rw [putD_new b4, take_snoc hx]
      unfold kvsL
      rw [List.map_append]; rfl
  · obtain ⟨rfl, rfl, ok⟩ := hy
    rw [List.take_length] at ok ⊢
    refine Is.run (a := lateB rel td s g nn p) ?_ (q _ (late_iff ok))
    unfold lateB
    have hn : ∀ (a : Sq) (k : Int), Is (WP.ngetD (WP.pure (kvsL p)) (WP.pair (WP.pure a) (WP.pure k)) (WP.pure (0 : Int))) (hN p (a, k)) := fun a k => Is.b3 Is.pure (Is.b2 Is.pure Is.pure Is.pure) Is.pure Is.pure
    refine Is.bind (Is.and (y := decide (hN p (s, 0) < nn)) (Is.b4' Is.pure Is.pure Is.pure Is.pure (law_dry_is r ht s 0)) fun _ => Is.b2 (hn s 0) Is.pure Is.pure) ?_
    refine Is.cond (fun h => (Is.bind Is.pure Is.pure).eq (by rw [h]; rfl)) fun h => ?_
    rw [h, Bool.not_false, Bool.true_and]
    refine Is.bind (Is.range1 (Is.len Is.pure) (by omega)) ?_
    refine Is.afterAll (Is.loopAll (p := fun i => !(dry rel td g i && !decide (hN p (g, i) = 0))) (no := false) fun i _ => ?_) (fun h => ?_) fun h => ?_
    · refine Is.guard ((Is.and (Is.b4' Is.pure Is.pure Is.pure Is.pure (law_dry_is r ht g i)) fun _ => Is.ne (hn g i) Is.pure).eq (Bool.not_not _).symm) fun _ => Is.pure
    · rw [h, Bool.true_and]
      refine Is.bind (a := (kvsL p).map (·.1)) (Is.bind Is.pure Is.pure) ?_
      refine (Is.afterAll (b := ((kvsL p).map (·.1)).all fun k => !dry rel td k.1 k.2 || (stays k.1).all fun o => !(dry rel td o (k.2 + 1) && decide (hN p (nx td o k.2) + 1 < hN p k))) (Is.loopAll (no := false) fun k hk => ?_) (fun h => ?_) fun h => ?_ : Is _ (((kvsL p).map (·.1)).all fun k => !dry rel td k.1 k.2 || (stays k.1).all fun o => !(dry rel td o (k.2 + 1) && decide (hN p (nx td o k.2) + 1 < hN p k)))).eq ?_
      · refine Is.bind (Is.b4' Is.pure Is.pure Is.pure Is.pure (law_dry_is r ht _ _)) (Is.cond (fun h => ?_) fun h => ?_)
        · rw [h, Bool.not_true, Bool.false_or]
          refine Is.bind (Is.b1 Is.pure (law_stays_is _)) ?_
          refine Is.afterAll (Is.loopAll (p := fun o => !(dry rel td o (k.2 + 1) && decide (hN p (nx td o k.2) + 1 < hN p k))) (no := false) fun o _ => ?_) (fun h => ?_) fun h => ?_
          · refine Is.bind (a := hN p (nx td o k.2)) (Is.b3 (x := kvsL p) (y := nx td o k.2) (z := 0) Is.pure (Is.b2 (x := o) (y := (k.2 + 1) % (td.length : Int)) Is.pure (Is.b2 (x := k.2 + 1) (y := (td.length : Int)) (Is.b2 Is.pure Is.pure Is.pure) (Is.len Is.pure) (Is.req hgp)) Is.pure) Is.pure Is.pure) ?_
            refine Is.guard ((Is.and (y := decide (hN p (nx td o k.2) + 1 < hN p k)) (Is.b4' Is.pure Is.pure Is.pure (Is.b2 Is.pure Is.pure Is.pure) (law_dry_is r ht o _)) fun _ => Is.b2 (x := hN p k) (y := hN p (nx td o k.2) + 1) ?_ (Is.b2 Is.pure Is.pure Is.pure) Is.pure).eq (Bool.not_not _).symm) fun _ => Is.pure
            exact Is.b2 Is.pure (Is.b2 Is.pure Is.pure Is.pure) (Is.req (hasN_iff.mpr hk))
          · rw [h]; exact Is.pure
          · rw [h]; exact Is.pure
        · rw [h]; exact Is.pure
      · rw [h]; exact Is.bind Is.pure Is.pure
      · rw [h]; exact Is.pure
      · rw [kvs_keys, List.all_map]
        refine Bool.eq_iff_iff.mpr ?_
        rw [List.all_eq_true, List.all_eq_true]
        refine forall_congr' fun x => forall_congr' fun hx => ?_
        show (!dry rel td x.a x.b || (stays x.a).all fun o => !(dry rel td o (x.b + 1) && decide (hN p (nx td o x.b) + 1 < hN p (kk x)))) = true ↔ _
        rw [hN_mem ok.nd hx, List.all_filter]
        refine iff_of_eq ?_
        congr 2
        congr 1
        funext o
        cases dry rel td o (x.b + 1) <;> rfl
    · rw [h]; exact Is.pure
end
theorem draw_tide : Draws (m__law_tide ()) 20 (fun td => 1 ≤ td.length ∧ td.length ≤ 12) := by
  intro n Q hn q
  unfold m__law_tide
  rw [WP.run_bind]
  refine WP.mono _ (fun n1 x hx => ?_) (?_ : WP.run _ n (fun (m : Nat) (y : Int) => m = n + 1 ∧ 1 ≤ y ∧ y ≤ 4))
  rotate_left
  · (simp only [WP.run_bind, WP.run_pure, WP.run_req, WP.run_any, WP.run_take, WP.run_cond, WP.run_range1, WP.run_range2, decide_eq_true_eq, decide_eq_false_iff_not, Bool.not_eq_true', Bool.not_eq_false'])
    exact ⟨by omega, by decide, fun x x0 x1 => ⟨trivial, by omega, by omega⟩⟩
  obtain ⟨rfl, x0, x1⟩ := hx
  rw [WP.run_bind]
  refine WP.mono _ (fun m y2 hy => ?_) (?_ : WP.run _ (n + 1) (fun (m : Nat) (y : Int) => n + 1 ≤ m ∧ m ≤ n + 3 ∧ 1 ≤ y ∧ y ≤ 12))
  · obtain ⟨m1, m2, y1, y3⟩ := hy
    (simp only [WP.run_bind, WP.run_pure, WP.run_req, WP.run_any, WP.run_take, WP.run_cond, WP.run_range1, WP.run_range2, decide_eq_true_eq, decide_eq_false_iff_not, Bool.not_eq_true', Bool.not_eq_false'])
    refine ⟨by omega, by decide, fun st st0 st1 => ⟨by omega, by decide, fun ba ba0 ba1 => ⟨by simp, by omega, ?_⟩⟩⟩
    refine WP.after_inv (fun i k y => k = m + 2 + i ∧ y.length = i) ⟨rfl, rfl⟩ (fun i k a y ha hi => ?_) (fun k y hy => ?_)
    · obtain ⟨rfl, hy⟩ := hi
      have hr := rangeL0_get ha
      have key : ∀ v : Int, y.length < 100000 ∧ WP.turnQ (fun k (y : List Int) => k = m + 2 + (i + 1) ∧ y.length = i + 1) (fun z => (WP.pure z).bind fun xs => WP.pure (α := List Int) xs) (fun r => WP.pure r) Q (m + 2 + i + 1) (Ctl.nx (y ++ [v])) := fun v => ⟨by omega, by omega, by rw [List.length_append, hy]; rfl⟩
      (simp only [WP.run_bind, WP.run_pure, WP.run_req, WP.run_any, WP.run_take, WP.run_cond, WP.run_range1, WP.run_range2, decide_eq_true_eq, decide_eq_false_iff_not, Bool.not_eq_true', Bool.not_eq_false'])
      refine ⟨by omega, by decide, fun v v0 v1 => ?_⟩
      repeat' first
        | exact (key _)
        | (intro _)
        | (refine ⟨?_, ?_⟩)
        | omega
        | decide
    · obtain ⟨rfl, hy⟩ := hy
      have hL := rangeL0_len (k := y2)
      (simp only [WP.run_bind, WP.run_pure, WP.run_req, WP.run_any, WP.run_take, WP.run_cond, WP.run_range1, WP.run_range2, decide_eq_true_eq, decide_eq_false_iff_not, Bool.not_eq_true', Bool.not_eq_false'])
      exact q _ _ (by omega) (by omega) ⟨by omega, by omega⟩
  · (simp only [WP.run_bind, WP.run_pure, WP.run_req, WP.run_any, WP.run_take, WP.run_cond, WP.run_range1, WP.run_range2, decide_eq_true_eq, decide_eq_false_iff_not, Bool.not_eq_true', Bool.not_eq_false'])
    refine ⟨by omega, by decide, fun y y0 y1 => ⟨fun _ => ⟨by omega, by decide, fun z z0 z1 => ⟨by omega, by omega, by omega, by omega⟩⟩, fun _ => ⟨by omega, by omega, by omega, by omega⟩⟩⟩
theorem draw_start {rel : List Str} {td : List Int} (r : Rel rel) (ht : 0 < td.length) : Draws (m__law_start () rel td) 5 (fun s => isSq rel s = true) := by
  have har := r.ch.area
  have hpos : 0 < (allSq rel).length := by
    rw [allSq_len]
    exact Nat.mul_pos r.ch.ne r.ch.w0
  intro n Q hn q
  unfold m__law_start
  rw [WP.run_bind]
  refine Is.run (law_all_is r.ch) ?_
  rw [WP.run_bind]
  refine Is.run (Is.lcF Is.pure (by omega) fun c _ => Is.b4' Is.pure Is.pure Is.pure Is.pure (law_dry_is r ht c 0)) ?_
  have hle := List.length_filter_le (fun c => dry rel td c 0) (allSq rel)
  have e1 : ∀ m, n ≤ m → m ≤ n + 1 → ((WP.b2 (WP.pure ()) (WP.pure (allSq rel)) m__law_pick).bind fun r4 => (WP.pure r4)).run m Q := fun m h1 h2 => by
    rw [WP.run_bind]
    refine draw_pick hpos (by omega) m _ (by omega) fun m2 s h3 h4 hs => ?_
    exact q _ _ (by omega) (by omega) (mem_allSq.mp hs)
  have e2 : ∀ m, n ≤ m → m ≤ n + 1 → 0 < ((allSq rel).filter fun c => dry rel td c 0).length → ((WP.b2 (WP.pure ()) (WP.pure ((allSq rel).filter fun c => dry rel td c 0)) m__law_pick).bind fun r4 => (WP.pure r4)).run m Q := fun m h1 h2 h0 => by
    rw [WP.run_bind]
    refine draw_pick h0 (by omega) m _ (by omega) fun m2 s h3 h4 hs => ?_
    exact q _ _ (by omega) (by omega) (mem_allSq.mp (List.mem_filter.mp hs).1)
  by_cases h0 : ((allSq rel).filter fun c => dry rel td c 0).length = 0
  · rw [WP.run_bind]
    refine Is.run (a := true) (Is.bind (a := true) (Is.bind (Is.len Is.pure) (Is.bind Is.pure (Is.pure.eq (by rw [h0]; rfl)))) (Is.cond (fun _ => Is.pure) fun h => by cases h)) ?_
    exact e1 n (by omega) (by omega)
  · rw [WP.run_bind]
    refine WP.mono _ (fun m b hb => ?_) (?_ : WP.run _ n (fun (m : Nat) (b : Bool) => n ≤ m ∧ m ≤ n + 1))
    · rw [WP.run_cond]
      exact ⟨fun _ => e1 m hb.1 hb.2, fun _ => e2 m hb.1 hb.2 (by omega)⟩
    · rw [WP.run_bind]
      refine Is.run (a := false) (Is.bind (Is.len Is.pure) (Is.bind Is.pure (Is.pure.eq (decide_eq_false (by omega))))) ?_
      (simp only [WP.run_bind, WP.run_pure, WP.run_req, WP.run_any, WP.run_take, WP.run_cond, WP.run_range1, WP.run_range2, decide_eq_true_eq, decide_eq_false_iff_not, Bool.not_eq_true', Bool.not_eq_false'])
      exact ⟨(fun z => by cases z), fun _ => ⟨by omega, by decide, fun x x0 x1 => ⟨by omega, by omega⟩⟩⟩
/-! what is left, by rounds -/
def vN (y : List ((Sq × Int) × Int)) (k : Sq × Int) : Int := (lookN y k).getD 0
structure GL (ks : List (Sq × Int)) (nn : Int) (g : Sq) (y : List ((Sq × Int) × Int)) : Prop where
  keys : y.map (·.1) = ks
  lo : ∀ k ∈ ks, 0 ≤ vN y k
  hi : ∀ k ∈ ks, vN y k ≤ nn
  go : ∀ k ∈ ks, k.1 = g → vN y k = 0
def QL (td : List Int) (ks : List (Sq × Int)) (y : List ((Sq × Int) × Int)) (L : Int) (k : Sq × Int) (o : Sq) : Prop := nx td o k.2 ∈ ks → vN y (nx td o k.2) < L → vN y k ≤ vN y (nx td o k.2) + 1
theorem vN_get {y : List ((Sq × Int) × Int)} {k : Sq × Int} {z : Int} (h : k ∈ y.map (·.1)) : (lookN y k).getD z = vN y k := by
  have h := hasN_iff.mpr h
  unfold hasN at h
  unfold vN
  cases e : lookN y k with
  | none => rw [e] at h; cases h
  | some b => rfl
theorem step_left {td : List Int} {ks : List (Sq × Int)} {nn : Int} {g : Sq} {y : List ((Sq × Int) × Int)} {t : Int} {c : Sq × Int} {o : Sq} (hG : GL ks nn g y) (hc : c ∈ ks) (hQ : QL td ks y t c o) (b : Int) (hb : b = (lookN y (nx td o c.2)).getD nn) (y' : List ((Sq × Int) × Int)) (hy' : y' = if b + 1 < vN y c then putD y c (b + 1) else y) :
    GL ks nn g y' ∧ (∀ k ∈ ks, ∀ o2 L, L ≤ t + 1 → QL td ks y L k o2 → QL td ks y' L k o2) ∧ QL td ks y' (t + 1) c o := by
  by_cases h : b + 1 < vN y c
  · rw [if_pos h] at hy'
    subst hy'
    have hcy : hasN y c = true := hasN_iff.mpr (by rw [hG.keys]; exact hc)
    have vput : ∀ k, vN (putD y c (b + 1)) k = if k = c then b + 1 else vN y k := fun k => by
      unfold vN
      rw [lookN_put hcy]
      split <;> rfl
    have hcn := hG.hi c hc
    have hin : nx td o c.2 ∈ ks := by
      refine Classical.byContradiction fun z => ?_
      rw [lookN_none (by rw [hG.keys]; exact z)] at hb
      have : b = nn := hb
      omega
    have hbv : b = vN y (nx td o c.2) := by rw [hb]; exact vN_get (by rw [hG.keys]; exact hin)
    have hb0 : 0 ≤ b := by rw [hbv]; exact hG.lo _ hin
    have hbt : t ≤ b := Classical.byContradiction fun z => by
      have := hQ hin (by omega)
      omega
    refine ⟨⟨by rw [putD_keys hcy, hG.keys], fun k hk => ?_, fun k hk => ?_, fun k hk hg => ?_⟩, fun k hk o2 L hL hq hin2 hv => ?_, fun hin2 hv => ?_⟩
    · rw [vput]; split
      · omega
      · exact hG.lo k hk
    · rw [vput]; split
      · omega
      · exact hG.hi k hk
    · rw [vput]; split
      · next e =>
        subst e
        have := hG.go k hk hg
        omega
      · exact hG.go k hk hg
    · have hne : nx td o2 k.2 ≠ c := fun e => by
        rw [vput, if_pos e] at hv; omega
      rw [vput, if_neg hne] at hv
      have := hq hin2 hv
      rw [vput (nx td o2 k.2), if_neg hne, vput k]; split
      · next e => subst e; omega
      · exact this
    · have hne : nx td o c.2 ≠ c := fun e => by
        rw [e] at hbv; omega
      rw [vput, if_pos rfl, vput, if_neg hne]
      omega
  · rw [if_neg h] at hy'
    subst hy'
    refine ⟨hG, fun k _ o2 L _ hq => hq, fun hin hv => ?_⟩
    have hbv : b = vN y' (nx td o c.2) := by rw [hb]; exact vN_get (by rw [hG.keys]; exact hin)
    omega
structure Left (rel : List Str) (td : List Int) (g : Sq) (nn : Int) (p : List T3P) : Prop where
  nd : (p.map kk).Nodup
  mem : ∀ k : Sq × Int, k ∈ p.map kk ↔ 0 ≤ k.2 ∧ k.2 < (td.length : Int) ∧ dry rel td k.1 k.2 = true
  lo : ∀ x ∈ p, 0 ≤ x.c
  hi : ∀ x ∈ p, x.c ≤ nn
  go : ∀ x ∈ p, x.a = g → x.c = 0
  le : ∀ x ∈ p, ∀ o ∈ stays x.a, dry rel td o (x.b + 1) = true → x.c ≤ hN p (nx td o x.b) + 1
  len : p.length ≤ 19200
theorem stays_len (q : Sq) : (stays q).length = 5 := rfl
theorem left_gives {rel : List Str} {td : List Int} (r : Rel rel) (h40 : rel.length ≤ 40) (w40 : wid rel ≤ 40) (ht : 0 < td.length) (ht2 : td.length ≤ 12) (g : Sq) (nn : Int) (n0 : 0 ≤ nn) (n1 : nn ≤ 100) : Gives (m__law_left rel td g nn) (Left rel td g nn) := by
  intro n Q q
  have hgp : (0 : Int) < (td.length : Int) := by omega
  have hS : (allSq rel).length ≤ 1600 := by
    rw [allSq_len]
    exact Nat.le_trans (Nat.mul_le_mul h40 w40) (by decide)
  have hnd : (allSq rel).Nodup := allSq_nodup rel
  unfold m__law_left
  rw [WP.run_bind, WP.run_pure, WP.run_bind]
  refine Is.run (law_all_is r.ch) ?_
  refine WP.after_inv (fun i m y => m = n ∧ (y.map (·.1)).Nodup ∧ (∀ k : Sq × Int, k ∈ y.map (·.1) ↔ k.1 ∈ (allSq rel).take i ∧ 0 ≤ k.2 ∧ k.2 < (td.length : Int) ∧ dry rel td k.1 k.2 = true) ∧ (∀ x ∈ y, x.2 = if x.1.1 = g then 0 else nn) ∧ y.length ≤ i * 12) ⟨rfl, List.nodup_nil, by simp, (fun x m => by cases m), by simp⟩ (fun i m c y hc hi => ?_) (fun m y hy => ?_)
  · obtain ⟨rfl, i1, i2, i3, i4⟩ := hi
    have hcS : c ∉ (allSq rel).take i := take_nodupN hnd hc
    have hil : i < (allSq rel).length := (List.getElem?_eq_some_iff.mp hc).1
    rw [WP.run_bind]
    refine Is.run (Is.range1 (Is.len Is.pure) (by omega)) ?_
    refine WP.after_inv (fun j m2 y => m2 = m ∧ (y.map (·.1)).Nodup ∧ (∀ k : Sq × Int, k ∈ y.map (·.1) ↔ (k.1 ∈ (allSq rel).take i ∧ 0 ≤ k.2 ∧ k.2 < (td.length : Int) ∧ dry rel td k.1 k.2 = true) ∨ (k.1 = c ∧ 0 ≤ k.2 ∧ k.2 < (j : Int) ∧ dry rel td k.1 k.2 = true)) ∧ (∀ x ∈ y, x.2 = if x.1.1 = g then 0 else nn) ∧ y.length ≤ i * 12 + j) ⟨rfl, i1, (fun k => by
        rw [i2]
        constructor
        · exact .inl
        · rintro (h | h)
          · exact h
          · omega), i3, by omega⟩ (fun j m2 t y ht hj => ?_) (fun m2 y hy => ?_)
    · obtain ⟨rfl, j1, j2, j3, j4⟩ := hj
      have hr := rangeL0_get ht
      rw [WP.run_bind]
      refine Is.run (a := if dry rel td c t then y ++ [((c, t), if c = g then 0 else nn)] else y) (Is.bind (Is.b4' Is.pure Is.pure Is.pure Is.pure (law_dry_is r ‹0 < td.length› c t)) (Is.cond (fun h => ?_) fun h => ?_)) ?_
      · rw [h, if_pos rfl]
        have hk : hasN y (c, t) = false := hasN_false.mpr fun z => by
          rcases (j2 _).mp z with z | z
          · exact hcS z.1
          · have := z.2.2.1
            have hrj : t = (j : Int) := hr.1
            omega
        rw [← putD_new hk]
        refine Is.bind (Is.b2 (Is.ite (Is.eqD Is.pure Is.pure (ok_sq _) (ok_sq _)) (fun _ => Is.pure) fun _ => Is.pure) (Is.b2 Is.pure Is.pure Is.pure) ?_) Is.pure
        refine (Is.req (by omega)).eq ?_
        congr 1
        by_cases e : c = g
        · rw [if_pos e, if_pos (decide_eq_true e)]
        · rw [if_neg e, if_neg (by simpa using e)]
      · rw [h]; exact Is.pure
      · rw [WP.run_pure]
        have hrj : t = (j : Int) := hr.1
        by_cases h : dry rel td c t = true
        · rw [if_pos h]
          have hk : (c, t) ∉ y.map (·.1) := fun z => by
            rcases (j2 _).mp z with z | z
            · exact hcS z.1
            · have := z.2.2.1
              omega
          refine ⟨rfl, ?_, fun k => ?_, fun x hx => ?_, by rw [List.length_append, List.length_singleton]; omega⟩
          · rw [List.map_append, List.nodup_append]
            refine ⟨j1, by simp, fun a ha b hb z => ?_⟩
            have : b = (c, t) := by simpa using hb
            rw [z, this] at ha
            exact hk ha
          · rw [List.map_append, List.mem_append, j2]
            constructor
            · rintro ((z | z) | z)
              · exact .inl z
              · exact .inr ⟨z.1, z.2.1, by omega, z.2.2.2⟩
              · have : k = (c, t) := by simpa using z
                subst this
                exact .inr ⟨rfl, by show 0 ≤ t; omega, by show t < _; omega, h⟩
            · rintro (z | ⟨z1, z2, z3, z4⟩)
              · exact .inl (.inl z)
              · by_cases e : k.2 = t
                · refine .inr ?_
                  have : k = (c, t) := Prod.ext z1 e
                  rw [this]; simp
                · exact .inl (.inr ⟨z1, z2, by omega, z4⟩)
          · rcases List.mem_append.mp hx with hx | hx
            · exact j3 x hx
            · rw [List.mem_singleton.mp hx]
        · rw [if_neg h]
          refine ⟨rfl, j1, fun k => ?_, j3, by omega⟩
          rw [j2]
          constructor
          · rintro (z | z)
            · exact .inl z
            · exact .inr ⟨z.1, z.2.1, by omega, z.2.2.2⟩
          · rintro (z | ⟨z1, z2, z3, z4⟩)
            · exact .inl z
            · refine .inr ⟨z1, z2, Classical.byContradiction fun w => ?_, z4⟩
              have : k.2 = t := by omega
              rw [z1, this] at z4
              exact h z4
    · obtain ⟨rfl, j1, j2, j3, j4⟩ := hy
      rw [rangeL0_len] at j4
      have hL : ((rangeL 0 (td.length : Int)).length : Int) = (td.length : Int) := by rw [rangeL0_len]; omega
      rw [WP.run_pure]
      refine ⟨rfl, j1, fun k => ?_, j3, by omega⟩
      rw [j2, take_snoc hc, List.mem_append, hL]
      constructor
      · rintro (z | z)
        · exact ⟨.inl z.1, z.2⟩
        · exact ⟨.inr (by rw [z.1]; simp), z.2⟩
      · rintro ⟨z1 | z1, z2⟩
        · exact .inl ⟨z1, z2⟩
        · exact .inr ⟨by simpa using z1, z2⟩
  · obtain ⟨rfl, i1, i2, i3, i4⟩ := hy
    rw [List.take_length] at i2
    rw [WP.run_bind]
    refine Is.run (a := y.map (·.1)) (Is.bind Is.pure Is.pure) ?_
    have hks : (y.map (·.1)).length ≤ 19200 := by rw [List.length_map]; omega
    have hG0 : GL (y.map (·.1)) nn g y := by
      have hv : ∀ k ∈ y.map (·.1), vN y k = if k.1 = g then 0 else nn := fun k hk => by
        obtain ⟨x, hx, rfl⟩ := List.mem_map.mp hk
        have e : lookN y x.1 = some x.2 := lookN_mem i1 hx
        unfold vN
        rw [e]
        exact i3 x hx
      refine ⟨rfl, fun k hk => ?_, fun k hk => ?_, fun k hk hg => ?_⟩
      · rw [hv k hk]; split <;> omega
      · rw [hv k hk]; split <;> omega
      · rw [hv k hk, if_pos hg]
    have hkd := i1
    have hkm := i2
    generalize y.map (·.1) = ks at hks hG0 hkd hkm ⊢
    clear i1 i2 i3 i4
    rw [WP.run_bind]
    refine Is.run ((Is.pure.bind (Is.req ⟨by omega, by omega⟩) : Is (WP.range1 (WP.pure nn)) (rangeL 0 nn))) ?_
    refine WP.after_inv (fun i m2 z => m2 = m ∧ GL ks nn g z ∧ ∀ k ∈ ks, ∀ o ∈ stays k.1, QL td ks z (i : Int) k o) ⟨rfl, hG0, fun k hk o _ hin hv => by
      have := hG0.lo _ hin
      omega⟩ (fun i m2 t z ht hi => ?_) (fun m2 z hz => ?_)
    · obtain ⟨rfl, hG, hW⟩ := hi
      refine WP.after_inv (fun j m3 z => m3 = m2 ∧ GL ks nn g z ∧ (∀ k ∈ ks, ∀ o ∈ stays k.1, QL td ks z (i : Int) k o) ∧ ∀ k ∈ ks.take j, ∀ o ∈ stays k.1, QL td ks z ((i : Int) + 1) k o) ⟨rfl, hG, hW, fun k hk => by simp at hk⟩ (fun j m3 c z hc hj => ?_) (fun m3 z hz => ?_)
      · obtain ⟨rfl, hG, hW, hD⟩ := hj
        have hcm : c ∈ ks := List.mem_of_getElem? hc
        rw [WP.run_bind]
        refine Is.run (Is.b1 Is.pure (law_stays_is _)) ?_
        refine WP.after_inv (fun a m4 z => m4 = m3 ∧ GL ks nn g z ∧ (∀ k ∈ ks, ∀ o ∈ stays k.1, QL td ks z (i : Int) k o) ∧ (∀ k ∈ ks.take j, ∀ o ∈ stays k.1, QL td ks z ((i : Int) + 1) k o) ∧ ∀ o ∈ (stays c.1).take a, QL td ks z ((i : Int) + 1) c o) ⟨rfl, hG, hW, hD, fun o ho => by simp at ho⟩ (fun a m4 o z ho ha => ?_) (fun m4 z hz => ?_)
        · obtain ⟨rfl, hG, hW, hD, hE⟩ := ha
          have hos : o ∈ stays c.1 := List.mem_of_getElem? ho
          rw [WP.run_bind]
          refine Is.run (a := (lookN z (nx td o c.2)).getD nn) (Is.b3 (x := z) (y := nx td o c.2) (z := nn) Is.pure (Is.b2 (x := o) (y := (c.2 + 1) % (td.length : Int)) Is.pure (Is.b2 (x := c.2 + 1) (y := (td.length : Int)) (Is.b2 Is.pure Is.pure Is.pure) (Is.len Is.pure) (Is.req hgp)) Is.pure) Is.pure Is.pure) ?_
          obtain ⟨s1, s2, s3⟩ := step_left hG hcm (hW c hcm o hos) _ rfl _ rfl
          rw [WP.run_bind]
          have hcz : hasN z (c.1, c.2) = true := hasN_iff.mpr (by rw [hG.keys]; exact hcm)
          have hzl : z.length ≤ 19200 := by rw [← List.length_map (as := z) (f := (·.1)), hG.keys]; exact hks
          refine Is.run (a := if (lookN z (nx td o c.2)).getD nn + 1 < vN z c then putD z c ((lookN z (nx td o c.2)).getD nn + 1) else z) (Is.bind (a := decide ((lookN z (nx td o c.2)).getD nn + 1 < vN z c)) (Is.b2 (x := vN z c) (y := (lookN z (nx td o c.2)).getD nn + 1) (Is.b2 Is.pure (Is.b2 Is.pure Is.pure Is.pure) (Is.req hcz)) (Is.b2 Is.pure Is.pure Is.pure) Is.pure) (Is.cond (fun h => ?_) fun h => ?_)) ?_
          · rw [if_pos (of_decide_eq_true h)]
            exact Is.bind (Is.b2 (x := (lookN z (nx td o c.2)).getD nn + 1) (y := c) (Is.b2 Is.pure Is.pure Is.pure) (Is.b2 Is.pure Is.pure Is.pure) (Is.req (by omega))) Is.pure
          · rw [if_neg (of_decide_eq_false h)]; exact Is.pure
          · rw [WP.run_pure]
            refine ⟨rfl, s1, fun k hk o2 ho2 => s2 k hk o2 _ (by omega) (hW k hk o2 ho2), fun k hk o2 ho2 => s2 k (List.mem_of_mem_take hk) o2 _ (by omega) (hD k hk o2 ho2), fun o2 ho2 => ?_⟩
            rw [take_snoc ho, List.mem_append] at ho2
            rcases ho2 with ho2 | ho2
            · exact s2 c hcm o2 _ (by omega) (hE o2 ho2)
            · rw [List.mem_singleton.mp ho2]; exact s3
        · obtain ⟨rfl, hG, hW, hD, hE⟩ := hz
          rw [List.take_length] at hE
          rw [WP.run_pure]
          refine ⟨rfl, hG, hW, fun k hk => ?_⟩
          rw [take_snoc hc, List.mem_append] at hk
          rcases hk with hk | hk
          · exact hD k hk
          · rw [List.mem_singleton.mp hk]; exact hE
      · obtain ⟨rfl, hG, hW, hD⟩ := hz
        rw [List.take_length] at hD
        rw [WP.run_pure]
        exact ⟨rfl, hG, fun k hk o ho => by have := hD k hk o ho; push_cast; exact this⟩
    · obtain ⟨rfl, hG, hW⟩ := hz
      have hLn : ((rangeL 0 nn).length : Int) = nn := by rw [rangeL0_len]; omega
      rw [hLn] at hW
      rw [WP.run_bind]
      refine Is.run (Is.lcM (xs := ks) (g := fun k => (⟨k.1, k.2, vN z k⟩ : T3P)) Is.pure (by omega) fun k hk => Is.b3 Is.pure Is.pure (Is.b2 Is.pure (Is.b2 Is.pure Is.pure Is.pure) (Is.req (hasN_iff.mpr (by rw [hG.keys]; exact hk)))) Is.pure) ?_
      rw [WP.run_pure]
      refine q _ ?_
      have hkk : (ks.map fun k => (⟨k.1, k.2, vN z k⟩ : T3P)).map kk = ks := by
        rw [List.map_map]
        exact List.map_id _
      have hh : ∀ k ∈ ks, hN (ks.map fun k => (⟨k.1, k.2, vN z k⟩ : T3P)) k = vN z k := fun k hk => hN_mem (p := ks.map fun k => (⟨k.1, k.2, vN z k⟩ : T3P)) (x := ⟨k.1, k.2, vN z k⟩) (by rw [hkk]; exact hkd) (List.mem_map.mpr ⟨k, hk, rfl⟩)
      refine ⟨by rw [hkk]; exact hkd, fun k => ?_, fun x hx => ?_, fun x hx => ?_, fun x hx => ?_, fun x hx o ho hd => ?_, by rw [List.length_map]; exact hks⟩
      · rw [hkk, hkm]
        constructor
        · exact fun h => h.2
        · exact fun h => ⟨mem_allSq.mpr (dry_sq h.2.2), h⟩
      · obtain ⟨k, hk, rfl⟩ := List.mem_map.mp hx
        exact hG.lo k hk
      · obtain ⟨k, hk, rfl⟩ := List.mem_map.mp hx
        exact hG.hi k hk
      · obtain ⟨k, hk, rfl⟩ := List.mem_map.mp hx
        exact hG.go k hk
      · obtain ⟨k, hk, rfl⟩ := List.mem_map.mp hx
        have hin : nx td o k.2 ∈ ks := (hkm _).mpr ⟨mem_allSq.mpr (dry_sq hd), Int.emod_nonneg _ (by omega), Int.emod_lt_of_pos _ hgp, by show dry rel td o ((k.2 + 1) % (td.length : Int)) = true; rw [dry_mod]; exact hd⟩
        show vN z k ≤ hN _ (nx td o k.2) + 1
        rw [hh _ hin]
        by_cases hv : vN z (nx td o k.2) < nn
        · exact hW k hk o ho hin hv
        · have := hG.hi k hk
          omega
instance : DecidableEq T3P := fun a b => by
  cases a with
  | mk a1 a2 a3 =>
  cases b with
  | mk b1 b2 b3 => exact decidable_of_iff (a1 = b1 ∧ a2 = b2 ∧ a3 = b3) (by simp)
instance : EqD T3P := ⟨fun _ => True, 2, fun c _ => by
  have h1 := EqD.lay c.a (ok_sq _)
  have h2 := EqD.lay c.b trivial
  have h3 := EqD.lay c.c trivial
  show PyData.canLay0 (.tuple [Dat.dat c.a, Dat.dat c.b, Dat.dat c.c]) = true
  simp only [PyData.canLay0, PyData.canLayAll0, Bool.and_true]
  rw [h1, h2, h3]; rfl, fun c => by
  have h1 := EqD.depth c.a
  have h2 := EqD.depth c.b
  have h3 := EqD.depth c.c
  have e1 : EqD.dep Sq = 1 := rfl
  have e2 : EqD.dep Int = 0 := rfl
  show PyData.depth (.tuple [Dat.dat c.a, Dat.dat c.b, Dat.dat c.c]) ≤ 2
  simp only [PyData.depth, PyData.depthAll]
  omega, fun a b => by
  have h1 := EqD.eqv a.a b.a
  have h2 := EqD.eqv a.b b.b
  have h3 := EqD.eqv a.c b.c
  show PyData.eqv (.tuple [Dat.dat a.a, Dat.dat a.b, Dat.dat a.c]) (.tuple [Dat.dat b.a, Dat.dat b.b, Dat.dat b.c]) = true ↔ a = b
  simp only [PyData.eqv, PyData.eqvAll, Bool.and_true]
  rw [Bool.and_eq_true, Bool.and_eq_true, h1, h2, h3]
  obtain ⟨a1, a2, a3⟩ := a
  obtain ⟨b1, b2, b3⟩ := b
  simp⟩
theorem says_is {rel : List Str} {td : List Int} (r : Rel rel) (ht : 0 < td.length) (ht2 : td.length ≤ 100000) {s g : Sq} (hs : isSq rel s = true) (hg : isSq rel g = true) (nn : Int) {p : List T3P} (hl : p.length < 100000) : Is (m__law_says rel td s g nn ⟨p⟩) true := by
  intro n Q q
  unfold m__law_says
  rw [WP.run_bind]
  refine Is.run (Is.bind (Is.bind Is.pure Is.pure) Is.pure) ?_
  rw [WP.run_bind]
  refine (show Gives (WP.b6 (WP.pure rel) (WP.pure td) (WP.pure s) (WP.pure g) (WP.pure nn) (WP.pure p) m_shows_late) _ from shows_late_gives r ht ht2 hs hg nn hl) n _ fun b hb => ?_
  rw [WP.run_bind]
  refine (law_is_late_gives r ht ht2 s g nn hl) n _ fun b2 hb2 => ?_
  have e : b = b2 := Bool.eq_iff_iff.mpr (hb.trans hb2.symm)
  subst e
  refine Is.run (a := true) ?_ ?_
  · refine (yes_is b b).eq (decide_eq_true rfl)
  · rw [WP.run_cond]
    refine ⟨fun _ => ?_, fun h => by cases h⟩
    refine Is.run (a := true) ((Is.eqLD (x := p) (y := p) Is.pure (Is.bind Is.pure Is.pure) (fun _ _ => trivial) (fun _ _ => trivial)).eq (decide_eq_true rfl)) ?_
    exact q
section
variable {rel : List Str} {td : List Int} {s g : Sq} {nn n : Int} {p p' : List T3P}
def Agr (rel : List Str) (td : List Int) (p p' : List T3P) : Prop := ∀ k : Sq × Int, 0 ≤ k.2 → k.2 < (td.length : Int) → dry rel td k.1 k.2 = true → hN p' k = hN p k
theorem Left.okL (L : Left rel td g nn p) : OkL rel td p := ⟨L.nd, fun x hx => by
  obtain ⟨h1, h2, h3⟩ := (L.mem (kk x)).mp (List.mem_map.mpr ⟨x, hx, rfl⟩)
  exact ⟨dry_sq h3, h1, h2, L.lo x hx⟩⟩
theorem Left.at (L : Left rel td g nn p) {k : Sq × Int} (h0 : 0 ≤ k.2) (h1 : k.2 < (td.length : Int)) (h2 : dry rel td k.1 k.2 = true) : ∃ x ∈ p, kk x = k ∧ hN p k = x.c := by
  obtain ⟨x, hx, rfl⟩ := List.mem_map.mp ((L.mem k).mpr ⟨h0, h1, h2⟩)
  exact ⟨x, hx, rfl, hN_mem L.nd hx⟩
theorem late_of (ht : 0 < td.length) (L : Left rel td g nn p) (ok : OkL rel td p') (ag : Agr rel td p p') (hst : dry rel td s 0 = true → n ≤ hN p (s, 0)) : Late rel td s g n p' := by
  have hgp : (0 : Int) < (td.length : Int) := by omega
  refine ⟨ok, fun h => ?_, fun i i0 i1 h => ?_, fun x hx h o ho hd => ?_⟩
  · rw [ag (s, 0) (Int.le_refl _) hgp h]; exact hst h
  · obtain ⟨x, hx, e, hv⟩ := L.at (k := (g, i)) i0 i1 h
    rw [ag (g, i) i0 i1 h, hv]
    exact L.go x hx (congrArg Prod.fst e)
  · obtain ⟨_, h0, h1, _⟩ := ok.ok x hx
    obtain ⟨y, hy, e, hv⟩ := L.at (k := kk x) h0 h1 h
    have e1 : x.c = y.c := by rw [← hN_mem ok.nd hx, ag (kk x) h0 h1 h, hv]
    have ea : y.a = x.a := congrArg Prod.fst e
    have eb : y.b = x.b := congrArg Prod.snd e
    have := L.le y hy o (by rw [ea]; exact ho) (by rw [eb]; exact hd)
    rw [eb] at this
    rw [ag (nx td o x.b) (Int.emod_nonneg _ (by omega)) (Int.emod_lt_of_pos _ hgp) (by show dry rel td o ((x.b + 1) % (td.length : Int)) = true; rw [dry_mod]; exact hd), e1]
    exact this
theorem agr_of (L : Left rel td g nn p) (nd : (p'.map kk).Nodup) (h : ∀ x ∈ p, x ∈ p' ∨ (x.c = 0 ∧ kk x ∉ p'.map kk)) : Agr rel td p p' := fun k h0 h1 h2 => by
  obtain ⟨x, hx, rfl, hv⟩ := L.at h0 h1 h2
  rw [hv]
  rcases h x hx with m | ⟨m1, m2⟩
  · exact hN_mem nd m
  · rw [hN_none m2, m1]
structure Damp (rel : List Str) (td : List Int) (d : List T3P) : Prop where
  nd : (d.map kk).Nodup
  wet : ∀ x ∈ d, inT rel td x ∧ dry rel td x.a x.b = false
theorem damp_app (L : Left rel td g nn p) {d d' : List T3P} (D : Damp rel td d) (hd : d'.Sublist d) : OkL rel td (p ++ d') ∧ OkL rel td (d' ++ p) := by
  have nd' : (d'.map kk).Nodup := D.nd.sublist (hd.map _)
  have dis : ∀ a ∈ p.map kk, ∀ b ∈ d'.map kk, a ≠ b := fun a ha b hb e => by
    obtain ⟨x, hx, rfl⟩ := List.mem_map.mp hb
    have h1 := (L.mem a).mp ha
    rw [e] at h1
    have h2 := (D.wet x (hd.subset hx)).2
    rw [show dry rel td x.a x.b = true from h1.2.2] at h2
    cases h2
  refine ⟨⟨?_, fun x hx => ?_⟩, ⟨?_, fun x hx => ?_⟩⟩
  · rw [List.map_append, List.nodup_append]; exact ⟨L.nd, nd', dis⟩
  · rcases List.mem_append.mp hx with h | h
    · exact L.okL.ok x h
    · exact (D.wet x (hd.subset h)).1
  · rw [List.map_append, List.nodup_append]; exact ⟨nd', L.nd, fun a ha b hb e => dis b hb a ha e.symm⟩
  · rcases List.mem_append.mp hx with h | h
    · exact (D.wet x (hd.subset h)).1
    · exact L.okL.ok x h
def Rgt (rel : List Str) (td : List Int) (p : List T3P) (x : Ls T3P) : Prop := OkL rel td x.l ∧ Agr rel td p x.l ∧ x.l.length < 100000
theorem rights_gives (r : Rel rel) (h40 : rel.length ≤ 40) (w40 : wid rel ≤ 40) (ht : 0 < td.length) (ht2 : td.length ≤ 12) (L : Left rel td g nn p) : Gives (m__law_rights rel td ⟨p⟩) (All (Rgt rel td p) 5) := by
  intro n Q q
  have hS : (allSq rel).length ≤ 1600 := by
    rw [allSq_len]
    exact Nat.le_trans (Nat.mul_le_mul h40 w40) (by decide)
  have hnd : (allSq rel).Nodup := allSq_nodup rel
  have hpl := L.len
  unfold m__law_rights
  rw [WP.run_bind]
  refine Is.run (a := []) (fun n Q z => ⟨by simp, z⟩) ?_
  rw [WP.run_bind]
  refine Is.run (law_all_is r.ch) ?_
  refine WP.after_inv (fun i m (y : List T3P) => m = n ∧ Damp rel td y ∧ (∀ x ∈ y, x.a ∈ (allSq rel).take i) ∧ y.length ≤ i * 12) ⟨rfl, ⟨List.nodup_nil, fun x m => by cases m⟩, (fun x m => by cases m), by simp⟩ (fun i m c y hc hi => ?_) (fun m y hy => ?_)
  · obtain ⟨rfl, D, i2, i4⟩ := hi
    have hcS : c ∉ (allSq rel).take i := take_nodupN hnd hc
    have hcq : isSq rel c = true := mem_allSq.mp (List.mem_of_getElem? hc)
    rw [WP.run_bind]
    refine Is.run (Is.range1 (Is.len Is.pure) (by omega)) ?_
    refine WP.after_inv (fun j m2 (y : List T3P) => m2 = m ∧ Damp rel td y ∧ (∀ x ∈ y, x.a ∈ (allSq rel).take i ∨ (x.a = c ∧ x.b < (j : Int))) ∧ y.length ≤ i * 12 + j) ⟨rfl, D, fun x hx => .inl (i2 x hx), by omega⟩ (fun j m2 t y ht' hj => ?_) (fun m2 y hy => ?_)
    · obtain ⟨rfl, D, j2, j4⟩ := hj
      have hr := rangeL0_get ht'
      have hil : i < (allSq rel).length := (List.getElem?_eq_some_iff.mp hc).1
      rw [WP.run_bind]
      refine Is.run (a := if dry rel td c t then y else y ++ [⟨c, t, (c.1 + 2 * c.2 + t) * 5⟩]) (Is.bind (Is.not (Is.b4' Is.pure Is.pure Is.pure Is.pure (law_dry_is r ht c t))) (Is.cond (fun h => ?_) fun h => ?_)) ?_
      · rw [Bool.not_eq_true'] at h
        rw [h, if_neg (by decide)]
        have hcq := isSq_iff.mp hcq
        have h40' : (rel.length : Int) ≤ 40 := by omega
        have w40' : (wid rel : Int) ≤ 40 := by omega
        refine Is.bind (Is.bind (Is.b3 Is.pure Is.pure (Is.b2 (Is.b2 (Is.b2 (Is.b1 Is.pure Is.pure) (Is.b2 Is.pure (Is.b1 Is.pure Is.pure) (Is.req (.inl ⟨by omega, by omega⟩))) Is.pure) Is.pure Is.pure) Is.pure (Is.req (.inl ⟨by omega, by omega⟩))) Is.pure) (Is.req (by omega))) Is.pure
      · rw [Bool.not_eq_false'] at h
        rw [h, if_pos rfl]; exact Is.pure
      · rw [WP.run_pure]
        have hrj : t = (j : Int) := hr.1
        by_cases h : dry rel td c t = true
        · rw [if_pos h]
          exact ⟨rfl, D, fun x hx => (j2 x hx).imp id fun z => ⟨z.1, by omega⟩, by omega⟩
        · rw [if_neg h]
          have h : dry rel td c t = false := by
            cases e : dry rel td c t with
            | false => rfl
            | true => exact absurd e h
          have hcq' := isSq_iff.mp hcq
          refine ⟨rfl, ⟨?_, fun x hx => ?_⟩, fun x hx => ?_, by rw [List.length_append, List.length_singleton]; omega⟩
          · rw [List.map_append, List.nodup_append]
            refine ⟨D.nd, by simp, fun a ha b hb z => ?_⟩
            have hb : b = (c, t) := by simpa [kk] using hb
            obtain ⟨x, hx, rfl⟩ := List.mem_map.mp ha
            rw [hb] at z
            rcases j2 x hx with w | w
            · rw [show x.a = c from congrArg Prod.fst z] at w
              exact hcS w
            · have : x.b = t := congrArg Prod.snd z
              omega
          · rcases List.mem_append.mp hx with hx | hx
            · exact D.wet x hx
            · rw [List.mem_singleton.mp hx]
              exact ⟨⟨hcq, by show 0 ≤ t; omega, by show t < (td.length : Int); omega, by show 0 ≤ (c.1 + 2 * c.2 + t) * 5; omega⟩, h⟩
          · rcases List.mem_append.mp hx with hx | hx
            · exact (j2 x hx).imp id fun z => ⟨z.1, by omega⟩
            · rw [List.mem_singleton.mp hx]
              exact .inr ⟨rfl, by show t < _; omega⟩
    · obtain ⟨rfl, D, j2, j4⟩ := hy
      rw [rangeL0_len] at j4
      rw [WP.run_pure]
      refine ⟨rfl, D, fun x hx => ?_, by omega⟩
      rw [take_snoc hc, List.mem_append]
      rcases j2 x hx with z | z
      · exact .inl z
      · exact .inr (by rw [z.1]; simp)
  · obtain ⟨rfl, D, i2, i4⟩ := hy
    have hyl : y.length ≤ 19200 := by omega
    have P0 : Rgt rel td p ⟨p⟩ := ⟨L.okL, fun k _ _ _ => rfl, by show p.length < 100000; omega⟩
    have P1 : Rgt rel td p ⟨p.reverse⟩ := by
      have nd : (p.reverse.map kk).Nodup := by rw [List.map_reverse]; exact (List.reverse_perm (p.map kk)).nodup_iff.mpr L.nd
      exact ⟨⟨nd, fun x hx => L.okL.ok x (List.mem_reverse.mp hx)⟩, agr_of L nd fun x hx => .inl (List.mem_reverse.mpr hx), by show p.reverse.length < 100000; rw [List.length_reverse]; omega⟩
    have P2 : Rgt rel td p ⟨p.filter fun x => decide (0 < x.c)⟩ := by
      have nd : ((p.filter fun x => decide (0 < x.c)).map kk).Nodup := L.nd.sublist (List.filter_sublist.map _)
      refine ⟨⟨nd, fun x hx => L.okL.ok x (List.mem_filter.mp hx).1⟩, agr_of L nd fun x hx => ?_, Nat.lt_of_le_of_lt (List.length_filter_le _ p) (by omega)⟩
      by_cases h : 0 < x.c
      · exact .inl (List.mem_filter.mpr ⟨hx, decide_eq_true h⟩)
      · have h0 : x.c = 0 := by have := L.lo x hx; omega
        refine .inr ⟨h0, fun m => ?_⟩
        obtain ⟨z, hz, e⟩ := List.mem_map.mp m
        obtain ⟨hz1, hz2⟩ := List.mem_filter.mp hz
        have e2 : z.c = x.c := by rw [← hN_mem L.nd hz1, ← hN_mem L.nd hx, e]
        have := of_decide_eq_true hz2
        omega
    have P3 : Rgt rel td p ⟨p ++ y⟩ := by
      have ok := (damp_app L D (List.Sublist.refl y)).1
      exact ⟨ok, agr_of L ok.nd fun x hx => .inl (List.mem_append_left _ hx), by show (p ++ y).length < 100000; rw [List.length_append]; omega⟩
    have hsub : (cutL y none (some 3)).Sublist y := (List.take_sublist _ _).trans (List.drop_sublist _ _)
    have P4 : Rgt rel td p ⟨cutL y none (some 3) ++ p⟩ := by
      have ok := (damp_app L D hsub).2
      exact ⟨ok, agr_of L ok.nd fun x hx => .inl (List.mem_append_right _ hx), by show (cutL y none (some 3) ++ p).length < 100000; rw [List.length_append]; have := hsub.length_le; omega⟩
    have hthaw : Is ((WP.pure (⟨p⟩ : Ls T3P)).bind fun x => WP.pure x.l) p := Is.bind Is.pure Is.pure
    rw [WP.run_bind]
    refine (Gives.row (n := 3) (Gives.consE (Gives.pure P0) (Gives.consE ((Is.bind (Is.bind hthaw Is.pure) Is.pure : Is _ (⟨p.reverse⟩ : Ls T3P)).gives P1) (Gives.consE ((Is.bind (Is.lcF (p := fun x => decide (0 < x.c)) hthaw (by omega) fun x _ => Is.b2 (Is.bind Is.pure Is.pure) Is.pure Is.pure) Is.pure : Is _ (⟨p.filter fun x => decide (0 < x.c)⟩ : Ls T3P)).gives P2) Gives.nilE))) (by decide)) m _ fun A hA => ?_
    have h3 : Is ((WP.cat ((WP.pure (⟨p⟩ : Ls T3P)).bind fun x => WP.pure x.l) (WP.pure y)).bind fun xs => WP.pure (⟨xs⟩ : Ls T3P)) ⟨p ++ y⟩ := Is.bind (Is.b2 hthaw Is.pure (Is.req (by omega))) Is.pure
    have h4 : Is ((WP.cat (WP.cut (WP.pure y) (WP.pure none) ((WP.pure (3 : Int)).bind fun x => WP.pure (some x))) ((WP.pure (⟨p⟩ : Ls T3P)).bind fun x => WP.pure x.l)).bind fun xs => WP.pure (⟨xs⟩ : Ls T3P)) ⟨cutL y none (some 3) ++ p⟩ := Is.bind (Is.b2 (Is.b3 Is.pure Is.pure (Is.bind Is.pure Is.pure) Is.pure) hthaw (Is.req (by have := hsub.length_le; omega))) Is.pure
    rw [WP.run_bind]
    refine (Gives.catA (n := 3) (m := 2) (Gives.pure hA) (Gives.row (n := 2) (Gives.consE (h3.gives P3) (Gives.consE (h4.gives P4) Gives.nilE)) (by decide)) (by decide)) m _ fun B hB => ?_
    rw [WP.run_pure]
    exact q B hB
def Bad (rel : List Str) (td : List Int) (x : Ls T3P) : Prop := ¬ OkL rel td x.l ∧ x.l.length < 100000
theorem bad_dup {z : T3P} (h : kk z ∈ p.map kk) : ¬ OkL rel td (p ++ [z]) ∧ ¬ OkL rel td ([z] ++ p) := ⟨fun ok => by
  have := ok.nd
  rw [List.map_append, List.nodup_append] at this
  exact this.2.2 _ h (kk z) (by simp) rfl, fun ok => by
  have := ok.nd
  rw [List.map_append, List.nodup_append] at this
  exact this.2.2 (kk z) (by simp) _ h rfl⟩
theorem bad_in {z : T3P} (h : z ∈ p') (hz : ¬ inT rel td z) : ¬ OkL rel td p' := fun ok => hz (ok.ok z h)
theorem draw_outs (r : Rel rel) (h40 : rel.length ≤ 40) (w40 : wid rel ≤ 40) (ht : 0 < td.length) (ht2 : td.length ≤ 12) (L : Left rel td g nn p) (hp : 0 < p.length) : Draws (m__law_outs () rel td ⟨p⟩) 1 (fun B => ∀ x ∈ B, Bad rel td x) := by
  intro n Q hn q
  have hpl := L.len
  have hthaw : Is ((WP.pure (⟨p⟩ : Ls T3P)).bind fun x => WP.pure x.l) p := Is.bind Is.pure Is.pure
  unfold m__law_outs
  rw [WP.run_bind]
  refine WP.mono _ (fun m c hc => ?_) (?_ : WP.run _ n (fun (m : Nat) (c : T3P) => m = n + 1 ∧ c ∈ p))
  rotate_left
  · (simp only [WP.run_bind, WP.run_pure, WP.run_req, WP.run_any, WP.run_take, WP.run_cond, WP.run_range1, WP.run_range2, decide_eq_true_eq, decide_eq_false_iff_not, Bool.not_eq_true', Bool.not_eq_false'])
    refine ⟨by omega, by omega, fun x x0 x1 => ⟨⟨by omega, by omega⟩, trivial, ixD_mem x0 x1⟩⟩
  obtain ⟨rfl, hc⟩ := hc
  obtain ⟨cq, c0, c1, c2⟩ := L.okL.ok c hc
  have hcq := isSq_iff.mp cq
  have hck : kk c ∈ p.map kk := List.mem_map.mpr ⟨c, hc, rfl⟩
  have app : ∀ z : T3P, Is ((WP.cat ((WP.pure (⟨p⟩ : Ls T3P)).bind fun x => WP.pure x.l) (WP.row (WP.consE (WP.tri (WP.pure z.a) (WP.pure z.b) (WP.pure z.c)) (WP.pure ([] : List (Tri Sq Int Int)))))).bind fun xs => WP.pure (⟨xs⟩ : Ls T3P)) ⟨p ++ [z]⟩ := fun z => Is.bind (Is.b2 (y := [z]) hthaw (fun n Q q => ⟨by simp, q⟩) (Is.req (by rw [List.length_singleton]; omega))) Is.pure
  have lapp : ∀ z : T3P, (p ++ [z]).length < 100000 := fun z => by rw [List.length_append, List.length_singleton]; omega
  have k0 : Is ((WP.cat (WP.row (WP.consE (WP.tri (WP.pure c.a) (WP.pure c.b) (WP.pure (0 : Int))) (WP.pure ([] : List (Tri Sq Int Int))))) ((WP.pure (⟨p⟩ : Ls T3P)).bind fun x => WP.pure x.l)).bind fun xs => WP.pure (⟨xs⟩ : Ls T3P)) ⟨[⟨c.a, c.b, 0⟩] ++ p⟩ := Is.bind (Is.b2 (x := [⟨c.a, c.b, 0⟩]) (fun n Q q => ⟨by simp, q⟩) hthaw (Is.req (by rw [List.length_singleton]; omega))) Is.pure
  rw [WP.run_bind]
  refine Is.run (Is.pure : Is (WP.pure c.a) c.a) ?_
  rw [WP.run_bind]
  refine Is.run (Is.len Is.pure) ?_
  rw [WP.run_bind]
  refine (Gives.row (n := 3) (P := Bad rel td) (Gives.consE ((app ⟨c.a, c.b, c.c⟩).gives ⟨(bad_dup hck).1, lapp _⟩) (Gives.consE (k0.gives ⟨(bad_dup (z := ⟨c.a, c.b, 0⟩) hck).2, by show ([(⟨c.a, c.b, 0⟩ : T3P)] ++ p).length < 100000; rw [List.length_append, List.length_singleton]; omega⟩) (Gives.consE (w := (WP.cat ((WP.pure (⟨p⟩ : Ls T3P)).bind fun x => WP.pure x.l) (WP.row (WP.consE (WP.tri (WP.pure c.a) (WP.pure c.b) (WP.add (WP.pure c.c) (WP.pure (1 : Int)))) (WP.pure ([] : List (Tri Sq Int Int)))))).bind fun xs => WP.pure (⟨xs⟩ : Ls T3P)) ((app ⟨c.a, c.b, c.c + 1⟩).gives ⟨(bad_dup (z := ⟨c.a, c.b, c.c + 1⟩) hck).1, lapp _⟩) Gives.nilE))) (by decide)) (n + 1) _ fun A hA => ?_
  rw [WP.run_bind]
  refine Is.run (Is.len Is.pure) ?_
  rw [WP.run_bind]
  refine Is.run (Is.wid0 r.ch) ?_
  rw [WP.run_bind]
  refine Is.run (a := [(c.a.1 - (rel.length : Int), c.a.2), (c.a.1, c.a.2 - (wid rel : Int)), (c.a.1 + (rel.length : Int), c.a.2), (c.a.1, c.a.2 + (wid rel : Int)), (0 - 1, 0 - 1), (41, c.a.2)]) (fun n Q q => ⟨by simp, q⟩) ?_
  have bsq : ∀ o ∈ [(c.a.1 - (rel.length : Int), c.a.2), (c.a.1, c.a.2 - (wid rel : Int)), (c.a.1 + (rel.length : Int), c.a.2), (c.a.1, c.a.2 + (wid rel : Int)), (0 - 1, 0 - 1), (41, c.a.2)], ¬ isSq rel o = true := fun o ho h => by
    have h := isSq_iff.mp h
    simp only [List.mem_cons, List.not_mem_nil, or_false] at ho
    rcases ho with e | e | e | e | e | e <;> subst e <;> simp only at h <;> omega
  refine WP.after_inv (fun i m y => m = n + 1 ∧ All (Bad rel td) (3 + i) y) ⟨rfl, hA⟩ (fun i m o y ho hi => ?_) (fun m y hy => ?_)
  · obtain ⟨rfl, hi⟩ := hi
    have hil : i < 6 := (List.getElem?_eq_some_iff.mp ho).1
    rw [WP.run_bind]
    refine (Gives.app ((app ⟨o, c.b, 0⟩).gives ⟨bad_in (z := ⟨o, c.b, 0⟩) (by simp) fun z => bsq o (List.mem_of_getElem? ho) z.1, lapp _⟩) hi (by omega)) _ _ fun B hB => ?_
    rw [WP.run_pure]
    exact ⟨rfl, hB⟩
  · obtain ⟨rfl, hy⟩ := hy
    rw [WP.run_bind]
    refine Is.run (a := [0 - 1, (td.length : Int), c.b - (td.length : Int), c.b + (td.length : Int), 99]) (fun n Q q => ⟨by simp, q⟩) ?_
    have bix : ∀ o ∈ [0 - 1, (td.length : Int), c.b - (td.length : Int), c.b + (td.length : Int), 99], ¬ (0 ≤ o ∧ o < (td.length : Int)) := fun o ho h => by
      simp only [List.mem_cons, List.not_mem_nil, or_false] at ho
      rcases ho with e | e | e | e | e <;> subst e <;> omega
    refine WP.after_inv (fun i m y => m = n + 1 ∧ All (Bad rel td) (9 + i) y) ⟨rfl, hy⟩ (fun i m o y ho hi => ?_) (fun m y hy => ?_)
    · obtain ⟨rfl, hi⟩ := hi
      have hil : i < 5 := (List.getElem?_eq_some_iff.mp ho).1
      rw [WP.run_bind]
      refine (Gives.app ((app ⟨c.a, o, 0⟩).gives ⟨bad_in (z := ⟨c.a, o, 0⟩) (by simp) fun z => bix o (List.mem_of_getElem? ho) ⟨z.2.1, z.2.2.1⟩, lapp _⟩) hi (by omega)) _ _ fun B hB => ?_
      rw [WP.run_pure]
      exact ⟨rfl, hB⟩
    · obtain ⟨rfl, hy⟩ := hy
      rw [WP.run_bind]
      refine Is.run (Is.lcF (p := fun x => !decide (kk x = kk c)) hthaw (by omega) fun x _ => Is.neD (α := Sq × Int) (x := kk x) (y := kk c) (Is.bind Is.pure Is.pure) (Is.b2 Is.pure Is.pure Is.pure) (show EqD.ok (kk x) from ⟨ok_sq _, trivial⟩) (show EqD.ok (kk c) from ⟨ok_sq _, trivial⟩)) ?_
      have hfl := List.length_filter_le (fun x => !decide (kk x = kk c)) p
      generalize p.filter (fun x => !decide (kk x = kk c)) = rs at hfl ⊢
      have k1 : Is ((WP.cat (WP.pure rs) (WP.row (WP.consE (WP.tri (WP.pure c.a) (WP.pure c.b) (WP.sub (WP.pure (0 : Int)) (WP.pure (1 : Int)))) (WP.pure ([] : List (Tri Sq Int Int)))))).bind fun xs => WP.pure (⟨xs⟩ : Ls T3P)) ⟨rs ++ [⟨c.a, c.b, 0 - 1⟩]⟩ := Is.bind (Is.b2 (y := [⟨c.a, c.b, 0 - 1⟩]) Is.pure (fun n Q q => ⟨by simp, q⟩) (Is.req (by rw [List.length_singleton]; omega))) Is.pure
      have k2 : Is ((WP.cat (WP.row (WP.consE (WP.tri (WP.pure c.a) (WP.pure c.b) (WP.sub (WP.pure (0 : Int)) (WP.pure (2 : Int)))) (WP.pure ([] : List (Tri Sq Int Int))))) (WP.pure rs)).bind fun xs => WP.pure (⟨xs⟩ : Ls T3P)) ⟨[⟨c.a, c.b, 0 - 2⟩] ++ rs⟩ := Is.bind (Is.b2 (x := [⟨c.a, c.b, 0 - 2⟩]) (fun n Q q => ⟨by simp, q⟩) Is.pure (Is.req (by rw [List.length_singleton]; omega))) Is.pure
      rw [WP.run_bind]
      refine (Gives.catA (n := 14) (m := 2) (P := Bad rel td) (Gives.pure hy) (Gives.row (n := 2) (Gives.consE (k1.gives ⟨bad_in (z := ⟨c.a, c.b, 0 - 1⟩) (by simp) fun z => absurd z.2.2.2 (by show ¬ (0 : Int) ≤ 0 - 1; omega), by show (rs ++ [_]).length < 100000; rw [List.length_append, List.length_singleton]; omega⟩) (Gives.consE (k2.gives ⟨bad_in (z := ⟨c.a, c.b, 0 - 2⟩) (by simp) fun z => absurd z.2.2.2 (by show ¬ (0 : Int) ≤ 0 - 2; omega), by show ([_] ++ rs).length < 100000; rw [List.length_append, List.length_singleton]; omega⟩) Gives.nilE)) (by decide)) (by decide)) _ _ fun B hB => ?_
      rw [WP.run_pure]
      exact q _ _ (by omega) (by omega) hB.2
def Sm (x : Ls T3P) : Prop := x.l.length < 100000
theorem frzS {w : WP (List T3P)} {n : Nat} (h : Gives w (Le n)) (hn : n < 100000) : Gives (w.bind fun xs => WP.pure (⟨xs⟩ : Ls T3P)) Sm := h.bind fun _ hx => Gives.pure (Nat.lt_of_le_of_lt hx hn)
theorem tri_gives {a : WP Sq} {b c : WP Int} (h : Gives a tt) (h' : Gives b tt) (h2 : Gives c tt) : Gives (WP.tri a b c) tt := h.bind fun _ _ => h'.bind fun _ _ => h2.bind fun _ _ => Gives.pure trivial
theorem draw_bends (ht : 0 < td.length) (hpl : p.length ≤ 19200) (hp : 0 < p.length) : Draws (m__law_bends () td s g ⟨p⟩ nn) 1 (fun B => ∀ x ∈ B, Sm x) := by
  intro n Q hn q
  have hthaw : Gives ((WP.pure (⟨p⟩ : Ls T3P)).bind fun x => WP.pure x.l) (Le 19200) := (Is.bind Is.pure Is.pure).gives (a := p) hpl
  have hgp : (0 : Int) < (td.length : Int) := by omega
  unfold m__law_bends
  rw [WP.run_bind]
  refine WP.mono _ (fun m at0 hat => ?_) (?_ : WP.run _ n (fun (m : Nat) (k : Int) => m = n + 1 ∧ 0 ≤ k ∧ k < (p.length : Int)))
  rotate_left
  · (simp only [WP.run_bind, WP.run_pure, WP.run_req, WP.run_any, WP.run_take, WP.run_cond, WP.run_range1, WP.run_range2, decide_eq_true_eq, decide_eq_false_iff_not, Bool.not_eq_true', Bool.not_eq_false'])
    exact ⟨by omega, by omega, fun x x0 x1 => ⟨trivial, x0, x1⟩⟩
  obtain ⟨rfl, a0, a1⟩ := hat
  rw [WP.run_bind]
  refine Is.run (Is.ix (Is.bind Is.pure Is.pure) Is.pure ⟨by show -((p.length : Nat) : Int) ≤ at0; omega, a1⟩) ?_
  generalize ixD (Ls.l (⟨p⟩ : Ls T3P)) at0 = c
  have cl : ∀ k : WP Int, Gives k tt → Gives (WP.cut ((WP.pure (⟨p⟩ : Ls T3P)).bind fun x => WP.pure x.l) (WP.pure none) (k.bind fun x => WP.pure (some x))) (Le 19200) := fun k hk => Gives.cut hthaw Gives.none (Gives.some hk)
  have ch : ∀ k : WP Int, Gives k tt → Gives (WP.cut ((WP.pure (⟨p⟩ : Ls T3P)).bind fun x => WP.pure x.l) (k.bind fun x => WP.pure (some x)) (WP.pure none)) (Le 19200) := fun k hk => Gives.cut hthaw (Gives.some hk) Gives.none
  have t1 : Gives (WP.add (WP.pure at0) (WP.pure (1 : Int))) tt := (Is.b2 Is.pure Is.pure Is.pure).gives trivial
  have one : ∀ w : WP T3P, Gives w tt → Gives (WP.row (WP.consE w (WP.pure ([] : List T3P)))) (Le 1) := fun w hw => Gives.rowL (Gives.consE hw Gives.nilE) (by decide)
  rw [WP.run_bind]
  refine (Gives.row (n := 3) (P := Sm) (Gives.consE (frzS (Gives.cat (cl _ Gives.any) (ch _ t1) (by decide)) (by decide)) (Gives.consE (frzS (cl _ Gives.any) (by decide)) (Gives.consE (frzS (ch _ Gives.any) (by decide)) Gives.nilE))) (by decide)) _ _ fun A hA => ?_
  rw [WP.run_bind]
  refine Is.run (a := [0, if c.c - 1 > 0 then c.c - 1 else 0, c.c + 1, c.c + 2]) (fun n Q q => ⟨by simp, q⟩) ?_
  refine WP.after_inv (fun i m y => m = n + 1 ∧ All Sm (3 + i) y) ⟨rfl, hA⟩ (fun i m o y ho hi => ?_) (fun m y hy => ?_)
  · obtain ⟨rfl, hi⟩ := hi
    have hil : i < 4 := (List.getElem?_eq_some_iff.mp ho).1
    rw [WP.run_bind]
    refine (Gives.app (frzS (Gives.cat (Gives.cat (cl _ Gives.any) (one _ (tri_gives Gives.any Gives.any Gives.any)) (by decide)) (ch _ t1) (by decide)) (by decide)) hi (by omega)) _ _ fun B hB => ?_
    rw [WP.run_pure]
    exact ⟨rfl, hB⟩
  · obtain ⟨rfl, hy⟩ := hy
    have hy : All Sm 7 y := hy
    rw [WP.run_bind]
    refine (Gives.app (frzS (Gives.cat (Gives.cat (cl _ Gives.any) (one _ (tri_gives Gives.any (Gives.b2 (P := tt) (P' := fun y => y = (td.length : Int)) ((Is.b2 Is.pure Is.pure Is.pure).gives trivial) ((Is.len Is.pure).gives rfl) fun x y _ hy => Gives.req (by omega) trivial) Gives.any)) (by decide)) (ch _ t1) (by decide)) (by decide)) hy (by decide)) _ _ fun B hB => ?_
    rw [WP.run_bind]
    refine (Gives.app (frzS ((Gives.lcM hthaw (by decide) fun x => tri_gives Gives.any Gives.any ((Is.b2 Is.pure (Is.b2 Is.pure Is.pure Is.pure) Is.pure).gives trivial)).imp fun _ h => h.1) (by decide)) hB (by decide)) _ _ fun B hB => ?_
    rw [WP.run_bind]
    refine (Gives.app (frzS ((Gives.lcM hthaw (by decide) fun x => tri_gives Gives.any Gives.any ((Is.b2 Is.pure Is.pure Is.pure).gives trivial)).imp fun _ h => h.1) (by decide)) hB (by decide)) _ _ fun B hB => ?_
    rw [WP.run_bind]
    refine (Gives.app (frzS ((Gives.lcM hthaw (by decide) fun x => tri_gives Gives.any Gives.any ((Is.b2 Is.pure (Is.b2 Is.pure (Is.bind (Is.and (Is.eqD Is.pure Is.pure (ok_sq _) (ok_sq _)) fun _ => Is.b2 Is.pure Is.pure Is.pure) Is.pure) Is.pure) Is.pure).gives trivial)).imp fun _ h => h.1) (by decide)) hB (by decide)) _ _ fun B hB => ?_
    rw [WP.run_bind]
    refine (Gives.app (frzS ((Gives.lcM hthaw (by decide) fun x => tri_gives Gives.any Gives.any ((Is.b2 Is.pure (Is.bind (Is.eqD Is.pure Is.pure (ok_sq _) (ok_sq _)) Is.pure) Is.pure).gives trivial)).imp fun _ h => h.1) (by decide)) hB (by decide)) _ _ fun B hB => ?_
    rw [WP.run_bind]
    refine (Gives.app (frzS ((Gives.lcM hthaw (by decide) fun x => tri_gives Gives.any Gives.any ((Is.ite (Is.eqD Is.pure Is.pure (ok_sq _) (ok_sq _)) (fun _ => Is.pure) fun _ => Is.pure).gives trivial)).imp fun _ h => h.1) (by decide)) hB (by decide)) _ _ fun B hB => ?_
    rw [WP.run_pure]
    exact q _ _ (by omega) (by omega) hB.2
end
theorem asked {rel : List Str} {td : List Int} (r : Rel rel) (ht : 0 < td.length) (ht2 : td.length ≤ 100000) {s g : Sq} (hs : isSq rel s = true) (hg : isSq rel g = true) (z : Int) (due : Bool) {x : Ls T3P} (hl : x.l.length < 100000) (hd : Late rel td s g z x.l ↔ due = true) : Is (WP.not (WP.b2 (WP.b6 (WP.pure rel) (WP.pure td) (WP.pure s) (WP.pure g) (WP.pure z) (((WP.pure x).bind fun x => WP.pure x.l).bind fun xs => WP.pure (α := List _) xs) m_shows_late) (WP.pure due) m__law_yes)) false := by
  intro n Q q
  rw [WP.run_bind, WP.run_bind]
  refine (show Gives (WP.b6 (WP.pure rel) (WP.pure td) (WP.pure s) (WP.pure g) (WP.pure z) (((WP.pure x).bind fun x => WP.pure x.l).bind fun xs => WP.pure (α := List _) xs) m_shows_late) _ from shows_late_gives r ht ht2 hs hg z hl) n _ fun b hb => ?_
  rw [WP.run_bind, WP.run_pure]
  refine Is.run (yes_is b due) ?_
  rw [WP.run_pure]
  have e : b = due := Bool.eq_iff_iff.mpr (hb.trans hd)
  rw [decide_eq_true e]
  exact q
theorem law_plain (ns : List Int) (h : ns.length ≤ 63) : (m_law ns).run 0 fun _ b => b = true := by
  unfold m_law
  rw [WP.run_bind]
  refine draw_sizes (most := 4) (by decide) (by decide) 0 _ (by decide) fun n1 sz _ h1 hsz => ?_
  rw [WP.run_bind]
  refine draw_relief hsz.1 hsz.2.1 hsz.2.2.1 hsz.2.2.2 n1 _ (by omega) fun n2 rel _ h2 ⟨r, hl, hw⟩ => ?_
  rw [WP.run_bind]
  refine draw_tide n2 _ (by omega) fun n3 td _ h3 ⟨ht, ht2⟩ => ?_
  have h40 : rel.length ≤ 40 := by omega
  have w40 : wid rel ≤ 40 := by omega
  have htp : 0 < td.length := ht
  rw [WP.run_bind]
  refine draw_start r htp n3 _ (by omega) fun n4 s _ h4 hs => ?_
  have har := r.ch.area
  have hpos : 0 < (allSq rel).length := by
    rw [allSq_len]
    exact Nat.mul_pos r.ch.ne r.ch.w0
  rw [WP.run_bind, WP.run_bind, WP.run_pure, WP.run_bind]
  refine Is.run (law_all_is r.ch) ?_
  refine draw_pick hpos (by omega) n4 _ (by omega) fun n5 g _ h5 hg => ?_
  have hg := mem_allSq.mp hg
  rw [WP.run_bind]
  refine WP.mono _ (fun n6 nn hnn => ?_) (?_ : WP.run _ n5 (fun (m : Nat) (k : Int) => m = n5 + 1 ∧ 0 ≤ k ∧ k < 10))
  rotate_left
  · (simp only [WP.run_bind, WP.run_pure, WP.run_req, WP.run_any, WP.run_take, WP.run_cond, WP.run_range1, WP.run_range2, decide_eq_true_eq, decide_eq_false_iff_not, Bool.not_eq_true', Bool.not_eq_false'])
    exact ⟨by omega, by decide, fun x x0 x1 => ⟨trivial, x0, x1⟩⟩
  obtain ⟨rfl, nn0, nn1⟩ := hnn
  rw [WP.run_bind, WP.run_bind]
  refine (left_gives r h40 w40 htp ht2 g nn nn0 (by omega)) _ _ fun p L => ?_
  rw [WP.run_pure, WP.run_bind, WP.run_pure, WP.run_bind, WP.run_bind, WP.run_pure, WP.run_pure]
  have hpl := L.len
  refine WP.after_inv (fun i m z => m = n5 + 1 ∧ ((∃ x ∈ p.take i, x.a = s ∧ x.b = 0 ∧ z = x.c) ∨ ((∀ x ∈ p.take i, ¬ (x.a = s ∧ x.b = 0)) ∧ z = nn))) ⟨rfl, .inr ⟨(fun x m => by simp at m), rfl⟩⟩ (fun i m c z hc hi => ?_) (fun m z hz => ?_)
  · obtain ⟨rfl, hi⟩ := hi
    rw [WP.run_bind]
    refine Is.run (a := if c.a = s ∧ c.b = 0 then c.c else z) (Is.bind (Is.and (Is.eqD Is.pure Is.pure (ok_sq _) (ok_sq _)) fun _ => Is.b2 Is.pure Is.pure Is.pure) (Is.cond (fun h => ?_) fun h => ?_)) ?_
    · rw [Bool.and_eq_true] at h
      rw [if_pos ⟨of_decide_eq_true h.1, of_decide_eq_true h.2⟩]
      exact Is.bind Is.pure Is.pure
    · rw [if_neg fun w => by rw [decide_eq_true w.1, decide_eq_true w.2] at h; cases h]
      exact Is.pure
    · rw [WP.run_pure]
      refine ⟨rfl, ?_⟩
      rw [take_snoc hc]
      by_cases e : c.a = s ∧ c.b = 0
      · rw [if_pos e]
        exact .inl ⟨c, by simp, e.1, e.2, rfl⟩
      · rw [if_neg e]
        rcases hi with ⟨x, hx, h⟩ | ⟨h1, h2⟩
        · exact .inl ⟨x, List.mem_append_left _ hx, h⟩
        · refine .inr ⟨fun x hx => ?_, h2⟩
          rcases List.mem_append.mp hx with hx | hx
          · exact h1 x hx
          · rw [List.mem_singleton.mp hx]; exact e
  obtain ⟨rfl, hz⟩ := hz
  have hst : dry rel td s 0 = true → z ≤ hN p (s, 0) := fun hd => by
    rw [List.take_length] at hz
    rcases hz with ⟨x, hx, e1, e2, e3⟩ | ⟨h1, h2⟩
    · have : kk x = (s, 0) := Prod.ext e1 e2
      rw [← this, hN_mem L.nd hx, e3]
      exact Int.le_refl _
    · obtain ⟨x, hx, e, _⟩ := L.at (k := (s, 0)) (Int.le_refl _) (by show (0 : Int) < _; omega) hd
      exact absurd ⟨congrArg Prod.fst e, congrArg Prod.snd e⟩ (h1 x hx)
  have tail : ∀ m, (WP.bind (WP.row (WP.consE (WP.pure (0 : Int)) (WP.consE (WP.max2 (WP.pure (0 : Int)) (WP.sub (WP.pure z) (WP.pure (1 : Int)))) (WP.consE (WP.add (WP.pure z) (WP.pure (1 : Int))) (WP.consE (WP.pow (WP.pure (10 : Int)) (WP.pure (20 : Int))) (WP.pure ([] : List Int))))))) fun xs27 => WP.after (WP.loop (γ := Bool) (fun c27 (y27 : Unit) => (WP.row (WP.consE ((WP.row (WP.pure ([] : List (Tri Sq Int Int)))).bind fun xs => WP.pure (⟨xs⟩ : (Ls (Tri Sq Int Int)))) (WP.consE (WP.pure (⟨p⟩ : Ls T3P)) (WP.pure ([] : List (Ls (Tri Sq Int Int))))))).bind fun xs28 => WP.after (WP.loop (γ := Bool) (fun c28 (y28 : Unit) => (WP.not (WP.b6 (WP.pure rel) (WP.pure td) (WP.pure s) (WP.pure g) (WP.pure c27) (WP.pure c28) m__law_says)).bind fun b => WP.cond b ((WP.pure false).bind fun r30 => (WP.pure (.rt r30))) ((WP.pure (.nx ())))) xs28 ()) (fun (z28 : Unit) => (WP.pure (.nx ()))) (fun r => (WP.pure (.rt r)))) xs27 ()) (fun (z27 : Unit) => (WP.pure true).bind fun r31 => (WP.pure r31)) (fun r => (WP.pure r))).run m fun _ b => b = true := fun m => by
    rw [WP.run_bind]
    refine Is.run (a := [0, if z - 1 > 0 then z - 1 else 0, z + 1, 10 ^ 20]) ?_ ?_
    · exact fun n Q q => ⟨⟨by decide, by decide⟩, by simp, q⟩
    refine WP.after_inv (fun i k _ => k = m) rfl (fun i k c u hc hk => ?_) (fun k u hk => ?_)
    · subst hk
      rw [WP.run_bind]
      refine Is.run (a := [⟨[]⟩, ⟨p⟩]) (fun n Q q => ⟨by simp, by simp, q⟩) ?_
      refine WP.after_inv (fun i k2 _ => k2 = k) rfl (fun i k2 x u hx hk => ?_) (fun k2 u hk => ?_)
      · subst hk
        have hxl : x.l.length < 100000 := by
          have := List.mem_of_getElem? hx
          simp only [List.mem_cons, List.not_mem_nil, or_false] at this
          rcases this with e | e <;> subst e
          · show ([] : List T3P).length < 100000; decide
          · show p.length < 100000; omega
        rw [WP.run_bind]
        refine Is.run (Is.not (says_is r htp (by omega) hs hg c hxl)) ?_
        rw [WP.run_cond]
        exact ⟨(fun h => by cases h), fun _ => rfl⟩
      · exact hk
    · trivial
  rw [WP.run_bind]
  refine (rights_gives r h40 w40 htp ht2 L) _ _ fun R hR => ?_
  refine WP.after_inv (fun i k _ => k = n5 + 1) rfl (fun i k x u hx hk => ?_) (fun k u hk => ?_)
  · subst hk
    obtain ⟨x1, x2, x3⟩ := hR.2 x (List.mem_of_getElem? hx)
    rw [WP.run_bind]
    refine Is.run (asked r htp (by omega) hs hg z true x3 ⟨fun _ => rfl, fun _ => late_of htp L x1 x2 hst⟩) ?_
    rw [WP.run_cond]
    exact ⟨(fun h => by cases h), fun _ => rfl⟩
  subst hk
  rw [WP.run_bind]
  refine Is.run (Is.b2 (Is.len (Is.bind Is.pure Is.pure)) Is.pure Is.pure) ?_
  rw [WP.run_cond]
  refine ⟨fun hp => ?_, fun _ => tail _⟩
  have hp : 0 < p.length := by
    have := of_decide_eq_true hp
    have h2 : (0 : Int) < (p.length : Int) := this
    omega
  rw [WP.run_bind]
  refine (draw_outs r h40 w40 htp ht2 L hp) _ _ (by omega) fun n7 B _ h7 hB => ?_
  refine WP.after_inv (fun i k _ => k = n7) rfl (fun i k x u hx hk => ?_) (fun k u hk => ?_)
  · subst hk
    obtain ⟨x1, x3⟩ := hB x (List.mem_of_getElem? hx)
    rw [WP.run_bind]
    refine Is.run (asked r htp (by omega) hs hg z false x3 ⟨fun w => absurd w.ok x1, (fun w => by cases w)⟩) ?_
    rw [WP.run_cond]
    exact ⟨(fun h => by cases h), fun _ => rfl⟩
  subst hk
  rw [WP.run_bind]
  refine (draw_bends htp hpl hp) _ _ (by omega) fun n8 C _ h8 hC => ?_
  refine WP.after_inv (fun i k _ => k = n8) rfl (fun i k x u hx hk => ?_) (fun k u hk => ?_)
  · subst hk
    rw [WP.run_bind]
    refine Is.run (Is.not (says_is r htp (by omega) hs hg z (hC x (List.mem_of_getElem? hx)))) ?_
    rw [WP.run_cond]
    exact ⟨(fun h => by cases h), fun _ => rfl⟩
  subst hk
  exact tail _
end W

namespace W
open PySem PySem.Spec L2 Y
section
theorem all_mk {l : PySem.W.OpenLaw} {w : World} {K : PySem.W.Frag} {h : Heap} {mg : Str → Option Value} {fa f__law_take f__law_deal f_is_square f_side_neighbours f_height f_is_dry f_stays f_steps_from f_pair_is_right f_late_heights f_shows_late f__law_pick f__law_yes f__law_in f__law_high f__law_all f__law_sides f__law_height f__law_relief f__law_sizes f__law_tide f__law_dry f__law_stays f__law_start f__law_is_late f__law_left f__law_rights f__law_outs f__law_bends f__law_says f_law : Addr} (X : K.In h) (G : h.Ns mainGlobals mg) (hfa : mg "law" = some (.ref fa))
    {od__law_take an__law_take : Option Addr} {od__law_deal an__law_deal : Option Addr} {od_is_square an_is_square : Option Addr} {od_side_neighbours an_side_neighbours : Option Addr} {od_height an_height : Option Addr} {od_is_dry an_is_dry : Option Addr} {od_stays an_stays : Option Addr} {od_steps_from an_steps_from : Option Addr} {od_pair_is_right an_pair_is_right : Option Addr} {od_late_heights an_late_heights : Option Addr} {od_shows_late an_shows_late : Option Addr} {od__law_pick an__law_pick : Option Addr} {od__law_yes an__law_yes : Option Addr} {od__law_in an__law_in : Option Addr} {od__law_high an__law_high : Option Addr} {od__law_all an__law_all : Option Addr} {od__law_sides an__law_sides : Option Addr} {od__law_height an__law_height : Option Addr} {od__law_relief an__law_relief : Option Addr} {od__law_sizes an__law_sizes : Option Addr} {od__law_tide an__law_tide : Option Addr} {od__law_dry an__law_dry : Option Addr} {od__law_stays an__law_stays : Option Addr} {od__law_start an__law_start : Option Addr} {od__law_is_late an__law_is_late : Option Addr} {od__law_left an__law_left : Option Addr} {od__law_rights an__law_rights : Option Addr} {od__law_outs an__law_outs : Option Addr} {od__law_bends an__law_bends : Option Addr} {od__law_says an__law_says : Option Addr} {od_law an_law : Option Addr} {sl__law_take : Array (Option Value)} {oc__law_take kV__law_take dc__law_take pm__law_take cd__law_take ct__law_take : Value} {sl__law_deal : Array (Option Value)} {oc__law_deal kV__law_deal dc__law_deal pm__law_deal cd__law_deal ct__law_deal : Value} {sl_is_square : Array (Option Value)} {oc_is_square kV_is_square dc_is_square pm_is_square cd_is_square ct_is_square : Value} {sl_side_neighbours : Array (Option Value)} {oc_side_neighbours kV_side_neighbours dc_side_neighbours pm_side_neighbours cd_side_neighbours ct_side_neighbours : Value} {sl_height : Array (Option Value)} {oc_height kV_height dc_height pm_height cd_height ct_height : Value} {sl_is_dry : Array (Option Value)} {oc_is_dry kV_is_dry dc_is_dry pm_is_dry cd_is_dry ct_is_dry : Value} {sl_stays : Array (Option Value)} {oc_stays kV_stays dc_stays pm_stays cd_stays ct_stays : Value} {sl_steps_from : Array (Option Value)} {oc_steps_from kV_steps_from dc_steps_from pm_steps_from cd_steps_from ct_steps_from : Value} {sl_pair_is_right : Array (Option Value)} {oc_pair_is_right kV_pair_is_right dc_pair_is_right pm_pair_is_right cd_pair_is_right ct_pair_is_right : Value} {sl_late_heights : Array (Option Value)} {oc_late_heights kV_late_heights dc_late_heights pm_late_heights cd_late_heights ct_late_heights : Value} {sl_shows_late : Array (Option Value)} {oc_shows_late kV_shows_late dc_shows_late pm_shows_late cd_shows_late ct_shows_late : Value} {sl__law_pick : Array (Option Value)} {oc__law_pick kV__law_pick dc__law_pick pm__law_pick cd__law_pick ct__law_pick : Value} {sl__law_yes : Array (Option Value)} {oc__law_yes kV__law_yes dc__law_yes pm__law_yes cd__law_yes ct__law_yes : Value} {sl__law_in : Array (Option Value)} {oc__law_in kV__law_in dc__law_in pm__law_in cd__law_in ct__law_in : Value} {sl__law_high : Array (Option Value)} {oc__law_high kV__law_high dc__law_high pm__law_high cd__law_high ct__law_high : Value} {sl__law_all : Array (Option Value)} {oc__law_all kV__law_all dc__law_all pm__law_all cd__law_all ct__law_all : Value} {sl__law_sides : Array (Option Value)} {oc__law_sides kV__law_sides dc__law_sides pm__law_sides cd__law_sides ct__law_sides : Value} {sl__law_height : Array (Option Value)} {oc__law_height kV__law_height dc__law_height pm__law_height cd__law_height ct__law_height : Value} {sl__law_relief : Array (Option Value)} {oc__law_relief kV__law_relief dc__law_relief pm__law_relief cd__law_relief ct__law_relief : Value} {sl__law_sizes : Array (Option Value)} {oc__law_sizes kV__law_sizes dc__law_sizes pm__law_sizes cd__law_sizes ct__law_sizes : Value} {sl__law_tide : Array (Option Value)} {oc__law_tide kV__law_tide dc__law_tide pm__law_tide cd__law_tide ct__law_tide : Value} {sl__law_dry : Array (Option Value)} {oc__law_dry kV__law_dry dc__law_dry pm__law_dry cd__law_dry ct__law_dry : Value} {sl__law_stays : Array (Option Value)} {oc__law_stays kV__law_stays dc__law_stays pm__law_stays cd__law_stays ct__law_stays : Value} {sl__law_start : Array (Option Value)} {oc__law_start kV__law_start dc__law_start pm__law_start cd__law_start ct__law_start : Value} {sl__law_is_late : Array (Option Value)} {oc__law_is_late kV__law_is_late dc__law_is_late pm__law_is_late cd__law_is_late ct__law_is_late : Value} {sl__law_left : Array (Option Value)} {oc__law_left kV__law_left dc__law_left pm__law_left cd__law_left ct__law_left : Value} {sl__law_rights : Array (Option Value)} {oc__law_rights kV__law_rights dc__law_rights pm__law_rights cd__law_rights ct__law_rights : Value} {sl__law_outs : Array (Option Value)} {oc__law_outs kV__law_outs dc__law_outs pm__law_outs cd__law_outs ct__law_outs : Value} {sl__law_bends : Array (Option Value)} {oc__law_bends kV__law_bends dc__law_bends pm__law_bends cd__law_bends ct__law_bends : Value} {sl__law_says : Array (Option Value)} {oc__law_says kV__law_says dc__law_says pm__law_says cd__law_says ct__law_says : Value} {sl_law : Array (Option Value)} {oc_law kV_law dc_law pm_law cd_law ct_law : Value}
    (a__law_take : PySem.W.nsIn K mainGlobals "_law_take" = some (some (.ref f__law_take))) (l__law_take : K.lookup f__law_take = some ⟨oc__law_take, od__law_take, .func (PySem.W.fnOf "_law_take" "_law_take" (defArgs s__law_take) (defBody s__law_take) (defScope s__law_take) .none kV__law_take dc__law_take pm__law_take an__law_take cd__law_take ct__law_take), sl__law_take⟩) (c__law_take : PySem.W.codeIn K cd__law_take "_law_take" = true) (k__law_take : PySem.W.keepIn K (.ref f__law_take) = true)
    (a__law_deal : PySem.W.nsIn K mainGlobals "_law_deal" = some (some (.ref f__law_deal))) (l__law_deal : K.lookup f__law_deal = some ⟨oc__law_deal, od__law_deal, .func (PySem.W.fnOf "_law_deal" "_law_deal" (defArgs s__law_deal) (defBody s__law_deal) (defScope s__law_deal) .none kV__law_deal dc__law_deal pm__law_deal an__law_deal cd__law_deal ct__law_deal), sl__law_deal⟩) (c__law_deal : PySem.W.codeIn K cd__law_deal "_law_deal" = true) (k__law_deal : PySem.W.keepIn K (.ref f__law_deal) = true)
    (a_is_square : PySem.W.nsIn K mainGlobals "is_square" = some (some (.ref f_is_square))) (l_is_square : K.lookup f_is_square = some ⟨oc_is_square, od_is_square, .func (PySem.W.fnOf "is_square" "is_square" (defArgs s_is_square) (defBody s_is_square) (defScope s_is_square) .none kV_is_square dc_is_square pm_is_square an_is_square cd_is_square ct_is_square), sl_is_square⟩) (c_is_square : PySem.W.codeIn K cd_is_square "is_square" = true) (k_is_square : PySem.W.keepIn K (.ref f_is_square) = true)
    (a_side_neighbours : PySem.W.nsIn K mainGlobals "side_neighbours" = some (some (.ref f_side_neighbours))) (l_side_neighbours : K.lookup f_side_neighbours = some ⟨oc_side_neighbours, od_side_neighbours, .func (PySem.W.fnOf "side_neighbours" "side_neighbours" (defArgs s_side_neighbours) (defBody s_side_neighbours) (defScope s_side_neighbours) .none kV_side_neighbours dc_side_neighbours pm_side_neighbours an_side_neighbours cd_side_neighbours ct_side_neighbours), sl_side_neighbours⟩) (c_side_neighbours : PySem.W.codeIn K cd_side_neighbours "side_neighbours" = true) (k_side_neighbours : PySem.W.keepIn K (.ref f_side_neighbours) = true)
    (a_height : PySem.W.nsIn K mainGlobals "height" = some (some (.ref f_height))) (l_height : K.lookup f_height = some ⟨oc_height, od_height, .func (PySem.W.fnOf "height" "height" (defArgs s_height) (defBody s_height) (defScope s_height) .none kV_height dc_height pm_height an_height cd_height ct_height), sl_height⟩) (c_height : PySem.W.codeIn K cd_height "height" = true) (k_height : PySem.W.keepIn K (.ref f_height) = true)
    (a_is_dry : PySem.W.nsIn K mainGlobals "is_dry" = some (some (.ref f_is_dry))) (l_is_dry : K.lookup f_is_dry = some ⟨oc_is_dry, od_is_dry, .func (PySem.W.fnOf "is_dry" "is_dry" (defArgs s_is_dry) (defBody s_is_dry) (defScope s_is_dry) .none kV_is_dry dc_is_dry pm_is_dry an_is_dry cd_is_dry ct_is_dry), sl_is_dry⟩) (c_is_dry : PySem.W.codeIn K cd_is_dry "is_dry" = true) (k_is_dry : PySem.W.keepIn K (.ref f_is_dry) = true)
    (a_stays : PySem.W.nsIn K mainGlobals "stays" = some (some (.ref f_stays))) (l_stays : K.lookup f_stays = some ⟨oc_stays, od_stays, .func (PySem.W.fnOf "stays" "stays" (defArgs s_stays) (defBody s_stays) (defScope s_stays) .none kV_stays dc_stays pm_stays an_stays cd_stays ct_stays), sl_stays⟩) (c_stays : PySem.W.codeIn K cd_stays "stays" = true) (k_stays : PySem.W.keepIn K (.ref f_stays) = true)
    (a_steps_from : PySem.W.nsIn K mainGlobals "steps_from" = some (some (.ref f_steps_from))) (l_steps_from : K.lookup f_steps_from = some ⟨oc_steps_from, od_steps_from, .func (PySem.W.fnOf "steps_from" "steps_from" (defArgs s_steps_from) (defBody s_steps_from) (defScope s_steps_from) .none kV_steps_from dc_steps_from pm_steps_from an_steps_from cd_steps_from ct_steps_from), sl_steps_from⟩) (c_steps_from : PySem.W.codeIn K cd_steps_from "steps_from" = true) (k_steps_from : PySem.W.keepIn K (.ref f_steps_from) = true)
    (a_pair_is_right : PySem.W.nsIn K mainGlobals "pair_is_right" = some (some (.ref f_pair_is_right))) (l_pair_is_right : K.lookup f_pair_is_right = some ⟨oc_pair_is_right, od_pair_is_right, .func (PySem.W.fnOf "pair_is_right" "pair_is_right" (defArgs s_pair_is_right) (defBody s_pair_is_right) (defScope s_pair_is_right) .none kV_pair_is_right dc_pair_is_right pm_pair_is_right an_pair_is_right cd_pair_is_right ct_pair_is_right), sl_pair_is_right⟩) (c_pair_is_right : PySem.W.codeIn K cd_pair_is_right "pair_is_right" = true) (k_pair_is_right : PySem.W.keepIn K (.ref f_pair_is_right) = true)
    (a_late_heights : PySem.W.nsIn K mainGlobals "late_heights" = some (some (.ref f_late_heights))) (l_late_heights : K.lookup f_late_heights = some ⟨oc_late_heights, od_late_heights, .func (PySem.W.fnOf "late_heights" "late_heights" (defArgs s_late_heights) (defBody s_late_heights) (defScope s_late_heights) .none kV_late_heights dc_late_heights pm_late_heights an_late_heights cd_late_heights ct_late_heights), sl_late_heights⟩) (c_late_heights : PySem.W.codeIn K cd_late_heights "late_heights" = true) (k_late_heights : PySem.W.keepIn K (.ref f_late_heights) = true)
    (a_shows_late : PySem.W.nsIn K mainGlobals "shows_late" = some (some (.ref f_shows_late))) (l_shows_late : K.lookup f_shows_late = some ⟨oc_shows_late, od_shows_late, .func (PySem.W.fnOf "shows_late" "shows_late" (defArgs s_shows_late) (defBody s_shows_late) (defScope s_shows_late) .none kV_shows_late dc_shows_late pm_shows_late an_shows_late cd_shows_late ct_shows_late), sl_shows_late⟩) (c_shows_late : PySem.W.codeIn K cd_shows_late "shows_late" = true) (k_shows_late : PySem.W.keepIn K (.ref f_shows_late) = true)
    (a__law_pick : PySem.W.nsIn K mainGlobals "_law_pick" = some (some (.ref f__law_pick))) (l__law_pick : K.lookup f__law_pick = some ⟨oc__law_pick, od__law_pick, .func (PySem.W.fnOf "_law_pick" "_law_pick" (defArgs s__law_pick) (defBody s__law_pick) (defScope s__law_pick) .none kV__law_pick dc__law_pick pm__law_pick an__law_pick cd__law_pick ct__law_pick), sl__law_pick⟩) (c__law_pick : PySem.W.codeIn K cd__law_pick "_law_pick" = true) (k__law_pick : PySem.W.keepIn K (.ref f__law_pick) = true)
    (a__law_yes : PySem.W.nsIn K mainGlobals "_law_yes" = some (some (.ref f__law_yes))) (l__law_yes : K.lookup f__law_yes = some ⟨oc__law_yes, od__law_yes, .func (PySem.W.fnOf "_law_yes" "_law_yes" (defArgs s__law_yes) (defBody s__law_yes) (defScope s__law_yes) .none kV__law_yes dc__law_yes pm__law_yes an__law_yes cd__law_yes ct__law_yes), sl__law_yes⟩) (c__law_yes : PySem.W.codeIn K cd__law_yes "_law_yes" = true) (k__law_yes : PySem.W.keepIn K (.ref f__law_yes) = true)
    (a__law_in : PySem.W.nsIn K mainGlobals "_law_in" = some (some (.ref f__law_in))) (l__law_in : K.lookup f__law_in = some ⟨oc__law_in, od__law_in, .func (PySem.W.fnOf "_law_in" "_law_in" (defArgs s__law_in) (defBody s__law_in) (defScope s__law_in) .none kV__law_in dc__law_in pm__law_in an__law_in cd__law_in ct__law_in), sl__law_in⟩) (c__law_in : PySem.W.codeIn K cd__law_in "_law_in" = true) (k__law_in : PySem.W.keepIn K (.ref f__law_in) = true)
    (a__law_high : PySem.W.nsIn K mainGlobals "_law_high" = some (some (.ref f__law_high))) (l__law_high : K.lookup f__law_high = some ⟨oc__law_high, od__law_high, .func (PySem.W.fnOf "_law_high" "_law_high" (defArgs s__law_high) (defBody s__law_high) (defScope s__law_high) .none kV__law_high dc__law_high pm__law_high an__law_high cd__law_high ct__law_high), sl__law_high⟩) (c__law_high : PySem.W.codeIn K cd__law_high "_law_high" = true) (k__law_high : PySem.W.keepIn K (.ref f__law_high) = true)
    (a__law_all : PySem.W.nsIn K mainGlobals "_law_all" = some (some (.ref f__law_all))) (l__law_all : K.lookup f__law_all = some ⟨oc__law_all, od__law_all, .func (PySem.W.fnOf "_law_all" "_law_all" (defArgs s__law_all) (defBody s__law_all) (defScope s__law_all) .none kV__law_all dc__law_all pm__law_all an__law_all cd__law_all ct__law_all), sl__law_all⟩) (c__law_all : PySem.W.codeIn K cd__law_all "_law_all" = true) (k__law_all : PySem.W.keepIn K (.ref f__law_all) = true)
    (a__law_sides : PySem.W.nsIn K mainGlobals "_law_sides" = some (some (.ref f__law_sides))) (l__law_sides : K.lookup f__law_sides = some ⟨oc__law_sides, od__law_sides, .func (PySem.W.fnOf "_law_sides" "_law_sides" (defArgs s__law_sides) (defBody s__law_sides) (defScope s__law_sides) .none kV__law_sides dc__law_sides pm__law_sides an__law_sides cd__law_sides ct__law_sides), sl__law_sides⟩) (c__law_sides : PySem.W.codeIn K cd__law_sides "_law_sides" = true) (k__law_sides : PySem.W.keepIn K (.ref f__law_sides) = true)
    (a__law_height : PySem.W.nsIn K mainGlobals "_law_height" = some (some (.ref f__law_height))) (l__law_height : K.lookup f__law_height = some ⟨oc__law_height, od__law_height, .func (PySem.W.fnOf "_law_height" "_law_height" (defArgs s__law_height) (defBody s__law_height) (defScope s__law_height) .none kV__law_height dc__law_height pm__law_height an__law_height cd__law_height ct__law_height), sl__law_height⟩) (c__law_height : PySem.W.codeIn K cd__law_height "_law_height" = true) (k__law_height : PySem.W.keepIn K (.ref f__law_height) = true)
    (a__law_relief : PySem.W.nsIn K mainGlobals "_law_relief" = some (some (.ref f__law_relief))) (l__law_relief : K.lookup f__law_relief = some ⟨oc__law_relief, od__law_relief, .func (PySem.W.fnOf "_law_relief" "_law_relief" (defArgs s__law_relief) (defBody s__law_relief) (defScope s__law_relief) .none kV__law_relief dc__law_relief pm__law_relief an__law_relief cd__law_relief ct__law_relief), sl__law_relief⟩) (c__law_relief : PySem.W.codeIn K cd__law_relief "_law_relief" = true) (k__law_relief : PySem.W.keepIn K (.ref f__law_relief) = true)
    (a__law_sizes : PySem.W.nsIn K mainGlobals "_law_sizes" = some (some (.ref f__law_sizes))) (l__law_sizes : K.lookup f__law_sizes = some ⟨oc__law_sizes, od__law_sizes, .func (PySem.W.fnOf "_law_sizes" "_law_sizes" (defArgs s__law_sizes) (defBody s__law_sizes) (defScope s__law_sizes) .none kV__law_sizes dc__law_sizes pm__law_sizes an__law_sizes cd__law_sizes ct__law_sizes), sl__law_sizes⟩) (c__law_sizes : PySem.W.codeIn K cd__law_sizes "_law_sizes" = true) (k__law_sizes : PySem.W.keepIn K (.ref f__law_sizes) = true)
    (a__law_tide : PySem.W.nsIn K mainGlobals "_law_tide" = some (some (.ref f__law_tide))) (l__law_tide : K.lookup f__law_tide = some ⟨oc__law_tide, od__law_tide, .func (PySem.W.fnOf "_law_tide" "_law_tide" (defArgs s__law_tide) (defBody s__law_tide) (defScope s__law_tide) .none kV__law_tide dc__law_tide pm__law_tide an__law_tide cd__law_tide ct__law_tide), sl__law_tide⟩) (c__law_tide : PySem.W.codeIn K cd__law_tide "_law_tide" = true) (k__law_tide : PySem.W.keepIn K (.ref f__law_tide) = true)
    (a__law_dry : PySem.W.nsIn K mainGlobals "_law_dry" = some (some (.ref f__law_dry))) (l__law_dry : K.lookup f__law_dry = some ⟨oc__law_dry, od__law_dry, .func (PySem.W.fnOf "_law_dry" "_law_dry" (defArgs s__law_dry) (defBody s__law_dry) (defScope s__law_dry) .none kV__law_dry dc__law_dry pm__law_dry an__law_dry cd__law_dry ct__law_dry), sl__law_dry⟩) (c__law_dry : PySem.W.codeIn K cd__law_dry "_law_dry" = true) (k__law_dry : PySem.W.keepIn K (.ref f__law_dry) = true)
    (a__law_stays : PySem.W.nsIn K mainGlobals "_law_stays" = some (some (.ref f__law_stays))) (l__law_stays : K.lookup f__law_stays = some ⟨oc__law_stays, od__law_stays, .func (PySem.W.fnOf "_law_stays" "_law_stays" (defArgs s__law_stays) (defBody s__law_stays) (defScope s__law_stays) .none kV__law_stays dc__law_stays pm__law_stays an__law_stays cd__law_stays ct__law_stays), sl__law_stays⟩) (c__law_stays : PySem.W.codeIn K cd__law_stays "_law_stays" = true) (k__law_stays : PySem.W.keepIn K (.ref f__law_stays) = true)
    (a__law_start : PySem.W.nsIn K mainGlobals "_law_start" = some (some (.ref f__law_start))) (l__law_start : K.lookup f__law_start = some ⟨oc__law_start, od__law_start, .func (PySem.W.fnOf "_law_start" "_law_start" (defArgs s__law_start) (defBody s__law_start) (defScope s__law_start) .none kV__law_start dc__law_start pm__law_start an__law_start cd__law_start ct__law_start), sl__law_start⟩) (c__law_start : PySem.W.codeIn K cd__law_start "_law_start" = true) (k__law_start : PySem.W.keepIn K (.ref f__law_start) = true)
    (a__law_is_late : PySem.W.nsIn K mainGlobals "_law_is_late" = some (some (.ref f__law_is_late))) (l__law_is_late : K.lookup f__law_is_late = some ⟨oc__law_is_late, od__law_is_late, .func (PySem.W.fnOf "_law_is_late" "_law_is_late" (defArgs s__law_is_late) (defBody s__law_is_late) (defScope s__law_is_late) .none kV__law_is_late dc__law_is_late pm__law_is_late an__law_is_late cd__law_is_late ct__law_is_late), sl__law_is_late⟩) (c__law_is_late : PySem.W.codeIn K cd__law_is_late "_law_is_late" = true) (k__law_is_late : PySem.W.keepIn K (.ref f__law_is_late) = true)
    (a__law_left : PySem.W.nsIn K mainGlobals "_law_left" = some (some (.ref f__law_left))) (l__law_left : K.lookup f__law_left = some ⟨oc__law_left, od__law_left, .func (PySem.W.fnOf "_law_left" "_law_left" (defArgs s__law_left) (defBody s__law_left) (defScope s__law_left) .none kV__law_left dc__law_left pm__law_left an__law_left cd__law_left ct__law_left), sl__law_left⟩) (c__law_left : PySem.W.codeIn K cd__law_left "_law_left" = true) (k__law_left : PySem.W.keepIn K (.ref f__law_left) = true)
    (a__law_rights : PySem.W.nsIn K mainGlobals "_law_rights" = some (some (.ref f__law_rights))) (l__law_rights : K.lookup f__law_rights = some ⟨oc__law_rights, od__law_rights, .func (PySem.W.fnOf "_law_rights" "_law_rights" (defArgs s__law_rights) (defBody s__law_rights) (defScope s__law_rights) .none kV__law_rights dc__law_rights pm__law_rights an__law_rights cd__law_rights ct__law_rights), sl__law_rights⟩) (c__law_rights : PySem.W.codeIn K cd__law_rights "_law_rights" = true) (k__law_rights : PySem.W.keepIn K (.ref f__law_rights) = true)
    (a__law_outs : PySem.W.nsIn K mainGlobals "_law_outs" = some (some (.ref f__law_outs))) (l__law_outs : K.lookup f__law_outs = some ⟨oc__law_outs, od__law_outs, .func (PySem.W.fnOf "_law_outs" "_law_outs" (defArgs s__law_outs) (defBody s__law_outs) (defScope s__law_outs) .none kV__law_outs dc__law_outs pm__law_outs an__law_outs cd__law_outs ct__law_outs), sl__law_outs⟩) (c__law_outs : PySem.W.codeIn K cd__law_outs "_law_outs" = true) (k__law_outs : PySem.W.keepIn K (.ref f__law_outs) = true)
    (a__law_bends : PySem.W.nsIn K mainGlobals "_law_bends" = some (some (.ref f__law_bends))) (l__law_bends : K.lookup f__law_bends = some ⟨oc__law_bends, od__law_bends, .func (PySem.W.fnOf "_law_bends" "_law_bends" (defArgs s__law_bends) (defBody s__law_bends) (defScope s__law_bends) .none kV__law_bends dc__law_bends pm__law_bends an__law_bends cd__law_bends ct__law_bends), sl__law_bends⟩) (c__law_bends : PySem.W.codeIn K cd__law_bends "_law_bends" = true) (k__law_bends : PySem.W.keepIn K (.ref f__law_bends) = true)
    (a__law_says : PySem.W.nsIn K mainGlobals "_law_says" = some (some (.ref f__law_says))) (l__law_says : K.lookup f__law_says = some ⟨oc__law_says, od__law_says, .func (PySem.W.fnOf "_law_says" "_law_says" (defArgs s__law_says) (defBody s__law_says) (defScope s__law_says) .none kV__law_says dc__law_says pm__law_says an__law_says cd__law_says ct__law_says), sl__law_says⟩) (c__law_says : PySem.W.codeIn K cd__law_says "_law_says" = true) (k__law_says : PySem.W.keepIn K (.ref f__law_says) = true)
    (a_law : PySem.W.nsIn K mainGlobals "law" = some (some (.ref f_law))) (l_law : K.lookup f_law = some ⟨oc_law, od_law, .func (PySem.W.fnOf "law" "law" (defArgs s_law) (defBody s_law) (defScope s_law) .none kV_law dc_law pm_law an_law cd_law ct_law), sl_law⟩) (c_law : PySem.W.codeIn K cd_law "law" = true) (k_law : PySem.W.keepIn K (.ref f_law) = true)
    (z_len : PySem.W.nsIn K mainGlobals "len" = some none)
    (z_range : PySem.W.nsIn K mainGlobals "range" = some none)
    (z_abs : PySem.W.nsIn K mainGlobals "abs" = some none)
    (z_int : PySem.W.nsIn K mainGlobals "int" = some none)
    (z_bool : PySem.W.nsIn K mainGlobals "bool" = some none)
    (z_sum : PySem.W.nsIn K mainGlobals "sum" = some none)
    (z_min : PySem.W.nsIn K mainGlobals "min" = some none)
    (z_max : PySem.W.nsIn K mainGlobals "max" = some none)
    (z_tuple : PySem.W.nsIn K mainGlobals "tuple" = some none)
    (z_isinstance : PySem.W.nsIn K mainGlobals "isinstance" = some none)
    (z_str : PySem.W.nsIn K mainGlobals "str" = some none)
    (z_list : PySem.W.nsIn K mainGlobals "list" = some none)
    {t_DIGITS : Tok} (y_DIGITS : PySem.W.nsIn K mainGlobals "DIGITS" = some (some (.str "0123456789" t_DIGITS)))
    : ∃ fd : FuncData, (∀ (s : Shared) (v : Value), BindsTo s fd ⟨[v], []⟩ [("script", v)]) ∧ ∀ base : Heap, K.In base → base.Ns mainGlobals mg → FnOk l.prog w K mg base CX0 6 fa fd ["script"] (sp_law K) := by
  have e := hfa.symm.trans (PySem.W.mg_of X G a_law)
  cases e
  have T : Glb mg := ⟨PySem.W.mg_none_of X G z_len, PySem.W.mg_none_of X G z_range, PySem.W.mg_none_of X G z_abs, PySem.W.mg_none_of X G z_int, PySem.W.mg_none_of X G z_bool, PySem.W.mg_none_of X G z_sum, PySem.W.mg_none_of X G z_min, PySem.W.mg_none_of X G z_max, PySem.W.mg_none_of X G z_tuple, PySem.W.mg_none_of X G z_isinstance, PySem.W.mg_none_of X G z_str, PySem.W.mg_none_of X G z_list, ⟨_, PySem.W.mg_of X G y_DIGITS⟩⟩
  have A__law_take : At K mg "_law_take" s__law_take P__law_take := ⟨f__law_take, _, PySem.W.mg_of X G a__law_take, fun_mk (st := s__law_take) l__law_take c__law_take k__law_take, (fun_mk (st := s__law_take) l__law_take c__law_take k__law_take).binds (ps := P__law_take) fun _ _ _ _ _ _ us hl => match us, hl with | [_, _], _ => rfl⟩
  have A__law_deal : At K mg "_law_deal" s__law_deal P__law_deal := ⟨f__law_deal, _, PySem.W.mg_of X G a__law_deal, fun_mk (st := s__law_deal) l__law_deal c__law_deal k__law_deal, (fun_mk (st := s__law_deal) l__law_deal c__law_deal k__law_deal).binds (ps := P__law_deal) fun _ _ _ _ _ _ us hl => match us, hl with | [_], _ => rfl⟩
  have A_is_square : At K mg "is_square" s_is_square P_is_square := ⟨f_is_square, _, PySem.W.mg_of X G a_is_square, fun_mk (st := s_is_square) l_is_square c_is_square k_is_square, (fun_mk (st := s_is_square) l_is_square c_is_square k_is_square).binds (ps := P_is_square) fun _ _ _ _ _ _ us hl => match us, hl with | [_, _], _ => rfl⟩
  have A_side_neighbours : At K mg "side_neighbours" s_side_neighbours P_side_neighbours := ⟨f_side_neighbours, _, PySem.W.mg_of X G a_side_neighbours, fun_mk (st := s_side_neighbours) l_side_neighbours c_side_neighbours k_side_neighbours, (fun_mk (st := s_side_neighbours) l_side_neighbours c_side_neighbours k_side_neighbours).binds (ps := P_side_neighbours) fun _ _ _ _ _ _ us hl => match us, hl with | [_], _ => rfl⟩
  have A_height : At K mg "height" s_height P_height := ⟨f_height, _, PySem.W.mg_of X G a_height, fun_mk (st := s_height) l_height c_height k_height, (fun_mk (st := s_height) l_height c_height k_height).binds (ps := P_height) fun _ _ _ _ _ _ us hl => match us, hl with | [_, _], _ => rfl⟩
  have A_is_dry : At K mg "is_dry" s_is_dry P_is_dry := ⟨f_is_dry, _, PySem.W.mg_of X G a_is_dry, fun_mk (st := s_is_dry) l_is_dry c_is_dry k_is_dry, (fun_mk (st := s_is_dry) l_is_dry c_is_dry k_is_dry).binds (ps := P_is_dry) fun _ _ _ _ _ _ us hl => match us, hl with | [_, _, _, _], _ => rfl⟩
  have A_stays : At K mg "stays" s_stays P_stays := ⟨f_stays, _, PySem.W.mg_of X G a_stays, fun_mk (st := s_stays) l_stays c_stays k_stays, (fun_mk (st := s_stays) l_stays c_stays k_stays).binds (ps := P_stays) fun _ _ _ _ _ _ us hl => match us, hl with | [_], _ => rfl⟩
  have A_steps_from : At K mg "steps_from" s_steps_from P_steps_from := ⟨f_steps_from, _, PySem.W.mg_of X G a_steps_from, fun_mk (st := s_steps_from) l_steps_from c_steps_from k_steps_from, (fun_mk (st := s_steps_from) l_steps_from c_steps_from k_steps_from).binds (ps := P_steps_from) fun _ _ _ _ _ _ us hl => match us, hl with | [_, _, _, _], _ => rfl⟩
  have A_pair_is_right : At K mg "pair_is_right" s_pair_is_right P_pair_is_right := ⟨f_pair_is_right, _, PySem.W.mg_of X G a_pair_is_right, fun_mk (st := s_pair_is_right) l_pair_is_right c_pair_is_right k_pair_is_right, (fun_mk (st := s_pair_is_right) l_pair_is_right c_pair_is_right k_pair_is_right).binds (ps := P_pair_is_right) fun _ _ _ _ _ _ us hl => match us, hl with | [_, _, _, _], _ => rfl⟩
  have A_late_heights : At K mg "late_heights" s_late_heights P_late_heights := ⟨f_late_heights, _, PySem.W.mg_of X G a_late_heights, fun_mk (st := s_late_heights) l_late_heights c_late_heights k_late_heights, (fun_mk (st := s_late_heights) l_late_heights c_late_heights k_late_heights).binds (ps := P_late_heights) fun _ _ _ _ _ _ us hl => match us, hl with | [_, _, _], _ => rfl⟩
  have A_shows_late : At K mg "shows_late" s_shows_late P_shows_late := ⟨f_shows_late, _, PySem.W.mg_of X G a_shows_late, fun_mk (st := s_shows_late) l_shows_late c_shows_late k_shows_late, (fun_mk (st := s_shows_late) l_shows_late c_shows_late k_shows_late).binds (ps := P_shows_late) fun _ _ _ _ _ _ us hl => match us, hl with | [_, _, _, _, _, _], _ => rfl⟩
  have A__law_pick : At K mg "_law_pick" s__law_pick P__law_pick := ⟨f__law_pick, _, PySem.W.mg_of X G a__law_pick, fun_mk (st := s__law_pick) l__law_pick c__law_pick k__law_pick, (fun_mk (st := s__law_pick) l__law_pick c__law_pick k__law_pick).binds (ps := P__law_pick) fun _ _ _ _ _ _ us hl => match us, hl with | [_, _], _ => rfl⟩
  have A__law_yes : At K mg "_law_yes" s__law_yes P__law_yes := ⟨f__law_yes, _, PySem.W.mg_of X G a__law_yes, fun_mk (st := s__law_yes) l__law_yes c__law_yes k__law_yes, (fun_mk (st := s__law_yes) l__law_yes c__law_yes k__law_yes).binds (ps := P__law_yes) fun _ _ _ _ _ _ us hl => match us, hl with | [_, _], _ => rfl⟩
  have A__law_in : At K mg "_law_in" s__law_in P__law_in := ⟨f__law_in, _, PySem.W.mg_of X G a__law_in, fun_mk (st := s__law_in) l__law_in c__law_in k__law_in, (fun_mk (st := s__law_in) l__law_in c__law_in k__law_in).binds (ps := P__law_in) fun _ _ _ _ _ _ us hl => match us, hl with | [_, _], _ => rfl⟩
  have A__law_high : At K mg "_law_high" s__law_high P__law_high := ⟨f__law_high, _, PySem.W.mg_of X G a__law_high, fun_mk (st := s__law_high) l__law_high c__law_high k__law_high, (fun_mk (st := s__law_high) l__law_high c__law_high k__law_high).binds (ps := P__law_high) fun _ _ _ _ _ _ us hl => match us, hl with | [_, _], _ => rfl⟩
  have A__law_all : At K mg "_law_all" s__law_all P__law_all := ⟨f__law_all, _, PySem.W.mg_of X G a__law_all, fun_mk (st := s__law_all) l__law_all c__law_all k__law_all, (fun_mk (st := s__law_all) l__law_all c__law_all k__law_all).binds (ps := P__law_all) fun _ _ _ _ _ _ us hl => match us, hl with | [_], _ => rfl⟩
  have A__law_sides : At K mg "_law_sides" s__law_sides P__law_sides := ⟨f__law_sides, _, PySem.W.mg_of X G a__law_sides, fun_mk (st := s__law_sides) l__law_sides c__law_sides k__law_sides, (fun_mk (st := s__law_sides) l__law_sides c__law_sides k__law_sides).binds (ps := P__law_sides) fun _ _ _ _ _ _ us hl => match us, hl with | [_], _ => rfl⟩
  have A__law_height : At K mg "_law_height" s__law_height P__law_height := ⟨f__law_height, _, PySem.W.mg_of X G a__law_height, fun_mk (st := s__law_height) l__law_height c__law_height k__law_height, (fun_mk (st := s__law_height) l__law_height c__law_height k__law_height).binds (ps := P__law_height) fun _ _ _ _ _ _ us hl => match us, hl with | [_, _, _, _, _, _, _], _ => rfl⟩
  have A__law_relief : At K mg "_law_relief" s__law_relief P__law_relief := ⟨f__law_relief, _, PySem.W.mg_of X G a__law_relief, fun_mk (st := s__law_relief) l__law_relief c__law_relief k__law_relief, (fun_mk (st := s__law_relief) l__law_relief c__law_relief k__law_relief).binds (ps := P__law_relief) fun _ _ _ _ _ _ us hl => match us, hl with | [_, _, _], _ => rfl⟩
  have A__law_sizes : At K mg "_law_sizes" s__law_sizes P__law_sizes := ⟨f__law_sizes, _, PySem.W.mg_of X G a__law_sizes, fun_mk (st := s__law_sizes) l__law_sizes c__law_sizes k__law_sizes, (fun_mk (st := s__law_sizes) l__law_sizes c__law_sizes k__law_sizes).binds (ps := P__law_sizes) fun _ _ _ _ _ _ us hl => match us, hl with | [_, _], _ => rfl⟩
  have A__law_tide : At K mg "_law_tide" s__law_tide P__law_tide := ⟨f__law_tide, _, PySem.W.mg_of X G a__law_tide, fun_mk (st := s__law_tide) l__law_tide c__law_tide k__law_tide, (fun_mk (st := s__law_tide) l__law_tide c__law_tide k__law_tide).binds (ps := P__law_tide) fun _ _ _ _ _ _ us hl => match us, hl with | [_], _ => rfl⟩
  have A__law_dry : At K mg "_law_dry" s__law_dry P__law_dry := ⟨f__law_dry, _, PySem.W.mg_of X G a__law_dry, fun_mk (st := s__law_dry) l__law_dry c__law_dry k__law_dry, (fun_mk (st := s__law_dry) l__law_dry c__law_dry k__law_dry).binds (ps := P__law_dry) fun _ _ _ _ _ _ us hl => match us, hl with | [_, _, _, _], _ => rfl⟩
  have A__law_stays : At K mg "_law_stays" s__law_stays P__law_stays := ⟨f__law_stays, _, PySem.W.mg_of X G a__law_stays, fun_mk (st := s__law_stays) l__law_stays c__law_stays k__law_stays, (fun_mk (st := s__law_stays) l__law_stays c__law_stays k__law_stays).binds (ps := P__law_stays) fun _ _ _ _ _ _ us hl => match us, hl with | [_], _ => rfl⟩
  have A__law_start : At K mg "_law_start" s__law_start P__law_start := ⟨f__law_start, _, PySem.W.mg_of X G a__law_start, fun_mk (st := s__law_start) l__law_start c__law_start k__law_start, (fun_mk (st := s__law_start) l__law_start c__law_start k__law_start).binds (ps := P__law_start) fun _ _ _ _ _ _ us hl => match us, hl with | [_, _, _], _ => rfl⟩
  have A__law_is_late : At K mg "_law_is_late" s__law_is_late P__law_is_late := ⟨f__law_is_late, _, PySem.W.mg_of X G a__law_is_late, fun_mk (st := s__law_is_late) l__law_is_late c__law_is_late k__law_is_late, (fun_mk (st := s__law_is_late) l__law_is_late c__law_is_late k__law_is_late).binds (ps := P__law_is_late) fun _ _ _ _ _ _ us hl => match us, hl with | [_, _, _, _, _, _], _ => rfl⟩
  have A__law_left : At K mg "_law_left" s__law_left P__law_left := ⟨f__law_left, _, PySem.W.mg_of X G a__law_left, fun_mk (st := s__law_left) l__law_left c__law_left k__law_left, (fun_mk (st := s__law_left) l__law_left c__law_left k__law_left).binds (ps := P__law_left) fun _ _ _ _ _ _ us hl => match us, hl with | [_, _, _, _], _ => rfl⟩
  have A__law_rights : At K mg "_law_rights" s__law_rights P__law_rights := ⟨f__law_rights, _, PySem.W.mg_of X G a__law_rights, fun_mk (st := s__law_rights) l__law_rights c__law_rights k__law_rights, (fun_mk (st := s__law_rights) l__law_rights c__law_rights k__law_rights).binds (ps := P__law_rights) fun _ _ _ _ _ _ us hl => match us, hl with | [_, _, _], _ => rfl⟩
  have A__law_outs : At K mg "_law_outs" s__law_outs P__law_outs := ⟨f__law_outs, _, PySem.W.mg_of X G a__law_outs, fun_mk (st := s__law_outs) l__law_outs c__law_outs k__law_outs, (fun_mk (st := s__law_outs) l__law_outs c__law_outs k__law_outs).binds (ps := P__law_outs) fun _ _ _ _ _ _ us hl => match us, hl with | [_, _, _, _], _ => rfl⟩
  have A__law_bends : At K mg "_law_bends" s__law_bends P__law_bends := ⟨f__law_bends, _, PySem.W.mg_of X G a__law_bends, fun_mk (st := s__law_bends) l__law_bends c__law_bends k__law_bends, (fun_mk (st := s__law_bends) l__law_bends c__law_bends k__law_bends).binds (ps := P__law_bends) fun _ _ _ _ _ _ us hl => match us, hl with | [_, _, _, _, _, _], _ => rfl⟩
  have A__law_says : At K mg "_law_says" s__law_says P__law_says := ⟨f__law_says, _, PySem.W.mg_of X G a__law_says, fun_mk (st := s__law_says) l__law_says c__law_says k__law_says, (fun_mk (st := s__law_says) l__law_says c__law_says k__law_says).binds (ps := P__law_says) fun _ _ _ _ _ _ us hl => match us, hl with | [_, _, _, _, _, _], _ => rfl⟩
  refine ⟨PySem.W.fnOf "law" "law" (defArgs s_law) (defBody s_law) (defScope s_law) .none kV_law dc_law pm_law an_law cd_law ct_law, fun s v => .of_eq rfl, fun base _ _ => ?_⟩
  have H__law_take := ok__law_take (P := l.prog) (w := w) (base := base) A__law_take T
  have H__law_deal := ok__law_deal (P := l.prog) (w := w) (base := base) deal_plain A__law_deal T
  have H_is_square := ok_is_square (P := l.prog) (w := w) (base := base) A_is_square T
  have H_side_neighbours := ok_side_neighbours (P := l.prog) (w := w) (base := base) A_side_neighbours T
  have H_height := ok_height (P := l.prog) (w := w) (base := base) A_height T
  have H_is_dry := ok_is_dry (P := l.prog) (w := w) (base := base) A_is_dry T H_height
  have H_stays := ok_stays (P := l.prog) (w := w) (base := base) A_stays T H_side_neighbours
  have H_steps_from := ok_steps_from (P := l.prog) (w := w) (base := base) A_steps_from T H_is_dry H_is_square H_stays
  have H_pair_is_right := ok_pair_is_right (P := l.prog) (w := w) (base := base) A_pair_is_right T H_is_square
  have H_late_heights := ok_late_heights (P := l.prog) (w := w) (base := base) A_late_heights T H_pair_is_right
  have H_shows_late := ok_shows_late (P := l.prog) (w := w) (base := base) A_shows_late T H_is_dry H_late_heights H_steps_from
  have H__law_pick := ok__law_pick (P := l.prog) (w := w) (base := base) A__law_pick T H__law_take
  have H__law_yes := ok__law_yes (P := l.prog) (w := w) (base := base) A__law_yes T
  have H__law_in := ok__law_in (P := l.prog) (w := w) (base := base) A__law_in T
  have H__law_high := ok__law_high (P := l.prog) (w := w) (base := base) A__law_high T
  have H__law_all := ok__law_all (P := l.prog) (w := w) (base := base) A__law_all T
  have H__law_sides := ok__law_sides (P := l.prog) (w := w) (base := base) A__law_sides T
  have H__law_height := ok__law_height (P := l.prog) (w := w) (base := base) A__law_height T H__law_take
  have H__law_relief := ok__law_relief (P := l.prog) (w := w) (base := base) A__law_relief T H__law_height H__law_take
  have H__law_sizes := ok__law_sizes (P := l.prog) (w := w) (base := base) A__law_sizes T H__law_take
  have H__law_tide := ok__law_tide (P := l.prog) (w := w) (base := base) A__law_tide T H__law_take
  have H__law_dry := ok__law_dry (P := l.prog) (w := w) (base := base) A__law_dry T H__law_high H__law_in
  have H__law_stays := ok__law_stays (P := l.prog) (w := w) (base := base) A__law_stays T H__law_sides
  have H__law_start := ok__law_start (P := l.prog) (w := w) (base := base) A__law_start T H__law_all H__law_dry H__law_pick H__law_take
  have H__law_is_late := ok__law_is_late (P := l.prog) (w := w) (base := base) A__law_is_late T H__law_dry H__law_in H__law_stays
  have H__law_left := ok__law_left (P := l.prog) (w := w) (base := base) A__law_left T H__law_all H__law_dry H__law_stays
  have H__law_rights := ok__law_rights (P := l.prog) (w := w) (base := base) A__law_rights T H__law_all H__law_dry
  have H__law_outs := ok__law_outs (P := l.prog) (w := w) (base := base) A__law_outs T H__law_take
  have H__law_bends := ok__law_bends (P := l.prog) (w := w) (base := base) A__law_bends T H__law_take
  have H__law_says := ok__law_says (P := l.prog) (w := w) (base := base) A__law_says T H__law_is_late H__law_yes H_shows_late
  exact ok_law law_plain (fun_mk (st := s_law) l_law c_law k_law) T H__law_all H__law_bends H__law_deal H__law_left H__law_outs H__law_pick H__law_relief H__law_rights H__law_says H__law_sizes H__law_start H__law_take H__law_tide H__law_yes H_shows_late
theorem walk {l : PySem.W.OpenLaw} {q : Program} {loose : List Str} {XP : (Str → Option Value) → Heap → Prop} {YP : World → Heap → Prop} {d : DefRec} {K : Params → PySem.W.Frag} (hn : l.most = some 63) (hdf : d.params.defaults = [])
    (hY : ∀ (w : World) (h : Heap), YP w h → (K w.params).In h)
    (F : ∀ (w : World) (mg : Str → Option Value) (fa : Addr) (h : Heap), (K w.params).In h → h.Ns mainGlobals mg → mg d.name = some (.ref fa) →
      ∃ fd : FuncData, (∀ (s : Shared) (u : Value), BindsTo s fd ⟨[u], []⟩ [("script", u)]) ∧ ∀ base : Heap, (K w.params).In base → base.Ns mainGlobals mg → FnOk l.prog w (K w.params) mg base CX0 6 fa fd ["script"] (sp_law (K w.params))) :
    PySem.W.WalkO q loose XP YP l.row.toRowW d [] (fun f vs => PySem.call f vs) :=
  L2.walk_of (n := 63) (k := 6) (x := "script") (CX := fun _ => CX0) (sp := fun w => sp_law (K w.params)) hn (by decide) hdf ⟨rfl, by decide, by decide⟩ hY F (fun _ _ a ns hl _ hS => ⟨a, ns, rfl, hS, hl, fun _ => rfl⟩) fun _ _ _ _ _ z => z
end
end W
open PySem PySem.W PyProof.Rows
set_option maxRecDepth 100000 in
set_option maxHeartbeats 0 in
theorem PySem.Challenge.cw_landandwater_k60_judge_of_late_papers_holds : PySem.Challenge.rw_landandwater_k60_judge_of_late_papers.Holds := by
  w_on; o_law; k_head; (case hw => w_witness2)
  k_fill
  refine W.walk (l := PySem.Challenge.rw_landandwater_k60_judge_of_late_papers) rfl rfl (fun w h Y => PySem.W.kIn_of Y) ?F
  case F =>
    intro w mg fa h KX G hmg
    refine' W.all_mk KX G hmg ?a__law_take ?l__law_take ?c__law_take ?k__law_take ?a__law_deal ?l__law_deal ?c__law_deal ?k__law_deal ?a_is_square ?l_is_square ?c_is_square ?k_is_square ?a_side_neighbours ?l_side_neighbours ?c_side_neighbours ?k_side_neighbours ?a_height ?l_height ?c_height ?k_height ?a_is_dry ?l_is_dry ?c_is_dry ?k_is_dry ?a_stays ?l_stays ?c_stays ?k_stays ?a_steps_from ?l_steps_from ?c_steps_from ?k_steps_from ?a_pair_is_right ?l_pair_is_right ?c_pair_is_right ?k_pair_is_right ?a_late_heights ?l_late_heights ?c_late_heights ?k_late_heights ?a_shows_late ?l_shows_late ?c_shows_late ?k_shows_late ?a__law_pick ?l__law_pick ?c__law_pick ?k__law_pick ?a__law_yes ?l__law_yes ?c__law_yes ?k__law_yes ?a__law_in ?l__law_in ?c__law_in ?k__law_in ?a__law_high ?l__law_high ?c__law_high ?k__law_high ?a__law_all ?l__law_all ?c__law_all ?k__law_all ?a__law_sides ?l__law_sides ?c__law_sides ?k__law_sides ?a__law_height ?l__law_height ?c__law_height ?k__law_height ?a__law_relief ?l__law_relief ?c__law_relief ?k__law_relief ?a__law_sizes ?l__law_sizes ?c__law_sizes ?k__law_sizes ?a__law_tide ?l__law_tide ?c__law_tide ?k__law_tide ?a__law_dry ?l__law_dry ?c__law_dry ?k__law_dry ?a__law_stays ?l__law_stays ?c__law_stays ?k__law_stays ?a__law_start ?l__law_start ?c__law_start ?k__law_start ?a__law_is_late ?l__law_is_late ?c__law_is_late ?k__law_is_late ?a__law_left ?l__law_left ?c__law_left ?k__law_left ?a__law_rights ?l__law_rights ?c__law_rights ?k__law_rights ?a__law_outs ?l__law_outs ?c__law_outs ?k__law_outs ?a__law_bends ?l__law_bends ?c__law_bends ?k__law_bends ?a__law_says ?l__law_says ?c__law_says ?k__law_says ?a_law ?l_law ?c_law ?k_law ?z_len ?z_range ?z_abs ?z_int ?z_bool ?z_sum ?z_min ?z_max ?z_tuple ?z_isinstance ?z_str ?z_list ?y_DIGITS
    (case a__law_take => k_is)
    (case l__law_take => k_is)
    (case c__law_take => k_is)
    (case k__law_take => k_is)
    (case a__law_deal => k_is)
    (case l__law_deal => k_is)
    (case c__law_deal => k_is)
    (case k__law_deal => k_is)
    (case a_is_square => k_is)
    (case l_is_square => k_is)
    (case c_is_square => k_is)
    (case k_is_square => k_is)
    (case a_side_neighbours => k_is)
    (case l_side_neighbours => k_is)
    (case c_side_neighbours => k_is)
    (case k_side_neighbours => k_is)
    (case a_height => k_is)
    (case l_height => k_is)
    (case c_height => k_is)
    (case k_height => k_is)
    (case a_is_dry => k_is)
    (case l_is_dry => k_is)
    (case c_is_dry => k_is)
    (case k_is_dry => k_is)
    (case a_stays => k_is)
    (case l_stays => k_is)
    (case c_stays => k_is)
    (case k_stays => k_is)
    (case a_steps_from => k_is)
    (case l_steps_from => k_is)
    (case c_steps_from => k_is)
    (case k_steps_from => k_is)
    (case a_pair_is_right => k_is)
    (case l_pair_is_right => k_is)
    (case c_pair_is_right => k_is)
    (case k_pair_is_right => k_is)
    (case a_late_heights => k_is)
    (case l_late_heights => k_is)
    (case c_late_heights => k_is)
    (case k_late_heights => k_is)
    (case a_shows_late => k_is)
    (case l_shows_late => k_is)
    (case c_shows_late => k_is)
    (case k_shows_late => k_is)
    (case a__law_pick => k_is)
    (case l__law_pick => k_is)
    (case c__law_pick => k_is)
    (case k__law_pick => k_is)
    (case a__law_yes => k_is)
    (case l__law_yes => k_is)
    (case c__law_yes => k_is)
    (case k__law_yes => k_is)
    (case a__law_in => k_is)
    (case l__law_in => k_is)
    (case c__law_in => k_is)
    (case k__law_in => k_is)
    (case a__law_high => k_is)
    (case l__law_high => k_is)
    (case c__law_high => k_is)
    (case k__law_high => k_is)
    (case a__law_all => k_is)
    (case l__law_all => k_is)
    (case c__law_all => k_is)
    (case k__law_all => k_is)
    (case a__law_sides => k_is)
    (case l__law_sides => k_is)
    (case c__law_sides => k_is)
    (case k__law_sides => k_is)
    (case a__law_height => k_is)
    (case l__law_height => k_is)
    (case c__law_height => k_is)
    (case k__law_height => k_is)
    (case a__law_relief => k_is)
    (case l__law_relief => k_is)
    (case c__law_relief => k_is)
    (case k__law_relief => k_is)
    (case a__law_sizes => k_is)
    (case l__law_sizes => k_is)
    (case c__law_sizes => k_is)
    (case k__law_sizes => k_is)
    (case a__law_tide => k_is)
    (case l__law_tide => k_is)
    (case c__law_tide => k_is)
    (case k__law_tide => k_is)
    (case a__law_dry => k_is)
    (case l__law_dry => k_is)
    (case c__law_dry => k_is)
    (case k__law_dry => k_is)
    (case a__law_stays => k_is)
    (case l__law_stays => k_is)
    (case c__law_stays => k_is)
    (case k__law_stays => k_is)
    (case a__law_start => k_is)
    (case l__law_start => k_is)
    (case c__law_start => k_is)
    (case k__law_start => k_is)
    (case a__law_is_late => k_is)
    (case l__law_is_late => k_is)
    (case c__law_is_late => k_is)
    (case k__law_is_late => k_is)
    (case a__law_left => k_is)
    (case l__law_left => k_is)
    (case c__law_left => k_is)
    (case k__law_left => k_is)
    (case a__law_rights => k_is)
    (case l__law_rights => k_is)
    (case c__law_rights => k_is)
    (case k__law_rights => k_is)
    (case a__law_outs => k_is)
    (case l__law_outs => k_is)
    (case c__law_outs => k_is)
    (case k__law_outs => k_is)
    (case a__law_bends => k_is)
    (case l__law_bends => k_is)
    (case c__law_bends => k_is)
    (case k__law_bends => k_is)
    (case a__law_says => k_is)
    (case l__law_says => k_is)
    (case c__law_says => k_is)
    (case k__law_says => k_is)
    (case a_law => k_is)
    (case l_law => k_is)
    (case c_law => k_is)
    (case k_law => k_is)
    (case z_len => k_is)
    (case z_range => k_is)
    (case z_abs => k_is)
    (case z_int => k_is)
    (case z_bool => k_is)
    (case z_sum => k_is)
    (case z_min => k_is)
    (case z_max => k_is)
    (case z_tuple => k_is)
    (case z_isinstance => k_is)
    (case z_str => k_is)
    (case z_list => k_is)
    (case y_DIGITS => k_is)