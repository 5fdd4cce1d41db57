import PyProof.Rows.All
import Wide.All
import OpenK.AllK
import Wide.FinOn
import HandS.ForMost
import HandS.TupAny
import HandS.Conv
import HandS.IsInst
import HandS.Flow
import HandS.Small
import KE.KDictDisplayH
import PyProof.MaxThree
import HandS.NoneIn
import HandS.Walk
import HandS.Text
import HandS.StrMore
import HandS.Style
import HandS.CallLocal
import HandS.Codes
import HandS.Deep
import HandS.TupMul
import PyProof.WalkInts
import HandS.SortRule
import HandS.SortInts
import KE.DataMinMax
import KE.KDictKeyed
import HandS.TupLen
import KE.KDictCopyH
import HandS.DictComp
import PyProof.DictFindH
import HandS.DictTup
import HandS.Rev
import HandS.Sort
import KE.KDictWalk
import PySem.Challenge.RW_landandwater_k95_whole_ships_and_waters
set_option Elab.async false
set_option maxRecDepth 100000
set_option linter.all false
set_option maxHeartbeats 4000000
/-! Worlds (a heap, what is frozen in it, how many draws), their growth; data; weakest conditions as models of code. -/
namespace Y
open PySem L2

/-! ### models -/
structure WP (α : Type) where
  run : Nat → (Nat → α → Prop) → Prop
  mono : ∀ {n : Nat} {Q Q' : Nat → α → Prop}, (∀ m a, Q m a → Q' m a) → run n Q → run n Q'
namespace WP
variable {α β γ s : Type}
def pure (a : α) : WP α := ⟨fun n Q => Q n a, fun h => h _ _⟩
def bind (w : WP α) (f : α → WP β) : WP β := ⟨fun n Q => w.run n fun m a => (f a).run m Q, fun h => w.mono fun m a => (f a).mono h⟩
def req (P : Prop) (a : α) : WP α := ⟨fun n Q => P ∧ Q n a, fun h q => ⟨q.1, h _ _ q.2⟩⟩
def any (P : α → Prop) : WP α := ⟨fun n Q => ∀ a, P a → Q n a, fun h q a p => h _ _ (q a p)⟩
def take (many : Int) : WP Int := ⟨fun n Q => n < 1000000 ∧ 0 < many ∧ ∀ x, 0 ≤ x → x < many → Q (n + 1) x, fun h q => ⟨q.1, q.2.1, fun x a b => h _ _ (q.2.2 x a b)⟩⟩
def cond (b : Bool) (A B : WP α) : WP α := match b with | true => A | false => B
end WP
inductive Ctl (s γ : Type) where
  | nx (a : s)
  | bk (a : s)
  | rt (r : γ)
namespace WP
variable {α β γ s : Type}
def fold (body : α → s → WP s) : List α → s → WP s
  | [], x => pure x
  | a :: as, x => (body a x).bind fun y => fold body as y
def loop (body : α → s → WP (Ctl s γ)) : List α → s → WP (Ctl s γ)
  | [], x => pure (.nx x)
  | a :: as, x => (body a x).bind fun c => match c with | .nx y => loop body as y | .bk y => pure (.nx y) | .rt r => pure (.rt r)
def whilst (t : s → WP Bool) (body : s → WP (Ctl s γ)) (x : s) : WP (Ctl s γ) :=
  ⟨fun n Q => ∃ I : Nat → Nat → s → Prop, (∃ m, I m n x) ∧ ∀ m n y, I m n y → (t y).run n fun n' b => match b with
    | true => (body y).run n' fun n2 c => match c with | .nx z => ∃ m', m' < m ∧ I m' n2 z | .bk z => Q n2 (.nx z) | .rt r => Q n2 (.rt r)
    | false => Q n' (.nx y), fun {n Q Q'} h ⟨I, i0, hs⟩ => ⟨I, i0, fun m n y hi => (t y).mono (fun n' b => by
      cases b with
      | true => exact (body y).mono (fun n2 c => (match c with
          | .nx z => id
          | .bk z => h _ _
          | .rt r => h _ _))
      | false => exact h _ _) (hs m n y hi)⟩⟩
@[simp] theorem run_pure {a : α} {n : Nat} {Q : Nat → α → Prop} : (pure a).run n Q = Q n a := rfl
@[simp] theorem run_bind {w : WP α} {f : α → WP β} {n : Nat} {Q : Nat → β → Prop} : (w.bind f).run n Q = w.run n (fun m a => (f a).run m Q) := rfl
@[simp] theorem run_req {P : Prop} {a : α} {n : Nat} {Q : Nat → α → Prop} : (req P a).run n Q = (P ∧ Q n a) := rfl
@[simp] theorem run_any {P : α → Prop} {n : Nat} {Q : Nat → α → Prop} : (any P).run n Q = (∀ a, P a → Q n a) := rfl
@[simp] theorem run_take {many : Int} {n : Nat} {Q : Nat → Int → Prop} : (take many).run n Q = (n < 1000000 ∧ 0 < many ∧ ∀ x, 0 ≤ x → x < many → Q (n + 1) x) := rfl
@[simp] theorem cond_true {A B : WP α} : cond true A B = A := rfl
@[simp] theorem cond_false {A B : WP α} : cond false A B = B := rfl
theorem loop_inv {body : α → s → WP (Ctl s γ)} {xs : List α} {x : s} {n : Nat} {Q : Nat → Ctl s γ → Prop} (I : Nat → Nat → s → Prop) (h0 : I 0 n x)
    (hs : ∀ i m a y, xs[i]? = some a → I i m y → (body a y).run m fun m' c => match c with | .nx z => I (i + 1) m' z | .bk z => Q m' (.nx z) | .rt r => Q m' (.rt r)) (hd : ∀ m y, I xs.length m y → Q m (.nx y)) : (loop body xs x).run n Q := by
  induction xs generalizing x n I with
  | nil => exact hd n x h0
  | cons a as ih =>
    refine (body a x).mono (fun m c hy => ?_) (hs 0 n a x rfl h0)
    cases c with
    | nx z => exact ih (fun i => I (i + 1)) hy (fun i m b z hb hi => hs (i + 1) m b z hb hi) hd
    | bk z => exact hy
    | rt r => exact hy
end WP

/-! ### worlds -/
structure Wo where
  H : Hp
  F : Addr → Prop
  n : Nat
def Tg (H H' : Hp) : Prop := ∀ a xs, H a = some (.tup xs) → H' a = some (.tup xs)
/-- what is told of W stays told -/
structure St (W W' : Wo) : Prop where
  t : Tg W.H W'.H
  f : ∀ a, W.F a → W'.F a
  c : ∀ a o, W.F a → W.H a = some o → W'.H a = some o
theorem St.refl (W : Wo) : St W W := ⟨fun _ _ h => h, fun _ h => h, fun _ _ _ h => h⟩
theorem St.trans {W W1 W2 : Wo} (a : St W W1) (b : St W1 W2) : St W W2 := ⟨fun x o h => b.t x o (a.t x o h), fun x h => b.f x (a.f x h), fun x o f h => b.c x o (a.f x f) (a.c x o f h)⟩
/-- a kind of effect: what may change, what is kept true, how draws are counted -/
structure Ef where
  S : Addr → Prop
  T : Addr → Prop
  ok : Hp → Nat → Prop
  num : Nat → Nat → Prop
  num_refl : ∀ n, num n n
  num_trans : ∀ {a b c}, num a b → num b c → num a c
  ok_T : ∀ {H H' n}, ok H n → (∀ a o, T a → H a = some o → H' a = some o) → ok H' n
  ok_live : ∀ {H n a}, ok H n → T a → H a ≠ none
structure Good (e : Ef) (W : Wo) : Prop where
  F : ∀ a, W.F a → ¬ e.S a ∧ W.H a ≠ none
  S : ∀ a, e.S a → W.H a ≠ none
  ok : e.ok W.H W.n
structure Gw (e : Ef) (W W' : Wo) : Prop where
  keep : ∀ a o, W.H a = some o → ¬ e.S a → W'.H a = some o
  st : St W W'
  new : ∀ a, W'.F a → W.F a ∨ W.H a = none
  live : ∀ a, W'.H a = none → W.H a = none
  n : e.num W.n W'.n
  ok : Good e W'
theorem Gw.refl {e : Ef} {W : Wo} (g : Good e W) : Gw e W W := ⟨fun _ _ h _ => h, St.refl W, fun _ h => .inl h, fun _ h => h, e.num_refl _, g⟩
theorem Gw.trans {e : Ef} {W W1 W2 : Wo} (a : Gw e W W1) (b : Gw e W1 W2) : Gw e W W2 :=
  ⟨fun x o h n => b.keep x o (a.keep x o h n) n, a.st.trans b.st, fun x h => (b.new x h).elim (fun h => a.new x h) fun h => .inr (a.live x h), fun x h => a.live x (b.live x h), e.num_trans a.n b.n, b.ok⟩
theorem ne_of {H : Hp} {a b : Addr} {o : HO} (h : H a = some o) (n : H b = none) : a ≠ b := fun z => by rw [z, n] at h; cases h
theorem some_of {H : Hp} {a : Addr} (h : H a ≠ none) : ∃ o, H a = some o := by
  cases q : H a with
  | none => exact absurd q h
  | some o => exact ⟨o, rfl⟩
theorem some_ne {H : Hp} {a : Addr} {o : HO} (h : H a = some o) : H a ≠ none := fun z => by rw [z] at h; cases h
/-- a new object -/
theorem Gw.alloc {e : Ef} {W : Wo} {p : Addr} {o : HO} (g : Good e W) (hp : W.H p = none) : Gw e W ⟨upd W.H p o, W.F, W.n⟩ := by
  have k : ∀ a u, W.H a = some u → (upd W.H p o) a = some u := fun a u h => by rw [upd_ne (ne_of h hp)]; exact h
  have l : ∀ a, W.H a ≠ none → (upd W.H p o) a ≠ none := fun a h => by
    obtain ⟨u, hu⟩ := some_of h
    exact some_ne (k a u hu)
  exact ⟨fun a u h _ => k a u h, ⟨fun a xs h => k a _ h, fun _ h => h, fun a u _ h => k a u h⟩, fun _ h => .inl h, fun a h => by
    cases q : W.H a with
    | none => rfl
    | some u => exact absurd h (some_ne (k a u q)), e.num_refl _, ⟨fun a f => ⟨(g.F a f).1, l a (g.F a f).2⟩, fun a f => l a (g.S a f), e.ok_T g.ok fun a u _ h => k a u h⟩⟩
/-- all kept but what is new: the heap of another world -/
theorem Gw.same {e : Ef} {W : Wo} {H' : Hp} (g : Good e W) (s : Same W.H H') : Gw e W ⟨H', W.F, W.n⟩ := by
  have l : ∀ a, W.H a ≠ none → H' a ≠ none := fun a h => by
    obtain ⟨u, hu⟩ := some_of h
    exact some_ne (s a u hu)
  exact ⟨fun a u h _ => s a u h, ⟨fun a xs h => s a _ h, fun _ h => h, fun a u _ h => s a u h⟩, fun _ h => .inl h, fun a h => by
    cases q : W.H a with
    | none => rfl
    | some u => exact absurd h (some_ne (s a u q)), e.num_refl _, ⟨fun a f => ⟨(g.F a f).1, l a (g.F a f).2⟩, fun a f => l a (g.S a f), e.ok_T g.ok fun a u _ h => s a u h⟩⟩
/-- an object of our own changed -/
theorem St.mut {W : Wo} {l : Addr} {o u : HO} (h : W.H l = some o) (ht : ∀ xs, o ≠ .tup xs) (hF : ¬ W.F l) : St W ⟨upd W.H l u, W.F, W.n⟩ :=
  ⟨fun a xs q => by
    have : a ≠ l := fun z => by rw [z, h] at q; exact ht xs (Option.some.inj q)
    show (upd W.H l u) a = _
    rw [upd_ne this]; exact q, fun _ f => f, fun a x f q => by
    have : a ≠ l := fun z => hF (z ▸ f)
    show (upd W.H l u) a = _
    rw [upd_ne this]; exact q⟩
theorem Gw.mut {e : Ef} {W0 W : Wo} {l : Addr} {o u : HO} (g0 : Good e W0) (g : Gw e W0 W) (h0 : W0.H l = none) (h : W.H l = some o) (ht : ∀ xs, o ≠ .tup xs) (hF : ¬ W.F l) : Gw e W0 ⟨upd W.H l u, W.F, W.n⟩ := by
  have s := St.mut (u := u) h ht hF
  have l' : ∀ a, W.H a ≠ none → (upd W.H l u) a ≠ none := fun a h => by
    by_cases e1 : a = l
    · subst e1; rw [upd_same]; exact fun z => by cases z
    · rw [upd_ne e1]; exact h
  refine ⟨fun a x q n => ?_, g.st.trans s, g.new, fun a q => ?_, g.n, ⟨fun a f => ⟨(g.ok.F a f).1, l' a (g.ok.F a f).2⟩, fun a f => l' a (g.ok.S a f), ?_⟩⟩
  · show (upd W.H l u) a = _
    rw [upd_ne (ne_of q h0)]; exact g.keep a x q n
  · cases q' : W.H a with
    | none => exact g.live a q'
    | some x => exact absurd q (l' a (some_ne q'))
  · refine e.ok_T g.ok.ok fun a x t q => ?_
    have : a ≠ l := fun z => e.ok_live g0.ok t (z ▸ h0)
    show (upd W.H l u) a = _
    rw [upd_ne this]; exact q
/-- objects of our own frozen -/
def Wo.frz (W : Wo) (fp : List Addr) : Wo := ⟨W.H, fun a => W.F a ∨ a ∈ fp, W.n⟩
theorem St.frz {W : Wo} {fp : List Addr} : St W (W.frz fp) := ⟨fun _ _ h => h, fun _ h => .inl h, fun _ _ _ h => h⟩
theorem Gw.frz {e : Ef} {W0 W : Wo} {fp : List Addr} (g0 : Good e W0) (g : Gw e W0 W) (h0 : ∀ a ∈ fp, W0.H a = none) (h : ∀ a ∈ fp, W.H a ≠ none) : Gw e W0 (W.frz fp) :=
  ⟨g.keep, g.st.trans St.frz, fun a f => f.elim (g.new a) fun m => .inr (h0 a m), g.live, g.n, ⟨fun a f => f.elim (g.ok.F a) fun m => ⟨fun z => g0.S a z (h0 a m), h a m⟩, g.ok.S, g.ok.ok⟩⟩
/-- nothing changes -/
def ef0 : Ef where
  S := fun _ => False
  T := fun _ => False
  ok := fun _ _ => True
  num := fun a b => a = b
  num_refl := fun _ => rfl
  num_trans := fun a b => a.trans b
  ok_T := fun _ _ => True.intro
  ok_live := fun _ z => z.elim
theorem Good.z {e : Ef} {W : Wo} (g : Good e W) : Good ef0 W := ⟨fun a f => ⟨fun z => z, (g.F a f).2⟩, fun _ z => z.elim, True.intro⟩
theorem Gw.up {e : Ef} {W W' : Wo} (g : Good e W) (h : Gw ef0 W W') : Gw e W W' := by
  have hl : ∀ a, W.H a ≠ none → W'.H a ≠ none := fun a h' z => h' (h.live a z)
  refine ⟨fun a o q _ => h.keep a o q id, h.st, h.new, h.live, (show W.n = W'.n from h.n) ▸ e.num_refl _, ⟨fun a f => ?_, fun a s => hl a (g.S a s), ?_⟩⟩
  · refine ⟨fun s => ?_, (h.ok.F a f).2⟩
    rcases h.new a f with f | f
    · exact (g.F a f).1 s
    · exact g.S a s f
  · rw [← (show W.n = W'.n from h.n)]
    exact e.ok_T g.ok fun a o _ q => h.keep a o q id

/-! ### data that never changes -/
class PyI (α : Type) where
  rep : Wo → α → V → Prop
  st : ∀ {W W' : Wo} {a : α} {v : V}, St W W' → rep W a v → rep W' a v
abbrev Rp {α : Type} [PyI α] (W : Wo) (a : α) (v : V) : Prop := PyI.rep W a v
instance : PyI Int := ⟨fun _ i v => v = .int i, fun _ h => h⟩
instance : PyI Bool := ⟨fun _ i v => v = .bl i, fun _ h => h⟩
instance : PyI Str := ⟨fun _ i v => v = .str i, fun _ h => h⟩
instance : PyI Unit := ⟨fun _ _ v => v = .non, fun _ h => h⟩
instance {α : Type} [PyI α] : PyI (Option α) := ⟨fun W o v => match o with | none => v = .non | some a => v ≠ .non ∧ Rp W a v, fun {_ _ o _} t h => by
  cases o with
  | none => exact h
  | some a => exact ⟨h.1, PyI.st t h.2⟩⟩
instance {α β : Type} [PyI α] [PyI β] : PyI (α × β) := ⟨fun W c v => ∃ p x y, v = .ref p ∧ W.H p = some (.tup [x, y]) ∧ Rp W c.1 x ∧ Rp W c.2 y, fun t ⟨p, x, y, h1, h2, h3, h4⟩ => ⟨p, x, y, h1, t.t _ _ h2, PyI.st t h3, PyI.st t h4⟩⟩
structure Tri (α β γ : Type) where
  a : α
  b : β
  c : γ
instance {α β γ : Type} [PyI α] [PyI β] [PyI γ] : PyI (Tri α β γ) := ⟨fun W c v => ∃ p x y z, v = .ref p ∧ W.H p = some (.tup [x, y, z]) ∧ Rp W c.a x ∧ Rp W c.b y ∧ Rp W c.c z, fun t ⟨p, x, y, z, h1, h2, h3, h4, h5⟩ => ⟨p, x, y, z, h1, t.t _ _ h2, PyI.st t h3, PyI.st t h4, PyI.st t h5⟩⟩
theorem Paired.imp {α β : Type} {F G : α → β → Prop} (f : ∀ a b, F a b → G a b) : ∀ {l1 : List α} {l2 : List β}, Paired F l1 l2 → Paired G l1 l2
  | _, _, .nil => .nil
  | _, _, .cons r t => .cons (f _ _ r) (Paired.imp f t)
abbrev Rps {α : Type} [PyI α] (W : Wo) (xs : List α) (vs : List V) : Prop := Paired (fun a v => Rp W a v) xs vs
theorem Rps.st {α : Type} [PyI α] {W W' : Wo} {xs : List α} {vs : List V} (t : St W W') (h : Rps W xs vs) : Rps W' xs vs := Paired.imp (fun _ _ => PyI.st t) h
/-- a tuple of any length, all of one kind -/
instance {α : Type} [PyI α] : PyI (List α) := ⟨fun W xs v => ∃ p vs, v = .ref p ∧ W.H p = some (.tup vs) ∧ Rps W xs vs, fun t ⟨p, vs, h1, h2, h3⟩ => ⟨p, vs, h1, t.t _ _ h2, Rps.st t h3⟩⟩
/-- a frozen list -/
structure Ls (α : Type) where
  l : List α
instance {α : Type} [PyI α] : PyI (Ls α) := ⟨fun W xs v => ∃ p vs, v = .ref p ∧ W.F p ∧ W.H p = some (.lst vs) ∧ Rps W xs.l vs, fun t ⟨p, vs, h1, h2, h3, h4⟩ => ⟨p, vs, h1, t.f _ h2, t.c _ _ h2 h3, Rps.st t h4⟩⟩
section
variable {α β : Type}
theorem _root_.PySem.Paired.getA {F : α → β → Prop} {xs : List α} {vs : List β} {i : Nat} {a : α} (h : Paired F xs vs) (e : xs[i]? = some a) : ∃ v, vs[i]? = some v ∧ F a v := by
  induction h generalizing i with
  | nil => simp at e
  | cons r t ih =>
    cases i with
    | zero => simp at e; subst e; exact ⟨_, rfl, r⟩
    | succ i => exact ih (by simpa using e)
theorem _root_.PySem.Paired.getV {F : α → β → Prop} {xs : List α} {vs : List β} {i : Nat} {v : β} (h : Paired F xs vs) (e : vs[i]? = some v) : ∃ a, xs[i]? = some a ∧ F a v := by
  induction h generalizing i with
  | nil => simp at e
  | cons r t ih =>
    cases i with
    | zero => simp at e; subst e; exact ⟨_, rfl, r⟩
    | succ i => exact ih (by simpa using e)
theorem _root_.PySem.Paired.appA {F : α → β → Prop} {xs ys : List α} {vs ws : List β} (h : Paired F xs vs) (r : Paired F ys ws) : Paired F (xs ++ ys) (vs ++ ws) := by
  induction h with
  | nil => exact r
  | cons a t ih => exact .cons a ih
theorem _root_.PySem.Paired.setA {F : α → β → Prop} {xs : List α} {vs : List β} {a : α} {v : β} (n : Nat) (h : Paired F xs vs) (r : F a v) : Paired F (xs.set n a) (vs.set n v) := by
  induction h generalizing n with
  | nil => exact .nil
  | cons b t ih => cases n with
    | zero => exact .cons r t
    | succ n => exact .cons b (ih n)
theorem _root_.PySem.Paired.revA {F : α → β → Prop} {xs : List α} {vs : List β} (h : Paired F xs vs) : Paired F xs.reverse vs.reverse := by
  induction h with
  | nil => exact .nil
  | cons a t ih => rw [List.reverse_cons, List.reverse_cons]; exact ih.appA (.cons a .nil)
end
theorem rps_ints {W : Wo} {ns : List Int} {vs : List V} (h : Rps W ns vs) : vs = ns.map V.int := by
  induction h with
  | nil => rfl
  | cons r t ih => rw [show _ = _ from r, ih]; rfl
theorem rps_ints' (W : Wo) : ∀ ns : List Int, Rps W ns (ns.map V.int)
  | [] => .nil
  | _ :: r => .cons rfl (rps_ints' W r)
theorem rps_strs {W : Wo} {ns : List Str} {vs : List V} (h : Rps W ns vs) : vs = ns.map V.str := by
  induction h with
  | nil => rfl
  | cons r t ih => rw [show _ = _ from r, ih]; rfl
/-! ### things that change: a kind of them, its footprint -/
structure Kd (κ : Type) where
  own : Wo → List Addr → κ → V → Prop
  st : ∀ {W W' : Wo} {fp : List Addr} {x : κ} {v : V}, St W W' → (∀ a ∈ fp, ∀ o, W.H a = some o → W'.H a = some o) → own W fp x v → own W' fp x v
  live : ∀ {W : Wo} {fp : List Addr} {x : κ} {v : V}, own W fp x v → ∀ a ∈ fp, W.H a ≠ none
/-- a list -/
def kL (α : Type) [PyI α] : Kd (List α) where
  own := fun W fp xs v => ∃ p vs, fp = [p] ∧ v = .ref p ∧ W.H p = some (.lst vs) ∧ Rps W xs vs
  st := fun s c ⟨p, vs, h1, h2, h3, h4⟩ => ⟨p, vs, h1, h2, c p (by rw [h1]; exact List.mem_singleton.mpr rfl) _ h3, Rps.st s h4⟩
  live := fun ⟨p, vs, h1, h2, h3, h4⟩ a ha => by
    rw [h1] at ha
    cases List.mem_singleton.mp ha
    exact some_ne h3
/-- a list of lists -/
def Row {α : Type} [PyI α] (W : Wo) (xs : List α) (a : Addr) : Prop := ∃ vs, W.H a = some (.lst vs) ∧ Rps W xs vs
theorem rows_st {α : Type} [PyI α] {W W' : Wo} (s : St W W') : ∀ {xss : List (List α)} {ps : List Addr}, (∀ a ∈ ps, ∀ o, W.H a = some o → W'.H a = some o) → Paired (Row W) xss ps → Paired (Row W') xss ps
  | _, _, _, .nil => .nil
  | _, _, c, .cons ⟨vs, q1, q2⟩ t => .cons ⟨vs, c _ List.mem_cons_self _ q1, Rps.st s q2⟩ (rows_st s (fun a m => c a (List.mem_cons_of_mem _ m)) t)
def kG (α : Type) [PyI α] : Kd (List (List α)) where
  own := fun W fp xss v => ∃ p ps, fp = p :: ps ∧ (p :: ps).Nodup ∧ v = .ref p ∧ W.H p = some (.lst (ps.map V.ref)) ∧ Paired (Row W) xss ps
  st := fun s c ⟨p, ps, h1, h2, h3, h4, h5⟩ => ⟨p, ps, h1, h2, h3, c p (by rw [h1]; exact List.mem_cons_self) _ h4, rows_st s (fun a m => c a (by rw [h1]; exact List.mem_cons_of_mem _ m)) h5⟩
  live := fun ⟨p, ps, h1, h2, h3, h4, h5⟩ a ha => by
    rw [h1] at ha
    rcases List.mem_cons.mp ha with rfl | ha
    · exact some_ne h4
    · obtain ⟨i, hi⟩ := List.getElem?_of_mem ha
      obtain ⟨xs, _, vs, q1, _⟩ := h5.getV hi
      exact some_ne q1
/-- of our own: new since W0, not frozen -/
structure Var {κ : Type} (k : Kd κ) (W0 W : Wo) (fp : List Addr) (x : κ) (v : V) : Prop where
  own : k.own W fp x v
  fr : ∀ a ∈ fp, W0.H a = none
  nF : ∀ a ∈ fp, ¬ W.F a
theorem Kd.go {κ : Type} {k : Kd κ} {e : Ef} {W W' : Wo} {fp : List Addr} {x : κ} {v : V} (g : Gw e W W') (hS : ∀ a ∈ fp, ¬ e.S a) (h : k.own W fp x v) : k.own W' fp x v := k.st g.st (fun a m o q => g.keep a o q (hS a m)) h
theorem Var.go {κ : Type} {k : Kd κ} {e : Ef} {W0 W W' : Wo} {fp : List Addr} {x : κ} {v : V} (g0 : Good e W0) (g : Gw e W W') (h : Var k W0 W fp x v) : Var k W0 W' fp x v :=
  ⟨Kd.go g (fun a m s => g0.S a s (h.fr a m)) h.own, h.fr, fun a m f => (g.new a f).elim (h.nF a m) (k.live h.own a m)⟩
end Y

/-! What a reading evaluates to, by its model. -/
namespace Y
open PySem L2
/-- how a result lies in the heap -/
structure Rs (e : Ef) (α : Type) where
  post : Wo → Wo → α → V → Prop
  back : ∀ {W W1 W2 : Wo} {a : α} {v : V}, Gw e W W1 → post W1 W2 a v → post W W2 a v
  stay : ∀ {W1 W2 W3 : Wo} {a : α} {v : V}, Gw e W2 W3 → post W1 W2 a v → post W1 W3 a v
def sI {e : Ef} {α : Type} [PyI α] : Rs e α := ⟨fun _ W2 a v => Rp W2 a v, fun _ h => h, fun g h => PyI.st g.st h⟩
def sR {e : Ef} {κ : Type} (k : Kd κ) : Rs e κ := ⟨fun _ W2 x v => ∃ fp, k.own W2 fp x v ∧ ∀ a ∈ fp, ¬ e.S a, fun _ h => h, fun g ⟨fp, h1, h2⟩ => ⟨fp, Kd.go g h2 h1, h2⟩⟩
def sN {e : Ef} {κ : Type} (k : Kd κ) : Rs e κ := ⟨fun W1 W2 x v => ∃ fp, k.own W2 fp x v ∧ ∀ a ∈ fp, W1.H a = none ∧ ¬ e.S a ∧ ¬ W2.F a,
  fun g ⟨fp, h1, h2⟩ => ⟨fp, h1, fun a m => ⟨g.live a (h2 a m).1, (h2 a m).2⟩⟩,
  fun g ⟨fp, h1, h2⟩ => ⟨fp, Kd.go g (fun a m => (h2 a m).2.1) h1, fun a m => ⟨(h2 a m).1, (h2 a m).2.1, fun f => (g.new a f).elim (h2 a m).2.2 (k.live h1 a m)⟩⟩⟩
def EvW {α : Type} (e : Ef) (te : TE) (σ : L2.St) (W : Wo) (ρ : Rs e α) (w : WP α) : Prop :=
  ∀ W1, Gw e W W1 → ∀ Q : VK, w.run W1.n (fun n a => ∀ v W2, Gw e W1 W2 → W2.n = n → ρ.post W1 W2 a v → Q v W2.H) → te σ W1.H Q
def EvT (e : Ef) (t : TT) (σ : L2.St) (W : Wo) (w : WP Bool) : Prop :=
  ∀ W1, Gw e W W1 → ∀ Q : Bool → Hp → Prop, w.run W1.n (fun n b => ∀ W2, Gw e W1 W2 → W2.n = n → Q b W2.H) → t σ W1.H Q
namespace WP
variable {α β γ δ : Type}
abbrev b2 (a : WP α) (b : WP β) (f : α → β → WP γ) : WP γ := a.bind fun x => b.bind fun y => f x y
abbrev b3 (a : WP α) (b : WP β) (c : WP γ) (f : α → β → γ → WP δ) : WP δ := a.bind fun x => b.bind fun y => c.bind fun z => f x y z
abbrev add (a b : WP Int) : WP Int := b2 a b fun x y => pure (x + y)
abbrev sub (a b : WP Int) : WP Int := b2 a b fun x y => pure (x - y)
abbrev mul (a b : WP Int) : WP Int := b2 a b fun x y => req (CMul x y) (x * y)
abbrev fdiv (a b : WP Int) : WP Int := b2 a b fun x y => req (CDiv x y) (x / y)
abbrev mod (a b : WP Int) : WP Int := b2 a b fun x y => req (0 < y) (x % y)
abbrev pow (a b : WP Int) : WP Int := b2 a b fun x y => req (CPow x y) (x ^ y.toNat)
abbrev lt (a b : WP Int) : WP Bool := b2 a b fun x y => pure (decide (x < y))
abbrev le (a b : WP Int) : WP Bool := b2 a b fun x y => pure (decide (x ≤ y))
abbrev gt (a b : WP Int) : WP Bool := b2 a b fun x y => pure (decide (y < x))
abbrev ge (a b : WP Int) : WP Bool := b2 a b fun x y => pure (decide (y ≤ x))
abbrev eq [DecidableEq α] (a b : WP α) : WP Bool := b2 a b fun x y => pure (decide (x = y))
abbrev ne [DecidableEq α] (a b : WP α) : WP Bool := b2 a b fun x y => pure (!decide (x = y))
abbrev not (a : WP Bool) : WP Bool := a.bind fun b => pure (!b)
abbrev neg (a : WP Int) : WP Int := a.bind fun b => pure (-b)
abbrev and (a b : WP Bool) : WP Bool := a.bind fun x => cond x b (pure false)
abbrev or (a b : WP Bool) : WP Bool := a.bind fun x => cond x (pure true) b
abbrev ite (c : WP Bool) (a b : WP α) : WP α := c.bind fun x => cond x a b
/-- a < b < c -/
abbrev chain (C C' : Int → Int → Bool) (a b c : WP Int) : WP Bool := a.bind fun x => b.bind fun y => cond (C x y) (c.bind fun z => pure (C' y z)) (pure false)
end WP
section
variable {α β γ δ : Type} {K : PySem.W.Frag} {e : Ef} {σ : L2.St} {W : Wo} {ta tb te tc : TE} {t u : TT} {i j k m n : Nat} {v : V}
theorem ew_int {x : Int} : EvW e (tC (.int x)) σ W sI (WP.pure x) := fun W1 g Q q => q _ W1 (Gw.refl g.ok) rfl rfl
theorem ew_str {x : Str} : EvW e (tC (.str x)) σ W sI (WP.pure x) := fun W1 g Q q => q _ W1 (Gw.refl g.ok) rfl rfl
theorem ew_bl {x : Bool} : EvW e (tC (.bl x)) σ W sI (WP.pure x) := fun W1 g Q q => q _ W1 (Gw.refl g.ok) rfl rfl
theorem ew_nonO [PyI α] : EvW e (tC .non) σ W sI (WP.pure (none : Option α)) := fun W1 g Q q => q _ W1 (Gw.refl g.ok) rfl rfl
theorem ew_var [PyI α] {a : α} {i : Nat} (h : σ[i]? = some (some v)) (r : Rp W a v) : EvW e (tVar i) σ W sI (WP.pure a) := fun W1 g Q q => ⟨v, h, q v W1 (Gw.refl g.ok) rfl (PyI.st g.st r)⟩
theorem ew_varR {κ : Type} {kd : Kd κ} {fp : List Addr} {x : κ} {i : Nat} (h : σ[i]? = some (some v)) (hS : ∀ a ∈ fp, ¬ e.S a) (r : kd.own W fp x v) : EvW e (tVar i) σ W (sR kd) (WP.pure x) := fun W1 g Q q => ⟨v, h, q v W1 (Gw.refl g.ok) rfl ⟨fp, Kd.go g hS r, hS⟩⟩
/-- what is new may be read -/
theorem ew_rd {κ : Type} {kd : Kd κ} {w : WP κ} (h : EvW e te σ W (sN kd) w) : EvW e te σ W (sR kd) w := fun W1 g Q q => h W1 g Q (w.mono (fun n a hq v W2 g2 hn ⟨fp, h1, h2⟩ => hq v W2 g2 hn ⟨fp, h1, fun a m => (h2 a m).2.1⟩) q)
theorem ew_op {r : R2} {ρ1 : Rs e α} {ρ2 : Rs e β} {ρ : Rs e γ} {w1 : WP α} {w2 : WP β} {f : α → β → WP γ} (ha : EvW e ta σ W ρ1 w1) (hb : EvW e tb σ W ρ2 w2)
    (hr : ∀ W1 W2 a b x y, Gw e W1 W2 → ρ1.post W1 W2 a x → ρ2.post W1 W2 b y → ∀ Q : VK, (f a b).run W2.n (fun n c => ∀ v W3, Gw e W2 W3 → W3.n = n → ρ.post W2 W3 c v → Q v W3.H) → r x y W2.H Q) : EvW e (tOp r ta tb) σ W ρ (WP.b2 w1 w2 f) := fun W1 g Q hw =>
  ha W1 g _ (w1.mono (fun n a h x W2 g2 hn r1 => hb W2 (g.trans g2) _ (by
    subst hn
    exact w2.mono (fun n b h y W3 g3 hn r2 => hr W1 W3 a b x y (g2.trans g3) (ρ1.stay g3 r1) (ρ2.back g2 r2) Q (by
      subst hn
      exact (f a b).mono (fun n c h v W4 g4 hn r4 => h v W4 ((g2.trans g3).trans g4) hn (ρ.back (g2.trans g3) r4)) h)) h)) hw)
/-- both of them read as they are -/
theorem ew_op2 [PyI α] [PyI β] [PyI γ] {r : R2} {w1 : WP α} {w2 : WP β} {C : α → β → Prop} {f : α → β → γ} (ha : EvW e ta σ W sI w1) (hb : EvW e tb σ W sI w2)
    (hr : ∀ W2 a b x y, Rp W2 a x → Rp W2 b y → C a b → ∀ Q : VK, (∀ v H3, Same W2.H H3 → Rp ⟨H3, W2.F, W2.n⟩ (f a b) v → Q v H3) → r x y W2.H Q) : EvW e (tOp r ta tb) σ W sI (WP.b2 w1 w2 fun a b => WP.req (C a b) (f a b)) :=
  ew_op ha hb fun W1 W2 a b x y g r1 r2 Q q => hr W2 a b x y r1 r2 q.1 Q fun v H3 s r => q.2 v ⟨H3, W2.F, W2.n⟩ (Gw.same g.ok s) rfl r
theorem ew_op20 [PyI α] [PyI β] [PyI γ] {r : R2} {w1 : WP α} {w2 : WP β} {f : α → β → γ} (ha : EvW e ta σ W sI w1) (hb : EvW e tb σ W sI w2)
    (hr : ∀ W2 a b x y, Rp W2 a x → Rp W2 b y → ∀ Q : VK, (∀ v H3, Same W2.H H3 → Rp ⟨H3, W2.F, W2.n⟩ (f a b) v → Q v H3) → r x y W2.H Q) : EvW e (tOp r ta tb) σ W sI (WP.b2 w1 w2 fun a b => WP.pure (f a b)) :=
  ew_op ha hb fun W1 W2 a b x y g r1 r2 Q q => hr W2 a b x y r1 r2 Q fun v H3 s r => q v ⟨H3, W2.F, W2.n⟩ (Gw.same g.ok s) rfl r
section
variable {w1 w2 : WP Int} (ha : EvW e ta σ W sI w1) (hb : EvW e tb σ W sI w2)
include ha hb
theorem ew_iop [PyI γ] {C : Int → Int → Prop} {f : Int → Int → V} {g : Int → Int → γ} (hv : ∀ W x y, Rp W (g x y) (f x y)) : EvW e (tOp (rI C f) ta tb) σ W sI (WP.b2 w1 w2 fun a b => WP.req (C a b) (g a b)) :=
  ew_op2 ha hb fun W2 a b x y r1 r2 hc Q q => by cases r1; cases r2; exact ⟨a, b, rfl, rfl, hc, q _ _ (Same.refl _) (hv _ _ _)⟩
theorem ew_iop0 [PyI γ] {f : Int → Int → V} {g : Int → Int → γ} (hv : ∀ W x y, Rp W (g x y) (f x y)) : EvW e (tOp (rI0 f) ta tb) σ W sI (WP.b2 w1 w2 fun a b => WP.pure (g a b)) :=
  ew_op20 ha hb fun W2 a b x y r1 r2 Q q => by cases r1; cases r2; exact ⟨a, b, rfl, rfl, q _ _ (Same.refl _) (hv _ _ _)⟩
theorem ew_add : EvW e (tOp (rI0 fun i j => .int (i + j)) ta tb) σ W sI (WP.add w1 w2) := ew_iop0 ha hb fun _ _ _ => rfl
theorem ew_sub : EvW e (tOp (rI0 fun i j => .int (i - j)) ta tb) σ W sI (WP.sub w1 w2) := ew_iop0 ha hb fun _ _ _ => rfl
theorem ew_mul : EvW e (tOp (rI CMul fun i j => .int (i * j)) ta tb) σ W sI (WP.mul w1 w2) := ew_iop ha hb fun _ _ _ => rfl
theorem ew_fdiv : EvW e (tOp (rI CDiv fun i j => .int (i / j)) ta tb) σ W sI (WP.fdiv w1 w2) := ew_iop ha hb fun _ _ _ => rfl
theorem ew_mod : EvW e (tOp (rI (fun _ j => 0 < j) fun i j => .int (i % j)) ta tb) σ W sI (WP.mod w1 w2) := ew_iop ha hb fun _ _ _ => rfl
theorem ew_pow : EvW e (tOp (rI CPow fun i j => .int (i ^ j.toNat)) ta tb) σ W sI (WP.pow w1 w2) := ew_iop ha hb fun _ _ _ => rfl
theorem ew_lt : EvW e (tOp (rI0 fun i j => .bl (decide (i < j))) ta tb) σ W sI (WP.lt w1 w2) := ew_iop0 ha hb fun _ _ _ => rfl
theorem ew_gt : EvW e (tOp (rI0 fun i j => .bl (decide (j < i))) ta tb) σ W sI (WP.gt w1 w2) := ew_iop0 ha hb fun _ _ _ => rfl
theorem ew_ge : EvW e (tOp (rI0 fun i j => .bl (decide (j ≤ i))) ta tb) σ W sI (WP.ge w1 w2) := ew_iop0 ha hb fun _ _ _ => rfl
end
theorem ew_neg {w : WP Int} (ha : EvW e ta σ W sI w) : EvW e (tUn (rU fun i => .int (-i)) ta) σ W sI (WP.neg w) := fun W1 g Q q => ha W1 g _ (w.mono (fun n a h v W2 g2 hn r => by
  cases r
  exact ⟨a, rfl, h _ W2 g2 hn rfl⟩) q)
/-- values told by == -/
class Scal (α : Type) [PyI α] [DecidableEq α] where
  toV : α → V
  rv : ∀ {W : Wo} {a : α} {v : V}, Rp W a v → v = toV a
  inj : ∀ a b : α, toV a = toV b ↔ a = b
  sc : ∀ a b : α, scal (toV a) (toV b) = true
instance : Scal Int := ⟨V.int, fun h => h, fun a b => ⟨fun h => by injection h, fun h => by rw [h]⟩, fun _ _ => rfl⟩
instance : Scal Bool := ⟨V.bl, fun h => h, fun a b => ⟨fun h => by injection h, fun h => by rw [h]⟩, fun _ _ => rfl⟩
instance : Scal Str := ⟨V.str, fun h => h, fun a b => ⟨fun h => by injection h, fun h => by rw [h]⟩, fun _ _ => rfl⟩
theorem scal_dec [PyI α] [DecidableEq α] [Scal α] (a b : α) : decide (Scal.toV a = Scal.toV b) = decide (a = b) := by
  by_cases h : a = b
  · rw [decide_eq_true h, decide_eq_true ((Scal.inj a b).mpr h)]
  · rw [decide_eq_false h, decide_eq_false (fun z => h ((Scal.inj a b).mp z))]
theorem ew_eq [PyI α] [DecidableEq α] [Scal α] {w1 w2 : WP α} (ha : EvW e ta σ W sI w1) (hb : EvW e tb σ W sI w2) : EvW e (tOp rEq ta tb) σ W sI (WP.eq w1 w2) :=
  ew_op20 ha hb fun W2 a b x y r1 r2 Q q => by
    rw [Scal.rv r1, Scal.rv r2]
    exact ⟨Scal.sc a b, q _ _ (Same.refl _) (by rw [scal_dec]; exact (rfl : _ = V.bl _))⟩
theorem ew_ne [PyI α] [DecidableEq α] [Scal α] {w1 w2 : WP α} (ha : EvW e ta σ W sI w1) (hb : EvW e tb σ W sI w2) : EvW e (tOp rNe ta tb) σ W sI (WP.ne w1 w2) :=
  ew_op20 ha hb fun W2 a b x y r1 r2 Q q => by
    rw [Scal.rv r1, Scal.rv r2]
    exact ⟨Scal.sc a b, q _ _ (Same.refl _) (by rw [scal_dec]; exact (rfl : _ = V.bl _))⟩
/-- tests -/
theorem et_t {w : WP Bool} (h : EvW e te σ W sI w) : EvT e (tTest te) σ W w := fun W1 g Q q => h W1 g _ (w.mono (fun n b h v W2 g2 hn r => ⟨b, r, h W2 g2 hn⟩) q)
theorem et_B {w : WP Bool} (h : EvW e te σ W sI w) : EvT e (tB te) σ W w := fun W1 g Q q => h W1 g _ (w.mono (fun n b h v W2 g2 hn r => ⟨b, r, h W2 g2 hn⟩) q)
theorem et_not {w : WP Bool} (h : EvT e t σ W w) : EvT e (tNot t) σ W (WP.not w) := fun W1 g Q q => h W1 g _ (w.mono (fun n b h W2 g2 hn => h W2 g2 hn) q)
theorem et_and {w1 w2 : WP Bool} (h1 : EvT e t σ W w1) (h2 : EvT e u σ W w2) : EvT e (tAnd t u) σ W (WP.and w1 w2) := fun W1 g Q q => h1 W1 g _ (w1.mono (fun n b h W2 g2 hn => by
  subst hn
  cases b with
  | true => exact h2 W2 (g.trans g2) _ (w2.mono (fun n c h W3 g3 hn => h W3 (g2.trans g3) hn) h)
  | false => exact h W2 g2 rfl) q)
theorem et_or {w1 w2 : WP Bool} (h1 : EvT e t σ W w1) (h2 : EvT e u σ W w2) : EvT e (tOr t u) σ W (WP.or w1 w2) := fun W1 g Q q => h1 W1 g _ (w1.mono (fun n b h W2 g2 hn => by
  subst hn
  cases b with
  | false => exact h2 W2 (g.trans g2) _ (w2.mono (fun n c h W3 g3 hn => h W3 (g2.trans g3) hn) h)
  | true => exact h W2 g2 rfl) q)
theorem ew_andV {w1 w2 : WP Bool} (h1 : EvW e ta σ W sI w1) (h2 : EvW e tb σ W sI w2) : EvW e (tAndV ta tb) σ W sI (WP.and w1 w2) := fun W1 g Q q => h1 W1 g _ (w1.mono (fun n b h v W2 g2 hn r => ⟨b, r, by
  subst hn
  cases b with
  | true => exact h2 W2 (g.trans g2) _ (w2.mono (fun n c h v W3 g3 hn r => h v W3 (g2.trans g3) hn r) h)
  | false => exact h _ W2 g2 rfl rfl⟩) q)
theorem ew_orV {w1 w2 : WP Bool} (h1 : EvW e ta σ W sI w1) (h2 : EvW e tb σ W sI w2) : EvW e (tOrV ta tb) σ W sI (WP.or w1 w2) := fun W1 g Q q => h1 W1 g _ (w1.mono (fun n b h v W2 g2 hn r => ⟨b, r, by
  subst hn
  cases b with
  | false => exact h2 W2 (g.trans g2) _ (w2.mono (fun n c h v W3 g3 hn r => h v W3 (g2.trans g3) hn r) h)
  | true => exact h _ W2 g2 rfl rfl⟩) q)
theorem ew_ifE {ρ : Rs e α} {c : WP Bool} {wa wb : WP α} (h : EvT e t σ W c) (h1 : EvW e ta σ W ρ wa) (h2 : EvW e tb σ W ρ wb) : EvW e (tIf t ta tb) σ W ρ (WP.ite c wa wb) := fun W1 g Q q => h W1 g _ (c.mono (fun n b h W2 g2 hn => by
  subst hn
  cases b with
  | true => exact h1 W2 (g.trans g2) _ (wa.mono (fun n c h v W3 g3 hn r => h v W3 (g2.trans g3) hn (ρ.back g2 r)) h)
  | false => exact h2 W2 (g.trans g2) _ (wb.mono (fun n c h v W3 g3 hn r => h v W3 (g2.trans g3) hn (ρ.back g2 r)) h)) q)
theorem ew_chain {C C' : Int → Int → Bool} {w1 w2 w3 : WP Int} (h1 : EvW e ta σ W sI w1) (h2 : EvW e tb σ W sI w2) (h3 : EvW e tc σ W sI w3) :
    EvW e (tChain (rI0 fun i j => .bl (C i j)) (rI0 fun i j => .bl (C' i j)) ta tb tc) σ W sI (WP.chain C C' w1 w2 w3) := fun W1 g Q q => h1 W1 g _ (w1.mono (fun n a h x W2 g2 hn r1 => by
  subst hn
  refine h2 W2 (g.trans g2) _ (w2.mono (fun n b h y W3 g3 hn r2 => ?_) h)
  subst hn
  cases r1; cases r2
  refine ⟨a, b, rfl, rfl, C a b, rfl, ?_⟩
  cases hC : C a b with
  | true =>
    simp only [hC, WP.cond_true] at h
    refine h3 W3 ((g.trans g2).trans g3) _ (w3.mono (fun n c h z W4 g4 hn r3 => ?_) h)
    cases r3
    exact ⟨b, c, rfl, rfl, h _ W4 ((g2.trans g3).trans g4) hn rfl⟩
  | false =>
    simp only [hC, WP.cond_false] at h
    exact h _ W3 (g2.trans g3) rfl rfl) q)
/-! arguments -/
def EvA (e : Ef) (ta : TA) (σ : L2.St) (W : Wo) {α : Type} (ψ : Wo → Wo → α → List V → Prop) (w : WP α) : Prop :=
  ∀ W1, Gw e W W1 → ∀ Q : List V → Hp → Prop, w.run W1.n (fun n a => ∀ vs W2, Gw e W1 W2 → W2.n = n → ψ W1 W2 a vs → Q vs W2.H) → ta σ W1.H Q
theorem ea2 {ρ1 : Rs e α} {ρ2 : Rs e β} {w1 : WP α} {w2 : WP β} (h1 : EvW e ta σ W ρ1 w1) (h2 : EvW e tb σ W ρ2 w2) : EvA e (tCons ta (tCons tb tNil)) σ W (fun W1 W2 (c : α × β) vs => ∃ v1 v2, vs = [v1, v2] ∧ ρ1.post W1 W2 c.1 v1 ∧ ρ2.post W1 W2 c.2 v2) (WP.b2 w1 w2 fun a b => WP.pure (a, b)) := fun W1 g Q q =>
  h1 W1 g _ (w1.mono (fun n a h x W2 g2 hn r1 => by
    subst hn
    exact h2 W2 (g.trans g2) _ (w2.mono (fun n b h y W3 g3 hn r2 => h _ W3 (g2.trans g3) hn ⟨x, y, rfl, ρ1.stay g3 r1, ρ2.back g2 r2⟩) h)) q)
theorem ew_cb1 {r : List V → Hp → VK → Prop} {ρ1 : Rs e α} {ρ : Rs e γ} {w1 : WP α} {m : α → WP γ} (h1 : EvW e ta σ W ρ1 w1)
    (hm : ∀ W1 W2 a x, Gw e W1 W2 → ρ1.post W1 W2 a x → ∀ Q : VK, (m a).run W2.n (fun n b => ∀ v W3, Gw e W2 W3 → W3.n = n → ρ.post W2 W3 b v → Q v W3.H) → r [x] W2.H Q) : EvW e (tCB r (tCons ta tNil)) σ W ρ (w1.bind m) := fun W1 g Q q =>
  h1 W1 g _ (w1.mono (fun n a h x W2 g2 hn r1 => by
    subst hn
    exact hm W1 W2 a x g2 r1 Q ((m a).mono (fun n b h v W3 g3 hn r3 => h v W3 (g2.trans g3) hn (ρ.back g2 r3)) h)) q)
theorem ew_cb2 {r : List V → Hp → VK → Prop} {ρ1 : Rs e α} {ρ2 : Rs e β} {ρ : Rs e γ} {w1 : WP α} {w2 : WP β} {m : α → β → WP γ} (h1 : EvW e ta σ W ρ1 w1) (h2 : EvW e tb σ W ρ2 w2)
    (hm : ∀ W1 W2 a b x y, Gw e W1 W2 → ρ1.post W1 W2 a x → ρ2.post W1 W2 b y → ∀ Q : VK, (m a b).run W2.n (fun n b => ∀ v W3, Gw e W2 W3 → W3.n = n → ρ.post W2 W3 b v → Q v W3.H) → r [x, y] W2.H Q) : EvW e (tCB r (tCons ta (tCons tb tNil))) σ W ρ (WP.b2 w1 w2 m) := fun W1 g Q q =>
  h1 W1 g _ (w1.mono (fun n a h x W2 g2 hn r1 => by
    subst hn
    refine h2 W2 (g.trans g2) _ (w2.mono (fun n b h y W3 g3 hn r2 => ?_) h)
    subst hn
    exact hm W1 W3 a b x y (g2.trans g3) (ρ1.stay g3 r1) (ρ2.back g2 r2) Q ((m a b).mono (fun n b h v W4 g4 hn r3 => h v W4 ((g2.trans g3).trans g4) hn (ρ.back (g2.trans g3) r3)) h)) q)
/-! calls: of defs that keep their promise -/
theorem ew_call2 {sp : Sp} {E : XK} {ρ1 : Rs e α} {ρ2 : Rs e β} {ρ : Rs e γ} {w1 : WP α} {w2 : WP β} {m : α → β → WP γ} (h1 : EvW e ta σ W ρ1 w1) (h2 : EvW e tb σ W ρ2 w2)
    (hm : ∀ W2 a b x y, Good e W2 → ρ1.post W2 W2 a x → ρ2.post W2 W2 b y → ∀ Q : VK, (m a b).run W2.n (fun n b => ∀ v W3, Gw e W2 W3 → W3.n = n → ρ.post W2 W3 b v → Q v W3.H) → ∀ E, sp [x, y] W2.H Q E)
    (hn1 : ∀ {W1 W2 a x}, ρ1.post W1 W2 a x → ρ1.post W2 W2 a x := by intros; assumption) (hn2 : ∀ {W1 W2 a x}, ρ2.post W1 W2 a x → ρ2.post W2 W2 a x := by intros; assumption) : EvW e (tCall sp [] E (tCons ta (tCons tb tNil))) σ W ρ (WP.b2 w1 w2 m) := fun W1 g Q q =>
  h1 W1 g _ (w1.mono (fun n a h x W2 g2 hn r1 => by
    subst hn
    refine h2 W2 (g.trans g2) _ (w2.mono (fun n b h y W3 g3 hn r2 => ?_) h)
    subst hn
    exact hm W3 a b x y g3.ok (hn1 (ρ1.stay g3 r1)) (hn2 r2) Q ((m a b).mono (fun n b h v W4 g4 hn r3 => h v W4 ((g2.trans g3).trans g4) hn (ρ.back (g2.trans g3) r3)) h) E) q)
end
end Y

namespace Y
open PySem PySem.Spec PyProof.Rows L2
theorem sz_le {n : Nat} (h : n ≤ 100000) : n ≤ sizeLine := Nat.le_trans h (by decide)
theorem sz_lt {n : Nat} (h : n < 100000) : n < sizeLine := Nat.lt_of_lt_of_le h (by decide)
/-- items, by total functions -/
def ixD {α : Type} [Inhabited α] (xs : List α) (i : Int) : α := (atI xs i).getD default
def okI (n : Nat) (i : Int) : Prop := -(n : Int) ≤ i ∧ i < n
theorem atI_ok {α : Type} [Inhabited α] {xs : List α} {i : Int} (h : okI xs.length i) : atI xs i = some (ixD xs i) := by
  have : ∃ a, atI xs i = some a := by
    unfold atI ixN
    obtain ⟨h1, h2⟩ := h
    by_cases h0 : 0 ≤ i
    · rw [if_pos h0, if_pos h2]
      have : i.toNat < xs.length := by omega
      exact ⟨xs[i.toNat], by simp [this]⟩
    · rw [if_neg h0, if_pos h1]
      have : (i + xs.length).toNat < xs.length := by omega
      exact ⟨xs[(i + xs.length).toNat], by simp [this]⟩
  obtain ⟨a, ha⟩ := this
  unfold ixD
  rw [ha]; rfl
theorem ixD_nat {α : Type} [Inhabited α] {xs : List α} {i : Nat} (h : i < xs.length) : ixD xs (i : Int) = xs[i] := by
  unfold ixD atI ixN
  rw [if_pos (by omega), if_pos (by omega)]
  simp [h]
theorem atI_pair {α β : Type} {F : α → β → Prop} {xs : List α} {vs : List β} {i : Int} {a : α} (h : Paired F xs vs) (e : atI xs i = some a) : ∃ v, atI vs i = some v ∧ F a v := by
  unfold atI at e ⊢
  rw [← Paired.length h]
  cases q : ixN xs.length i with
  | none => rw [q] at e; cases e
  | some n => rw [q] at e; exact h.getA e
def sgn (z : Str) (i : Int) : Str := ⟨#[ixD z.cps.toList i]⟩
instance : Inhabited Str := ⟨⟨#[]⟩⟩
def cutL {α : Type} (xs : List α) (lo hi : Option Int) : List α := (xs.drop (HT.sIx xs.length 0 lo)).take (HT.sIx xs.length xs.length hi - HT.sIx xs.length 0 lo)
namespace WP
variable {α β γ : Type}
abbrev ix [Inhabited α] (a : WP (List α)) (b : WP Int) : WP α := b2 a b fun xs x => req (okI xs.length x) (ixD xs x)
abbrev ixS (a : WP Str) (b : WP Int) : WP Str := b2 a b fun z x => req (z.length ≤ 100000 ∧ okI z.length x) (sgn z x)
abbrev fst (a : WP (α × β)) : WP α := a.bind fun c => pure c.1
abbrev snd (a : WP (α × β)) : WP β := a.bind fun c => pure c.2
abbrev pair (a : WP α) (b : WP β) : WP (α × β) := b2 a b fun x y => pure (x, y)
abbrev consE (a : WP α) (b : WP (List α)) : WP (List α) := b2 a b fun x xs => pure (x :: xs)
abbrev row (a : WP (List α)) : WP (List α) := a.bind fun xs => req (xs.length ≤ 100000) xs
abbrev len (a : WP (List α)) : WP Int := a.bind fun xs => pure ((xs.length : Nat) : Int)
abbrev lenS (a : WP Str) : WP Int := a.bind fun z => req (z.length ≤ 100000) ((z.length : Nat) : Int)
abbrev abs (a : WP Int) : WP Int := a.bind fun i => pure (if i < 0 then -i else i)
abbrev min2 (a b : WP Int) : WP Int := b2 a b fun i j => pure (if j < i then j else i)
abbrev sum (a : WP (List Int)) : WP Int := a.bind fun xs => pure xs.sum
abbrev cut (a : WP (List α)) (l h : WP (Option Int)) : WP (List α) := b3 a l h fun xs x y => pure (cutL xs x y)
end WP
section
variable {α β γ δ : Type} {K : PySem.W.Frag} {e : Ef} {σ : L2.St} {W : Wo} {ta tb te tc : TE} {t u : TT} {i j k m n : Nat} {v : V}
theorem ew_ixT [PyI α] [Inhabited α] {w1 : WP (List α)} {w2 : WP Int} (ha : EvW e ta σ W sI w1) (hb : EvW e tb σ W sI w2) : EvW e (tOp (rIxT K) ta tb) σ W sI (WP.ix w1 w2) :=
  ew_op2 ha hb fun W2 xs x _ _ ⟨p, vs, h1, h2, h3⟩ r2 hc Q q => by
    cases r2
    obtain ⟨v, hv, rv⟩ := atI_pair h3 (atI_ok hc)
    exact ⟨p, vs, x, v, h1, rfl, SqT.of h2, hv, q _ _ (Same.refl _) rv⟩
theorem ew_fst [PyI α] [PyI β] {w : WP (α × β)} (ha : EvW e ta σ W sI w) : EvW e (tOp (rIxT K) ta (tC (.int 0))) σ W sI (WP.fst w) := fun W1 g Q q => ha W1 g _ (w.mono (fun n c h v W2 g2 hn ⟨p, x, y, h1, h2, h3, h4⟩ => ⟨p, _, 0, x, h1, rfl, SqT.of h2, rfl, h _ W2 g2 hn h3⟩) q)
theorem ew_snd [PyI α] [PyI β] {w : WP (α × β)} (ha : EvW e ta σ W sI w) : EvW e (tOp (rIxT K) ta (tC (.int 1))) σ W sI (WP.snd w) := fun W1 g Q q => ha W1 g _ (w.mono (fun n c h v W2 g2 hn ⟨p, x, y, h1, h2, h3, h4⟩ => ⟨p, _, 1, y, h1, rfl, SqT.of h2, rfl, h _ W2 g2 hn h4⟩) q)
theorem ew_ixS {w1 : WP Str} {w2 : WP Int} (ha : EvW e ta σ W sI w1) (hb : EvW e tb σ W sI w2) : EvW e (tOp rIxS ta tb) σ W sI (WP.ixS w1 w2) :=
  ew_op2 ha hb fun W2 z x _ _ r1 r2 hc Q q => by
    cases r1; cases r2
    exact ⟨z, x, _, rfl, rfl, sz_le hc.1, atI_ok (xs := z.cps.toList) (by rw [Array.length_toList]; exact hc.2), q _ _ (Same.refl _) rfl⟩
theorem ew_ixL [PyI α] [Inhabited α] {w1 : WP (List α)} {w2 : WP Int} (ha : EvW e ta σ W (sR (kL α)) w1) (hb : EvW e tb σ W sI w2) : EvW e (tOp (rIxL K) ta tb) σ W sI (WP.ix w1 w2) :=
  ew_op ha hb fun W1 W2 xs x _ _ g ⟨fp, ⟨p, vs, _, h1, h2, h3⟩, _⟩ r2 Q q => by
    cases r2
    obtain ⟨v, hv, rv⟩ := atI_pair h3 (atI_ok q.1)
    exact ⟨p, vs, x, v, h1, rfl, SqL.of h2, hv, q.2 _ W2 (Gw.refl g.ok) rfl rv⟩
theorem ew_ixG [PyI α] {w1 : WP (List (List α))} {w2 : WP Int} (ha : EvW e ta σ W (sR (kG α)) w1) (hb : EvW e tb σ W sI w2) : EvW e (tOp (rIxL K) ta tb) σ W (sR (kL α)) (WP.ix w1 w2) :=
  ew_op ha hb fun W1 W2 xs x _ _ g ⟨fp, ⟨p, ps, hf, _, h1, h2, h3⟩, hS⟩ r2 Q q => by
    cases r2
    obtain ⟨a, ha', ⟨vs, ra, rv⟩⟩ := atI_pair h3 (atI_ok q.1)
    have hm : a ∈ ps := by
      unfold atI at ha'
      cases hx : ixN ps.length x with
      | none => rw [hx] at ha'; cases ha'
      | some n => rw [hx] at ha'; exact List.mem_of_getElem? ha'
    have hv : atI (ps.map V.ref) x = some (.ref a) := by
      unfold atI at ha' ⊢
      rw [List.length_map]
      cases hx : ixN ps.length x with
      | none => rw [hx] at ha'; cases ha'
      | some n =>
        rw [hx] at ha'
        show (ps.map V.ref)[n]? = _
        rw [List.getElem?_map]
        have : ps[n]? = some a := ha'
        rw [this]; rfl
    exact ⟨p, _, x, _, h1, rfl, SqL.of h2, hv, q.2 _ W2 (Gw.refl g.ok) rfl ⟨[a], ⟨a, vs, rfl, rfl, ra, rv⟩, fun b m => by cases List.mem_singleton.mp m; exact hS a (by rw [hf]; exact List.mem_cons_of_mem _ hm)⟩⟩
/-- a frozen list may be read -/
theorem ew_ls [PyI α] {w : WP (Ls α)} (h : EvW e te σ W sI w) : EvW e te σ W (sR (kL α)) (w.bind fun x => WP.pure x.l) := fun W1 g Q q => h W1 g _ (w.mono (fun n a hq v W2 g2 hn ⟨p, vs, h1, h2, h3, h4⟩ => hq v W2 g2 hn ⟨[p], ⟨p, vs, rfl, h1, h3, h4⟩, fun b m => by cases List.mem_singleton.mp m; exact (g2.ok.F p h2).1⟩) q)
/-- a new object at hand -/
theorem Gw.al {e : Ef} {W W2 : Wo} (g : Gw e W W2) {p : Addr} {o : HO} (hp : W2.H p = none) : Gw e W ⟨upd W2.H p o, W2.F, W2.n⟩ := g.trans (Gw.alloc g.ok hp)
theorem new_L [PyI α] {e : Ef} {W1 W2 : Wo} {p : Addr} {xs : List α} {vs : List V} (g : Gw e W1 W2) (hp : W2.H p = none) (r : Rps W2 xs vs) : (sN (e := e) (kL α)).post W1 ⟨upd W2.H p (.lst vs), W2.F, W2.n⟩ xs (.ref p) :=
  ⟨[p], ⟨p, vs, rfl, rfl, upd_same, Rps.st (Gw.alloc (o := .lst vs) g.ok hp).st r⟩, fun a m => by
    cases List.mem_singleton.mp m
    exact ⟨g.live p hp, fun s => g.ok.S p s hp, fun f => (g.ok.F p f).2 hp⟩⟩
/-- displays -/
theorem ew_pair [PyI α] [PyI β] {w1 : WP α} {w2 : WP β} (ha : EvW e ta σ W sI w1) (hb : EvW e tb σ W sI w2) : EvW e (tTup (tCons ta (tCons tb tNil))) σ W sI (WP.pair w1 w2) := fun W1 g Q q =>
  ea2 ha hb W1 g _ (WP.mono _ (fun n c h vs W2 g2 hn ⟨v, w, hv, r1, r2⟩ => by
    subst hv
    exact ⟨sz_le (n := 2) (by decide), fun p hp => h _ _ (g2.al hp) hn ⟨p, v, w, rfl, upd_same, PyI.st (Gw.alloc g2.ok hp).st r1, PyI.st (Gw.alloc g2.ok hp).st r2⟩⟩) q)
def EAs [PyI α] (e : Ef) (ta : TA) (σ : L2.St) (W : Wo) (w : WP (List α)) : Prop := EvA e ta σ W (fun _ W2 xs vs => Rps W2 xs vs) w
theorem eas_nil [PyI α] : EAs e tNil σ W (WP.pure ([] : List α)) := fun W1 g Q q => q [] W1 (Gw.refl g.ok) rfl .nil
theorem eas_cons [PyI α] {w : WP α} {wr : WP (List α)} {tr : TA} (h : EvW e te σ W sI w) (hr : EAs e tr σ W wr) : EAs e (tCons te tr) σ W (WP.consE w wr) := fun W1 g Q q =>
  h W1 g _ (w.mono (fun n a h v W2 g2 hn r => by
    subst hn
    exact hr W2 (g.trans g2) _ (wr.mono (fun n xs h vs W3 g3 hn r3 => h _ W3 (g2.trans g3) hn (.cons (PyI.st g3.st r) r3)) h)) q)
theorem ew_lst [PyI α] {w : WP (List α)} {tr : TA} (h : EAs e tr σ W w) : EvW e (tLst tr) σ W (sN (kL α)) (WP.row w) := fun W1 g Q q =>
  h W1 g _ (w.mono (fun n xs h vs W2 g2 hn r => ⟨by rw [← Paired.length r]; exact sz_le h.1, fun p hp => h.2 _ _ (g2.al hp) hn (new_L g2 hp r)⟩) q)
/-- things built in -/
abbrev rLenS (K : PySem.W.Frag) : List V → Hp → VK → Prop := fun xs H Q => ∃ p ys, xs = [.ref p] ∧ (SqL K H p ys ∨ SqT K H p ys) ∧ Q (.int ys.length) H
theorem ew_lenT [PyI α] {w : WP (List α)} (ha : EvW e ta σ W sI w) : EvW e (tCB (rLenS K) (tCons ta tNil)) σ W sI (WP.len w) := ew_cb1 ha fun W1 W2 xs x g ⟨p, vs, h1, h2, h3⟩ Q q => by
  subst h1
  exact ⟨p, vs, rfl, .inr (SqT.of h2), q _ W2 (Gw.refl g.ok) rfl (by rw [← Paired.length h3]; exact rfl)⟩
theorem ew_lenL [PyI α] {w : WP (List α)} (ha : EvW e ta σ W (sR (kL α)) w) : EvW e (tCB (rLenS K) (tCons ta tNil)) σ W sI (WP.len w) := ew_cb1 ha fun W1 W2 xs x g ⟨_, ⟨p, vs, _, h1, h2, h3⟩, _⟩ Q q => by
  subst h1
  exact ⟨p, vs, rfl, .inl (SqL.of h2), q _ W2 (Gw.refl g.ok) rfl (by rw [← Paired.length h3]; exact rfl)⟩
abbrev rLenZ : List V → Hp → VK → Prop := fun xs H Q => ∃ z, xs = [.str z] ∧ z.length ≤ sizeLine ∧ Q (.int z.length) H
theorem ew_lenS {w : WP Str} (ha : EvW e ta σ W sI w) : EvW e (tCB rLenZ (tCons ta tNil)) σ W sI (WP.lenS w) := ew_cb1 ha fun W1 W2 z x g r Q q => by
  cases r
  exact ⟨z, rfl, sz_le q.1, q.2 _ W2 (Gw.refl g.ok) rfl rfl⟩
abbrev rAbs : List V → Hp → VK → Prop := fun xs H Q => ∃ i, xs = [.int i] ∧ Q (.int (if i < 0 then -i else i)) H
theorem ew_abs {w : WP Int} (ha : EvW e ta σ W sI w) : EvW e (tCB rAbs (tCons ta tNil)) σ W sI (WP.abs w) := ew_cb1 ha fun W1 W2 z x g r Q q => by
  cases r
  exact ⟨z, rfl, q _ W2 (Gw.refl g.ok) rfl rfl⟩
abbrev rInt1 : List V → Hp → VK → Prop := fun xs H Q => (∃ i, xs = [.int i] ∧ Q (.int i) H) ∨ ∃ k, xs = [.bl k] ∧ Q (.int (if k then 1 else 0)) H
theorem ew_int1 {w : WP Int} (ha : EvW e ta σ W sI w) : EvW e (tCB rInt1 (tCons ta tNil)) σ W sI (w.bind WP.pure) := ew_cb1 ha fun W1 W2 z x g r Q q => by
  cases r
  exact .inl ⟨z, rfl, q _ W2 (Gw.refl g.ok) rfl rfl⟩
abbrev rMin2 : List V → Hp → VK → Prop := fun xs H Q => ∃ i j, xs = [.int i, .int j] ∧ Q (.int (if j < i then j else i)) H
theorem ew_min2 {w1 w2 : WP Int} (ha : EvW e ta σ W sI w1) (hb : EvW e tb σ W sI w2) : EvW e (tCB rMin2 (tCons ta (tCons tb tNil))) σ W sI (WP.min2 w1 w2) := ew_cb2 ha hb fun W1 W2 a b x y g r1 r2 Q q => by
  cases r1; cases r2
  exact ⟨a, b, rfl, q _ W2 (Gw.refl g.ok) rfl rfl⟩
theorem ew_sum {w : WP (List Int)} (ha : EvW e ta σ W (sR (kL Int)) w) : EvW e (tCB (rSum K) (tCons ta tNil)) σ W sI (WP.sum w) := ew_cb1 ha fun W1 W2 xs x g ⟨_, ⟨p, vs, _, h1, h2, h3⟩, _⟩ Q q => by
  subst h1
  cases rps_ints h3
  exact ⟨p, xs, rfl, SqL.of h2, q _ W2 (Gw.refl g.ok) rfl rfl⟩
abbrev rTupOf (K : PySem.W.Frag) : List V → Hp → VK → Prop := fun xs H Q => ∃ p ys, xs = [.ref p] ∧ ((SqL K H p ys ∧ ∀ l, H l = none → Q (.ref l) (upd H l (.tup ys))) ∨ (SqT K H p ys ∧ Q (.ref p) H))
theorem ew_tuple [PyI α] {w : WP (List α)} (h : EvW e te σ W (sR (kL α)) w) : EvW e (tCB (rTupOf K) (tCons te tNil)) σ W sI (w.bind fun xs => WP.pure (α := List α) xs) := ew_cb1 h fun W1 W2 xs x g ⟨_, ⟨p, vs, _, h1, h2, h3⟩, _⟩ Q q => by
  subst h1
  exact ⟨p, vs, rfl, .inl ⟨SqL.of h2, fun l hl => q _ _ (Gw.alloc g.ok hl) rfl ⟨l, vs, rfl, upd_same, Rps.st (Gw.alloc g.ok hl).st h3⟩⟩⟩
end
end Y

namespace Y
open PySem PySem.Spec PyProof.Rows L2
/-- a def of the module that keeps its promise -/
def Has (P : Program) (w : World) (K : PySem.W.Frag) (mg : Str → Option Value) (base : Heap) (x : Str) (k : Nat) (ps : List Str) (sp : Sp) : Prop :=
  ∃ f fd, mg x = some (.ref f) ∧ PySem.W.keepIn K (.ref f) = true ∧ Binds K fd ps [] ∧ FnOk P w K mg base CX0 k f fd ps sp
/-- a def as the top left it -/
def At (K : PySem.W.Frag) (mg : Str → Option Value) (x : Str) (st : Stmt) (ps : List Str) : Prop :=
  ∃ f fd, mg x = some (.ref f) ∧ Fun K x x st f fd ∧ Binds K fd ps []
section
variable {X : Cx}
theorem pe_user {x : Str} {k : Nat} {ps : List Str} {sp : Sp} {a : Expr} {es : List Expr} {t : TA} {p pos : Pos} (h : Has X.prog X.w X.K X.mg X.base x k ps sp) (hr : Room k X.A) (hg : Gl X x) (ha : PA X (a :: es) t)
    (hdb : (x == ("__debug__" : Str)) = false := by decide) (he : starEach (a :: es) X.env = (false, eval a X.env) :: starEach es X.env := by rfl) (hpl : (backTo pos (starEach es X.env)).any (·.1) = false := by rfl) :
    PE X (.Call (.Name x p) (a :: es) [] pos) (tCall sp [] E0 t) := by
  obtain ⟨f, fd, hm, hk, hb, hF⟩ := h
  exact pe_call hF hr hg hm hk hb .nil pass0 ha hdb he hpl
end
theorem Has.of {P : Program} {w : World} {K : PySem.W.Frag} {mg : Str → Option Value} {base : Heap} {x : Str} {st : Stmt} {N ps : List Str} {k : Nat} {sp : Sp} (F : At K mg x st ps) (S : FnScope N ps (defScope st)) (len : ∀ vs H Q E, sp vs H Q E → vs.length = ps.length)
    (hbody : ∀ (f : Addr) (cdv : Value) (A : Around) (outer : List Env) (s : Shared) (H : Hp) (vs : List V) (Q : VK) (E : XK), Room k (A.deeper (envOfC x (defScope st) s.heap.objs.size f cdv)) → sp vs H Q E →
      ∃ t, PSs (cxOf CX0 P w K mg base N x (defScope st) f cdv A outer s H E).nox (defBody st) t ∧ t { nx := fun _ H' => Q .non H', rt := Q } (start N vs) H) : Has P w K mg base x (k + 1) ps sp := by
  obtain ⟨f, fd, hm, hF, hb⟩ := F
  exact ⟨f, fd, hm, hF.kp, hb, hF.ok S len fun cdv A outer s H vs Q E => hbody f cdv A outer s H vs Q E⟩
/-! ### models of loops -/
/-- contents kept -/
def Kp (fp : List Addr) (W W' : Wo) : Prop := ∀ a ∈ fp, ∀ o, W.H a = some o → W'.H a = some o
theorem Kp.refl {fp : List Addr} {W : Wo} : Kp fp W W := fun _ _ _ h => h
theorem Kp.trans {fp : List Addr} {W W1 W2 : Wo} (a : Kp fp W W1) (b : Kp fp W1 W2) : Kp fp W W2 := fun x m o h => b x m o (a x m o h)
theorem Kp.gw {e : Ef} {fp : List Addr} {W W' : Wo} (g : Gw e W W') (hS : ∀ a ∈ fp, ¬ e.S a) : Kp fp W W' := fun a m o h => g.keep a o h (hS a m)
theorem Kp.upd {fp : List Addr} {W W' : Wo} {l : Addr} {u : HO} (h : Kp fp W W') (hl : ∀ a ∈ fp, a ≠ l) : Kp fp W ⟨upd W'.H l u, W'.F, W'.n⟩ := fun a m o q => by
  show (L2.upd W'.H l u) a = _
  rw [upd_ne (hl a m)]; exact h a m o q
def rangeL (lo hi : Int) : List Int := (List.range (hi - lo).toNat).map fun i : Nat => lo + (i : Int)
theorem rangeL_get {lo hi : Int} {i : Nat} (h : i < (hi - lo).toNat) : (rangeL lo hi)[i]? = some (lo + (i : Int)) := by
  unfold rangeL
  rw [List.getElem?_map, List.getElem?_range h]; rfl
theorem rangeL_len {lo hi : Int} : (rangeL lo hi).length = (hi - lo).toNat := by unfold rangeL; rw [List.length_map, List.length_range]
theorem mem_rangeL {lo hi x : Int} (h : x ∈ rangeL lo hi) : lo ≤ x ∧ x < hi := by
  unfold rangeL at h
  rw [List.mem_map] at h
  obtain ⟨i, hi, e⟩ := h
  rw [List.mem_range] at hi
  omega
namespace WP
variable {α β γ s ρ : Type}
/-- what follows a loop -/
def after (w : WP (Ctl s γ)) (f : s → WP ρ) (r : γ → WP ρ) : WP ρ := w.bind fun c => match c with | .nx y => f y | .bk y => f y | .rt x => r x
def range1 (w : WP Int) : WP (List Int) := w.bind fun n => req (-100000000 ≤ n ∧ n ≤ 100000000) (rangeL 0 n)
def range2 (a b : WP Int) : WP (List Int) := b2 a b fun x y => req (-100000000 ≤ x ∧ x ≤ 100000000 ∧ -100000000 ≤ y ∧ y ≤ 100000000) (rangeL x y)
def comp (c : α → WP Bool) (f : α → WP β) : List α → WP (List β)
  | [] => pure []
  | a :: as => (c a).bind fun b => cond b ((f a).bind fun y => (comp c f as).bind fun ys => pure (y :: ys)) (comp c f as)
end WP
/-! ### statements -/
section
variable {α β γ δ s ρ' : Type} {K : PySem.W.Frag} {e : Ef} {σ : L2.St} {W : Wo} {ta tb te tc tl : TE} {t u : TT} {i j k m n : Nat} {v : V} {D : Ends} {tu tw tz : TS} {ρ : Rs e α} {w : WP α} {R : Nat → β → Prop}
theorem st_asg {f : α → WP β} (h : EvW e te σ W ρ w) (g : Good e W) (hm : (w.bind f).run W.n R) (q : ∀ a v W1, Gw e W W1 → ρ.post W W1 a v → (f a).run W1.n R → D.nx (σ.set i (some v)) W1.H) : tAsg te (gName i) D σ W.H :=
  h W (Gw.refl g) _ (w.mono (fun n a r v W1 g1 hn p => q a v W1 g1 p (hn ▸ r)) hm)
theorem q_asg {f : α → WP β} (h : EvW e te σ W ρ w) (g : Good e W) (hm : (w.bind f).run W.n R) (q : ∀ a v W1, Gw e W W1 → ρ.post W W1 a v → (f a).run W1.n R → tz D (σ.set i (some v)) W1.H) : tSeq (tAsg te (gName i)) tz D σ W.H := st_asg (D := { D with nx := tz D }) h g hm q
/-- return e -/
theorem st_ret {f : α → WP β} (h : EvW e te σ W ρ w) (g : Good e W) (hm : (w.bind f).run W.n R) (q : ∀ a v W1, Gw e W W1 → ρ.post W W1 a v → (f a).run W1.n R → D.rt v W1.H) : tRet te D σ W.H :=
  h W (Gw.refl g) _ (w.mono (fun n a r v W1 g1 hn p => q a v W1 g1 p (hn ▸ r)) hm)
/-- a, b = e -/
theorem st_un2 [PyI α] [PyI γ] {w : WP (α × γ)} {f : α × γ → WP β} (h : EvW e te σ W sI w) (g : Good e W) (hm : (w.bind f).run W.n R) (q : ∀ c x y W1, Gw e W W1 → Rp W1 (Prod.fst c) x → Rp W1 (Prod.snd c) y → (f c).run W1.n R → D.nx ((σ.set i (some x)).set j (some y)) W1.H) :
    tAsg te (gTup K 2 (gCons (gName i) (gCons (gName j) gNil))) D σ W.H :=
  h W (Gw.refl g) _ (w.mono (fun n c r v W1 g1 hn ⟨p, x, y, h1, h2, h3, h4⟩ => ⟨p, [x, y], h1, SqT.of h2, rfl, x, [y], rfl, y, [], rfl, rfl, q c x y W1 g1 h3 h4 (hn ▸ r)⟩) hm)
theorem q_un2 [PyI α] [PyI γ] {w : WP (α × γ)} {f : α × γ → WP β} (h : EvW e te σ W sI w) (g : Good e W) (hm : (w.bind f).run W.n R) (q : ∀ c x y W1, Gw e W W1 → Rp W1 (Prod.fst c) x → Rp W1 (Prod.snd c) y → (f c).run W1.n R → tz D ((σ.set i (some x)).set j (some y)) W1.H) :
    tSeq (tAsg te (gTup K 2 (gCons (gName i) (gCons (gName j) gNil)))) tz D σ W.H := st_un2 (D := { D with nx := tz D }) h g hm q
/-- if, each branch its own model -/
theorem st_if {c : WP Bool} {A B : WP β} (h : EvT e t σ W c) (g : Good e W) (hm : (c.bind fun b => WP.cond b A B).run W.n R) (h1 : ∀ W1, Gw e W W1 → A.run W1.n R → tu D σ W1.H) (h2 : ∀ W1, Gw e W W1 → B.run W1.n R → tw D σ W1.H) : tIfS t tu tw D σ W.H :=
  h W (Gw.refl g) _ (c.mono (fun n b r W1 g1 hn => by
    subst hn
    cases b with
    | true => exact h1 W1 g1 r
    | false => exact h2 W1 g1 r) hm)
theorem q_if {c : WP Bool} {A B : WP β} (h : EvT e t σ W c) (g : Good e W) (hm : (c.bind fun b => WP.cond b A B).run W.n R) (h1 : ∀ W1, Gw e W W1 → A.run W1.n R → tu { D with nx := tz D } σ W1.H) (h2 : ∀ W1, Gw e W W1 → B.run W1.n R → tw { D with nx := tz D } σ W1.H) : tSeq (tIfS t tu tw) tz D σ W.H := st_if (D := { D with nx := tz D }) h g hm h1 h2
/-- if, the branches joined -/
theorem st_join {c : WP Bool} {A B : WP s} {f : s → WP β} (INV : s → L2.St → Wo → Prop) (h : EvT e t σ W c) (g : Good e W) (hm : ((c.bind fun b => WP.cond b A B).bind f).run W.n R) (after : ∀ y σ' W', INV y σ' W' → (f y).run W'.n R → D.nx σ' W'.H)
    (h1 : ∀ W1 R', Gw e W W1 → A.run W1.n R' → (∀ y σ' W', INV y σ' W' → R' W'.n y → D.nx σ' W'.H) → tu D σ W1.H) (h2 : ∀ W1 R', Gw e W W1 → B.run W1.n R' → (∀ y σ' W', INV y σ' W' → R' W'.n y → D.nx σ' W'.H) → tw D σ W1.H) : tIfS t tu tw D σ W.H :=
  h W (Gw.refl g) _ (c.mono (fun n b r W1 g1 hn => by
    subst hn
    cases b with
    | true => exact h1 W1 _ g1 r after
    | false => exact h2 W1 _ g1 r after) hm)
theorem q_join {c : WP Bool} {A B : WP s} {f : s → WP β} (INV : s → L2.St → Wo → Prop) (h : EvT e t σ W c) (g : Good e W) (hm : ((c.bind fun b => WP.cond b A B).bind f).run W.n R) (after : ∀ y σ' W', INV y σ' W' → (f y).run W'.n R → tz D σ' W'.H)
    (h1 : ∀ W1 R', Gw e W W1 → A.run W1.n R' → (∀ y σ' W', INV y σ' W' → R' W'.n y → tz D σ' W'.H) → tu { D with nx := tz D } σ W1.H) (h2 : ∀ W1 R', Gw e W W1 → B.run W1.n R' → (∀ y σ' W', INV y σ' W' → R' W'.n y → tz D σ' W'.H) → tw { D with nx := tz D } σ W1.H) : tSeq (tIfS t tu tw) tz D σ W.H :=
  st_join (D := { D with nx := tz D }) INV h g hm after h1 h2
theorem st_next (h : D.nx σ W.H) : tNext D σ W.H := h
/-! changes of what is our own -/
/-- the world behind a change of the object at l -/
def Wo.set (W : Wo) (l : Addr) (u : HO) : Wo := ⟨upd W.H l u, W.F, W.n⟩
/-- xs.append(e) -/
theorem st_app [PyI α] {W0 : Wo} {fp : List Addr} {xs : List α} {vx : V} {iv : Nat} {w : WP α} {f : List α → WP β} (g00 : Good e W0) (g0 : Gw e W0 W) (hv : σ[iv]? = some (some vx)) (ho : Var (kL α) W0 W fp xs vx) (h : EvW e te σ W sI w)
    (hm : ((w.bind fun a => WP.req (xs.length < 100000) (xs ++ [a])).bind f).run W.n R)
    (q : ∀ ys W1 W2 l, fp = [l] → Gw e W W1 → St W1 W2 → Gw e W0 W2 → (∀ fp' W9, Kp fp' W9 W1 → (∀ b ∈ fp', b ∉ fp) → Kp fp' W9 W2) → (∀ b, W2.F b → W1.F b) → Var (kL α) W0 W2 fp ys vx → (f ys).run W2.n R → D.nx σ W2.H) : tDrop (tBM K "list" rAppend (tVar iv) (tCons te tNil)) D σ W.H := by
  obtain ⟨⟨l, vs, h1, h2, h3, h4⟩, fr, nF⟩ := ho
  subst h1; subst h2
  have m0 : l ∈ [l] := List.mem_singleton.mpr rfl
  refine ⟨_, hv, .inl ⟨rfl, vs, SqL.of h3⟩, h W (Gw.refl g0.ok) _ (w.mono (fun n a r y W1 g1 hn p => ?_) hm)⟩
  subst hn
  have hl1 : W1.H l = some (.lst vs) := g1.keep _ _ h3 fun s => g00.S l s (fr l m0)
  have hF1 : ¬ W1.F l := fun f => (g1.new l f).elim (nF l m0) (some_ne h3)
  have s12 := St.mut (u := .lst (vs ++ [y])) hl1 (fun _ z => by cases z) hF1
  refine ⟨l, vs, y, rfl, rfl, hl1, by rw [← Paired.length h4]; exact sz_lt r.1, ?_⟩
  refine q (xs ++ [a]) W1 (W1.set l (.lst (vs ++ [y]))) l rfl g1 s12 (Gw.mut g00 (g0.trans g1) (fr l m0) hl1 (fun _ z => by cases z) hF1) (fun fp' W9 k d => k.upd fun b m z => d b m (by rw [z]; exact m0)) (fun _ f => f) ⟨⟨l, _, rfl, rfl, upd_same, ?_⟩, fr, fun b m => by cases List.mem_singleton.mp m; exact hF1⟩ r.2
  exact Paired.snoc (Rps.st (g1.st.trans s12) h4) (PyI.st s12 p)
theorem q_app [PyI α] {W0 : Wo} {fp : List Addr} {xs : List α} {vx : V} {iv : Nat} {w : WP α} {f : List α → WP β} (g00 : Good e W0) (g0 : Gw e W0 W) (hv : σ[iv]? = some (some vx)) (ho : Var (kL α) W0 W fp xs vx) (h : EvW e te σ W sI w)
    (hm : ((w.bind fun a => WP.req (xs.length < 100000) (xs ++ [a])).bind f).run W.n R)
    (q : ∀ ys W1 W2 l, fp = [l] → Gw e W W1 → St W1 W2 → Gw e W0 W2 → (∀ fp' W9, Kp fp' W9 W1 → (∀ b ∈ fp', b ∉ fp) → Kp fp' W9 W2) → (∀ b, W2.F b → W1.F b) → Var (kL α) W0 W2 fp ys vx → (f ys).run W2.n R → tz D σ W2.H) : tSeq (tDrop (tBM K "list" rAppend (tVar iv) (tCons te tNil))) tz D σ W.H :=
  st_app (D := { D with nx := tz D }) g00 g0 hv ho h hm q
/-- another thing of our own stays -/
theorem Var.kept {κ : Type} {kd : Kd κ} {W0 W1 W2 : Wo} {fp fq : List Addr} {x : κ} (h : Var kd W0 W1 fq x v) (s : St W1 W2) (k : ∀ fp' W9, Kp fp' W9 W1 → (∀ b ∈ fp', b ∉ fp) → Kp fp' W9 W2) (f : ∀ b, W2.F b → W1.F b) (d : ∀ b ∈ fq, b ∉ fp) : Var kd W0 W2 fq x v :=
  ⟨kd.st s (k fq W1 Kp.refl d) h.own, h.fr, fun a m z => h.nF a m (f a z)⟩
/-! loops -/
/-- the walk of a loop, by an invariant over the state that its model carries; abstract in how items come -/
theorem pv_loop {xs : List α} {body : α → s → WP (Ctl s γ)} {f : s → WP β} {r : γ → WP β} (INV : s → L2.St → Wo → Prop) {x0 : s} (h0 : INV x0 σ W) (hm : (WP.after (WP.loop body xs x0) f r).run W.n R)
    (hd : ∀ y σ' W', INV y σ' W' → (f y).run W'.n R → D.nx σ' W'.H) :
    ∃ Pv : Nat → L2.St → Hp → Prop, Pv 0 σ W.H ∧ (∀ i σ' H', Pv i σ' H' → ∃ y W', W'.H = H' ∧ INV y σ' W') ∧
      (∀ i σ' H' a, xs[i]? = some a → Pv i σ' H' → ∃ y W' R', W'.H = H' ∧ INV y σ' W' ∧ (body a y).run W'.n R' ∧ (∀ y' σ'' W'', INV y' σ'' W'' → R' W''.n (.nx y') → Pv (i + 1) σ'' W''.H) ∧ (∀ y' σ'' W'', INV y' σ'' W'' → R' W''.n (.bk y') → D.nx σ'' W''.H) ∧ (∀ n x, R' n (.rt x) → (r x).run n R)) ∧
      (∀ σ' H', Pv xs.length σ' H' → D.nx σ' H') := by
  refine ⟨fun i σ' H' => ∃ y W', W'.H = H' ∧ INV y σ' W' ∧ (WP.after (WP.loop body (xs.drop i) y) f r).run W'.n R, ⟨x0, W, rfl, h0, hm⟩, fun i σ' H' ⟨y, W', e1, p, _⟩ => ⟨y, W', e1, p⟩, fun i σ' H' a ha ⟨y, W', e1, p, q⟩ => ?_, fun σ' H' ⟨y, W', e1, p, q⟩ => ?_⟩
  · have hl : i < xs.length := (List.getElem?_eq_some_iff.mp ha).1
    have ed : xs.drop i = a :: xs.drop (i + 1) := by
      rw [List.drop_eq_getElem_cons hl, (List.getElem?_eq_some_iff.mp ha).2]
    rw [ed] at q
    exact ⟨y, W', _, e1, p, q, fun y' σ'' W'' p' q' => ⟨y', W'', rfl, p', q'⟩, fun y' σ'' W'' p' q' => hd y' σ'' W'' p' q', fun n x q' => q'⟩
  · rw [List.drop_length] at q
    subst e1
    exact hd y σ' W' p q
/-- a loop's target takes an item -/
def TkN {α : Type} [PyI α] (j : Nat) : α → Wo → L2.St → L2.St → Prop := fun a W σ s2 => ∃ x, s2 = σ.set j (some x) ∧ Rp W a x
def TkP {α β : Type} [PyI α] [PyI β] (j k : Nat) : α × β → Wo → L2.St → L2.St → Prop := fun a W σ s2 => ∃ x y, s2 = (σ.set j (some x)).set k (some y) ∧ Rp W a.1 x ∧ Rp W a.2 y
def Tk {α : Type} [PyI α] (g : TG) (T : α → Wo → L2.St → L2.St → Prop) : Prop := ∀ a x W' σ' Q, Rp W' a x → (∀ s2, T a W' σ' s2 → Q s2 W'.H) → g x σ' W'.H Q
theorem tk_N {α : Type} [PyI α] {j : Nat} : Tk (gName j) (TkN (α := α) j) := fun a x W' σ' Q r q => q _ ⟨x, rfl, r⟩
theorem tk_P {α β : Type} [PyI α] [PyI β] {K : PySem.W.Frag} {j k : Nat} : Tk (gTup K 2 (gCons (gName j) (gCons (gName k) gNil))) (TkP (α := α) (β := β) j k) := fun a x W' σ' Q ⟨p, x1, x2, h1, h2, h3, h4⟩ q =>
  ⟨p, [x1, x2], h1, SqT.of h2, rfl, x1, [x2], rfl, x2, [], rfl, rfl, q _ ⟨x1, x2, rfl, h3, h4⟩⟩
abbrev Turn {α β γ s : Type} (INV : s → L2.St → Wo → Prop) (body : α → s → WP (Ctl s γ)) (r : γ → WP β) (R : Nat → β → Prop) (D : Ends) (tu : TS) (T : α → Wo → L2.St → L2.St → Prop) : Prop :=
  ∀ a y σ' s2 W' R' (nx : L2.St → Hp → Prop), T a W' σ' s2 → INV y σ' W' → (body a y).run W'.n R' → (∀ y' σ'' W'', INV y' σ'' W'' → R' W''.n (.nx y') → nx σ'' W''.H) → (∀ y' σ'' W'', INV y' σ'' W'' → R' W''.n (.bk y') → D.nx σ'' W''.H) → (∀ n x, R' n (.rt x) → (r x).run n R) →
    tu { D with nx := nx, ct := nx, bk := D.nx } s2 W'.H
/-- over a list that is there already -/
theorem st_forV [PyI α] {g : TG} {T : α → Wo → L2.St → L2.St → Prop} (ht : Tk g T) {xs : List α} {body : α → s → WP (Ctl s γ)} {f : s → WP β} {r : γ → WP β} {x0 : s} {p : Addr} {vs : List V} (hv : σ[i]? = some (some (.ref p))) (hp : W.H p = some (.lst vs)) (hr : Rps W xs vs) (hm : (WP.after (WP.loop body xs x0) f r).run W.n R)
    (INV : s → L2.St → Wo → Prop) (h0 : INV x0 σ W) (keep : ∀ y σ' W', INV y σ' W' → St W W' ∧ W'.H p = some (.lst vs)) (step : Turn INV body r R D tu T) (hd : ∀ y σ' W', INV y σ' W' → (f y).run W'.n R → D.nx σ' W'.H) : tFor (iList K (tVar i)) g tu D σ W.H := by
  obtain ⟨Pv, p0, pk, ps, pd⟩ := pv_loop INV h0 hm hd
  refine ⟨_, hv, p, rfl, ⟨vs, SqL.of hp⟩, for_list (xs := vs) Pv p0 (fun i σ' H' _ q => ?_) (fun i x σ' H' hi q => ?_) (by rw [← Paired.length hr]; exact pd)⟩
  · obtain ⟨y, W', e1, q'⟩ := pk i σ' H' q
    subst e1
    exact SqL.of (keep y σ' W' q').2
  · obtain ⟨a, ha, ra⟩ := hr.getV hi
    obtain ⟨y, W', R', e1, q1, q2, q3, q4, q5⟩ := ps i σ' H' a ha q
    subst e1
    exact ht a x W' σ' _ (PyI.st (keep y σ' W' q1).1 ra) fun s2 h2 => step a y σ' s2 W' R' _ h2 q1 q2 q3 q4 q5
/-- over a new list -/
theorem st_forN [PyI α] {gt : TG} {T : α → Wo → L2.St → L2.St → Prop} (ht : Tk gt T) {w : WP (List α)} {body : α → s → WP (Ctl s γ)} {f : s → WP β} {r : γ → WP β} {x0 : s} (h : EvW e tl σ W (sN (kL α)) w) (g : Good e W) (hm : (w.bind fun xs => WP.after (WP.loop body xs x0) f r).run W.n R)
    (q : ∀ (xs : List α) p vs W1, Gw e W W1 → W.H p = none → ¬ W1.F p → W1.H p = some (.lst vs) → Rps W1 xs vs → ∃ INV : s → L2.St → Wo → Prop, INV x0 σ W1 ∧ (∀ y σ' W', INV y σ' W' → St W1 W' ∧ W'.H p = some (.lst vs)) ∧ Turn INV body r R D tu T ∧ ∀ y σ' W', INV y σ' W' → (f y).run W'.n R → D.nx σ' W'.H) : tFor (iList K tl) gt tu D σ W.H :=
  h W (Gw.refl g) _ (w.mono (fun n xs hm v W1 g1 hn ⟨fp, ⟨p, vs, e1, e2, hp, hr⟩, hf⟩ => by
    subst hn; subst e1; subst e2
    have hm0 := hf p (List.mem_singleton.mpr rfl)
    obtain ⟨INV, h0, keep, step, hd⟩ := q xs p vs W1 g1 hm0.1 hm0.2.2 hp hr
    obtain ⟨Pv, p0, pk, ps, pd⟩ := pv_loop (D := D) INV h0 hm hd
    refine ⟨p, rfl, ⟨vs, SqL.of hp⟩, for_list (xs := vs) Pv p0 (fun i σ' H' _ q => ?_) (fun i x σ' H' hi q => ?_) (by rw [← Paired.length hr]; exact pd)⟩
    · obtain ⟨y, W', e1, q'⟩ := pk i σ' H' q
      subst e1
      exact SqL.of (keep y σ' W' q').2
    · obtain ⟨a, ha, ra⟩ := hr.getV hi
      obtain ⟨y, W', R', e1, q1, q2, q3, q4, q5⟩ := ps i σ' H' a ha q
      subst e1
      exact ht a x W' σ' _ (PyI.st (keep y σ' W' q1).1 ra) fun s2 h2 => step a y σ' s2 W' R' _ h2 q1 q2 q3 q4 q5) hm)
theorem st_forR1 {w : WP Int} {body : Int → s → WP (Ctl s γ)} {f : s → WP β} {r : γ → WP β} {x0 : s} (h : EvW e te σ W sI w) (g : Good e W) (hm : ((WP.range1 w).bind fun xs => WP.after (WP.loop body xs x0) f r).run W.n R)
    (q : ∀ W1, Gw e W W1 → ∃ INV : s → L2.St → Wo → Prop, INV x0 σ W1 ∧ Turn INV body r R D tu (TkN j) ∧ ∀ y σ' W', INV y σ' W' → (f y).run W'.n R → D.nx σ' W'.H) : tFor (iRng1 (tCons te tNil)) (gName j) tu D σ W.H :=
  h W (Gw.refl g) _ (w.mono (fun n k hm v W1 g1 hn r => by
    subst hn; cases r
    obtain ⟨INV, h0, step, hd⟩ := q W1 g1
    obtain ⟨⟨b1, b2⟩, hm⟩ := hm
    obtain ⟨Pv, p0, pk, ps, pd⟩ := pv_loop (D := D) INV h0 hm hd
    have el : (rangeL 0 k).length = k.toNat := by rw [rangeL_len, Int.sub_zero]
    refine ⟨k, rfl, by omega, by omega, for_range (lo := 0) (n := k.toNat) Pv p0 (fun i σ' H' hi q => ?_) (by rw [← el]; exact pd)⟩
    obtain ⟨y, W', R', e1, q1, q2, q3, q4, q5⟩ := ps i σ' H' _ (rangeL_get (by rw [Int.sub_zero]; exact hi)) q
    subst e1
    exact step _ y σ' _ W' R' _ ⟨_, rfl, rfl⟩ q1 q2 q3 q4 q5) hm)
theorem st_while {c : s → WP Bool} {body : s → WP (Ctl s γ)} {f : s → WP β} {r : γ → WP β} {x0 : s} (g : Good e W) (hm : (WP.after (WP.whilst c body x0) f r).run W.n R) (INV : s → L2.St → Wo → Prop) (h0 : INV x0 σ W)
    (hs : ∀ y σ' W', INV y σ' W' → Good e W' ∧ EvT e t σ' W' (c y) ∧ ∀ W1, Gw e W' W1 →
      (∀ R' (nx : L2.St → Hp → Prop), (body y).run W1.n R' → (∀ y' σ'' W'', INV y' σ'' W'' → R' W''.n (.nx y') → nx σ'' W''.H) → (∀ y' σ'' W'', INV y' σ'' W'' → R' W''.n (.bk y') → D.nx σ'' W''.H) → (∀ n x, R' n (.rt x) → (r x).run n R) → tu { D with nx := nx, ct := nx, bk := D.nx } σ' W1.H) ∧ INV y σ' W1)
    (hd : ∀ y σ' W', INV y σ' W' → (f y).run W'.n R → D.nx σ' W'.H) : tWhile t tu D σ W.H := by
  obtain ⟨I, ⟨m0, i0⟩, hI⟩ := hm
  refine ⟨fun m σ' H' => ∃ y W', W'.H = H' ∧ INV y σ' W' ∧ I m W'.n y, ⟨m0, x0, W, rfl, h0, i0⟩, fun m σ' H' ⟨y, W', e1, p, hi⟩ => ?_⟩
  subst e1
  obtain ⟨g', hc, hb⟩ := hs y σ' W' p
  refine hc W' (Gw.refl g') _ ((c y).mono (fun n b hq W1 g1 hn => ?_) (hI m W'.n y hi))
  subst hn
  obtain ⟨hb, hi1⟩ := hb W1 g1
  cases b with
  | true => exact ⟨_, fun _ _ h => h, hb _ _ hq (fun y' σ'' W'' p' ⟨m', lt, q'⟩ => ⟨m', lt, y', W'', rfl, p', q'⟩) (fun y' σ'' W'' p' q' => hd y' σ'' W'' p' q') fun n x q' => q'⟩
  | false => exact hd y σ' W1 hi1 hq
end
end Y

/-! comprehensions -/
namespace Y
open PySem PySem.Spec PyProof.Rows L2
/-- what a comprehension's target leaves -/
def TgN {α : Type} [PyI α] (σ : L2.St) (vs0 : List Nat) (j : Nat) : α → Wo → L2.St → Prop := fun a W s2 => ∃ x, s2 = (wipe σ vs0).set j (some x) ∧ Rp W a x
def TgP {α β : Type} [PyI α] [PyI β] (σ : L2.St) (vs0 : List Nat) (j k : Nat) : α × β → Wo → L2.St → Prop := fun a W s2 => ∃ x y, s2 = ((wipe σ vs0).set j (some x)).set k (some y) ∧ Rp W a.1 x ∧ Rp W a.2 y
section
variable {α β γ : Type} {K : PySem.W.Frag} {e : Ef} {σ : L2.St} {W W2 : Wo} {ta tb te tc tl : TE} {t u : TT} {i j k m n : Nat} {v : V} {g : TG} {vs0 : List Nat}
/-- the target takes an item -/
def Takes (val : Wo → α → V → Prop) (g : TG) (σ : L2.St) (vs0 : List Nat) (T : α → Wo → L2.St → Prop) : Prop := ∀ a x W' Q, val W' a x → (∀ s2, T a W' s2 → Q s2 W'.H) → g x (wipe σ vs0) W'.H Q
theorem takes_N [PyI α] : Takes (fun W a x => Rp W a x) (gName j) σ vs0 (TgN (α := α) σ vs0 j) := fun a x W' Q r q => q _ ⟨x, rfl, r⟩
theorem takes_P [PyI α] [PyI β] : Takes (fun W a x => Rp W a x) (gTup K 2 (gCons (gName j) (gCons (gName k) gNil))) σ vs0 (TgP (α := α) (β := β) σ vs0 j k) := fun a x W' Q ⟨p, x1, x2, h1, h2, h3, h4⟩ q =>
  ⟨p, [x1, x2], h1, SqT.of h2, rfl, x1, [x2], rfl, x2, [], rfl, rfl, q _ ⟨x1, x2, rfl, h3, h4⟩⟩
theorem pv_comp {val : Wo → α → V → Prop} [PyI β] {Dl : Addr} {xs : List α} {T : α → Wo → L2.St → Prop} {c : α → WP Bool} {f : α → WP β} {Qd : Hp → Prop} {QQ : Nat → List β → Prop} (hg : Good e W2) (hD : W2.H Dl = none) (hz : xs.length ≤ 100000)
    (ht : Takes val g σ vs0 T) (hw : ∀ a W' s2, T a W' s2 → wipe s2 vs0 = wipe σ vs0) (hc : ∀ a W1 s2, Gw e W2 W1 → T a W1 s2 → EvT e t s2 W1 (c a)) (he : ∀ a W1 s2, Gw e W2 W1 → T a W1 s2 → EvW e te s2 W1 sI (f a))
    (hm : (WP.comp c f xs).run W2.n QQ) (hend : ∀ W' ys vs', Gw e W2 W' → W'.H Dl = some (.lst vs') → ¬ W'.F Dl → Rps W' ys vs' → QQ W'.n ys → Qd W'.H) :
    ∃ Pv : Nat → Hp → Prop, Pv 0 (upd W2.H Dl (.lst [])) ∧ (∀ i H, Pv i H → ∃ W', W'.H = H ∧ Gw e W2 W') ∧
      (∀ i x H a, xs[i]? = some a → (∀ W', Gw e W2 W' → val W' a x) → Pv i H → g x (wipe σ vs0) H fun σ2 H2 => wipe σ2 vs0 = wipe σ vs0 ∧ t σ2 H2 fun b H3 =>
        if b = true then te σ2 H3 fun y H4 => ∃ acc, H4 Dl = some (.lst acc) ∧ acc.length < sizeLine ∧ Pv (i + 1) (upd H4 Dl (.lst (acc ++ [y]))) else Pv (i + 1) H3) ∧ (∀ H, Pv xs.length H → Qd H) := by
  have nS : ¬ e.S Dl := fun s => hg.S Dl s hD
  refine ⟨fun i H => ∃ W' ys vs', W'.H = H ∧ Gw e W2 W' ∧ W'.H Dl = some (.lst vs') ∧ ¬ W'.F Dl ∧ Rps W' ys vs' ∧ ys.length ≤ i ∧ (WP.comp c f (xs.drop i)).run W'.n (fun n zs => QQ n (ys ++ zs)),
    ⟨_, [], [], rfl, Gw.alloc hg hD, upd_same, fun z => (hg.F Dl z).2 hD, .nil, Nat.le_refl _, by rw [List.drop_zero]; exact hm⟩, fun i H ⟨W', ys, vs', e1, q, _⟩ => ⟨W', e1, q⟩, fun i x H a ha hv ⟨W', ys, vs', e1, gw, hl, hF, hr, hlen, q⟩ => ?_, fun H ⟨W', ys, vs', e1, gw, hl, hF, hr, hlen, q⟩ => ?_⟩
  · subst e1
    have hil : i < xs.length := (List.getElem?_eq_some_iff.mp ha).1
    have ed : xs.drop i = a :: xs.drop (i + 1) := by rw [List.drop_eq_getElem_cons hil, (List.getElem?_eq_some_iff.mp ha).2]
    rw [ed] at q
    refine ht a x W' _ (hv W' gw) fun s2 hs2 => ⟨hw a W' s2 hs2, ?_⟩
    refine hc a W' s2 gw hs2 W' (Gw.refl gw.ok) _ ((c a).mono (fun n b hq W3 g3 hn => ?_) q)
    subst hn
    have hl3 := g3.keep _ _ hl nS
    have hF3 : ¬ W3.F Dl := fun z => (g3.new Dl z).elim hF (some_ne hl)
    cases b with
    | true =>
      refine he a W' s2 gw hs2 W3 g3 _ ((f a).mono (fun n y hq v W4 g4 hn r => ?_) hq)
      subst hn
      have hl4 := g4.keep _ _ hl3 nS
      have hF4 : ¬ W4.F Dl := fun z => (g4.new Dl z).elim hF3 (some_ne hl3)
      have s45 := St.mut (u := .lst (vs' ++ [v])) hl4 (fun _ z => by cases z) hF4
      refine ⟨vs', hl4, by rw [← Paired.length hr]; exact sz_lt (by omega), W4.set Dl (.lst (vs' ++ [v])), ys ++ [y], vs' ++ [v], rfl, Gw.mut hg ((gw.trans g3).trans g4) hD hl4 (fun _ z => by cases z) hF4, upd_same, hF4, Paired.snoc (Rps.st ((g3.st.trans g4.st).trans s45) hr) (PyI.st s45 r), by rw [List.length_append, List.length_singleton]; omega, ?_⟩
      exact (WP.comp c f _).mono (fun n zs hq => by rw [List.append_assoc]; exact hq) hq
    | false => exact ⟨W3, ys, vs', rfl, gw.trans g3, hl3, hF3, Rps.st g3.st hr, by omega, hq⟩
  · subst e1
    rw [List.drop_length] at q
    have q : QQ W'.n (ys ++ []) := q
    rw [List.append_nil] at q
    exact hend W' ys vs' gw hl hF hr q
namespace WP
abbrev lc (w : WP (List α)) (c : α → WP Bool) (f : α → WP β) : WP (List β) := w.bind fun xs => (req (xs.length ≤ 100000) xs).bind fun xs => comp c f xs
end WP
theorem et_yes : EvT e tYes σ W (WP.pure true) := fun W1 g Q q => q W1 (Gw.refl g.ok) rfl
/-- over a list -/
theorem ew_lcL [PyI α] [PyI β] {w : WP (List α)} {T : α → Wo → L2.St → Prop} {c : α → WP Bool} {f : α → WP β} (h : EvW e tl σ W (sR (kL α)) w) (ht : Takes (fun W a x => Rp W a x) g σ vs0 T) (hw : ∀ a W' s2, T a W' s2 → wipe s2 vs0 = wipe σ vs0)
    (hc : ∀ a W1 s2, Gw e W W1 → T a W1 s2 → EvT e t s2 W1 (c a)) (he : ∀ a W1 s2, Gw e W W1 → T a W1 s2 → EvW e te s2 W1 sI (f a)) : EvW e (tLc (iList K tl) g t te vs0) σ W (sN (kL β)) (WP.lc w c f) := fun W1 g1 Q q =>
  h W1 g1 _ (w.mono (fun n xs hq v W2 g2 hn ⟨fp, ⟨p, vs, e1, e2, hp, hr⟩, hS⟩ => by
    subst hn; subst e1; subst e2
    refine ⟨p, rfl, ⟨vs, SqL.of hp⟩, fun Dl hD => ?_⟩
    have hSp := hS p (List.mem_singleton.mpr rfl)
    obtain ⟨Pv, p0, pk, ps, pd⟩ := pv_comp (val := fun W a x => Rp W a x) (T := T) (t := t) (te := te) (g := g) (σ := σ) (vs0 := vs0) (Qd := fun H => Q (.ref Dl) H) g2.ok hD hq.1 ht hw (fun a W3 s2 g3 => hc a W3 s2 ((g1.trans g2).trans g3)) (fun a W3 s2 g3 => he a W3 s2 ((g1.trans g2).trans g3)) hq.2 fun W' ys vs' gw hl hF hr' hqq => hqq _ W' (g2.trans gw) rfl ⟨[Dl], ⟨Dl, vs', rfl, rfl, hl, hr'⟩, fun b mb => by
      cases List.mem_singleton.mp mb
      exact ⟨g2.live _ hD, fun s => g2.ok.S _ s hD, hF⟩⟩
    exact lc_list (xs := vs) Pv p0 (fun i H _ pp => by
      obtain ⟨W', e1, gw⟩ := pk i H pp
      subst e1
      exact SqL.of (gw.keep _ _ hp hSp)) (fun i x H hi pp => by
      obtain ⟨a, ha, ra⟩ := hr.getV hi
      exact ps i x H a ha (fun W' gw => PyI.st gw.st ra) pp) (by rw [← Paired.length hr]; exact pd)) q)
end
end Y

/-! deals -/
namespace Y
open PySem PySem.Spec PyProof.Rows L2
structure Dl where
  p : Addr
  l1 : Addr
  l2 : Addr
  row : List Int
  tot : Int
structure Dl.At (d : Dl) (H : Hp) (n : Nat) : Prop where
  p : H d.p = some (.lst [.ref d.l1, .ref d.l2, .int d.tot])
  l1 : H d.l1 = some (.lst (d.row.map V.int))
  n : H d.l2 = some (.lst [.int (n : Int)])
  np : d.p ≠ d.l2
  n1 : d.l1 ≠ d.l2
def efD (d : Dl) : Ef where
  S := fun a => a = d.l2
  T := fun a => a = d.p ∨ a = d.l1 ∨ a = d.l2
  ok := d.At
  num := fun a b => a ≤ b
  num_refl := fun _ => Nat.le_refl _
  num_trans := fun a b => Nat.le_trans a b
  ok_T := fun h k => ⟨k _ _ (.inl rfl) h.p, k _ _ (.inr (.inl rfl)) h.l1, k _ _ (.inr (.inr rfl)) h.n, h.np, h.n1⟩
  ok_live := fun h t => by
    rcases t with t | t | t
    · subst t; exact some_ne h.p
    · subst t; exact some_ne h.l1
    · subst t; exact some_ne h.n
/-- the deal itself as an argument -/
def sD {e : Ef} (d : Dl) : Rs e Unit := ⟨fun _ _ _ v => v = .ref d.p, fun _ h => h, fun _ h => h⟩
section
variable {α β γ δ : Type} {K : PySem.W.Frag} {e : Ef} {d : Dl} {σ : L2.St} {W : Wo} {ta tb te tc t0 t1 : TE} {t u : TT} {i j k m n : Nat} {v : V} {E : XK}
theorem ew_deal {i : Nat} (h : σ[i]? = some (some (.ref d.p))) : EvW e (tVar i) σ W (sD d) (WP.pure ()) := fun W1 g Q q => ⟨_, h, q _ W1 (Gw.refl g.ok) rfl rfl⟩
def sp_take : Sp := fun vs H Q _ => ∃ (d : Dl) (W : Wo) (many : Int), vs = [.ref d.p, .int many] ∧ W.H = H ∧ Good (efD d) W ∧ (WP.take many).run W.n (fun n x => ∀ v W', Gw (efD d) W W' → W'.n = n → v = .int x → Q v W'.H)
/-- a draw -/
abbrev m_take (_ : Unit) (x : Int) : WP Int := WP.take x
theorem ev_take {w0 : WP Unit} {w : WP Int} (h0 : EvW (efD d) t0 σ W (sD d) w0) (h1 : EvW (efD d) t1 σ W sI w) : EvW (efD d) (tCall sp_take [] E (tCons t0 (tCons t1 tNil))) σ W sI (WP.b2 w0 w m_take) :=
  ew_call2 h0 h1 fun W2 a b x y g2 r1 r2 Q q E => by
    cases r1; cases r2
    exact ⟨d, W2, b, rfl, rfl, g2, (WP.take b).mono (fun n x h v W' g' hn r => h v W' g' hn r) q⟩
/-- the world behind a draw -/
theorem drawn {d : Dl} {W : Wo} (g : Good (efD d) W) : Gw (efD d) W ⟨upd W.H d.l2 (.lst [.int ((W.n : Int) + 1)]), W.F, W.n + 1⟩ := by
  have hn := g.ok.n
  have keep : ∀ a o, W.H a = some o → a ≠ d.l2 → (upd W.H d.l2 (.lst [.int ((W.n : Int) + 1)])) a = some o := fun a o h n => by rw [upd_ne n]; exact h
  have live : ∀ a, W.H a ≠ none → (upd W.H d.l2 (.lst [.int ((W.n : Int) + 1)])) a ≠ none := fun a h => by
    by_cases e1 : a = d.l2
    · subst e1; rw [upd_same]; exact fun z => by cases z
    · rw [upd_ne e1]; exact h
  refine ⟨keep, ⟨fun a xs h => keep a _ h (fun z => by rw [z, hn] at h; cases h), fun _ h => h, fun a o f h => keep a o h (g.F a f).1⟩, fun _ f => .inl f, fun a h => ?_, Nat.le_succ _, ⟨fun a f => ⟨(g.F a f).1, live a (g.F a f).2⟩, fun a s => live a (g.S a s), ⟨keep _ _ g.ok.p g.ok.np, keep _ _ g.ok.l1 g.ok.n1, ?_, g.ok.np, g.ok.n1⟩⟩⟩
  · cases q : W.H a with
    | none => rfl
    | some o => exact absurd h (live a (some_ne q))
  · show (upd W.H d.l2 _) d.l2 = _
    rw [upd_same]; rfl
end
/-! ### dicts, their keys squares -/
abbrev Sq := Int × Int
def kSq (q : Sq) : List Key := [.inl q.1, .inl q.2]
theorem kSq_inj {p q : Sq} : kSq p = kSq q ↔ p = q := by
  unfold kSq
  constructor
  · intro h
    injection h with h1 h2
    injection h2 with h2 _
    injection h1 with h1
    injection h2 with h2
    exact Prod.ext h1 h2
  · intro h; rw [h]
section
variable {β : Type}
def lookK (kvs : List (Sq × β)) (q : Sq) : Option β := (kvs.find? fun p => decide (p.1 = q)).map (·.2)
def hasK (kvs : List (Sq × β)) (q : Sq) : Bool := (lookK kvs q).isSome
def getK [Inhabited β] (kvs : List (Sq × β)) (q : Sq) : β := (lookK kvs q).getD default
def putQ (kvs : List (Sq × β)) (q : Sq) (b : β) : List (Sq × β) := if hasK kvs q then kvs.map (fun p => if p.1 = q then (p.1, b) else p) else kvs ++ [(q, b)]
end
def Kv {β : Type} [PyI β] (W : Wo) (kv : Sq × β) (k : List Key × V) : Prop := k.1 = kSq kv.1 ∧ Rp W kv.2 k.2
/-- a dict from squares -/
def kD (β : Type) [PyI β] : Kd (List (Sq × β)) where
  own := fun W fp kvs v => ∃ p ks, fp = [p] ∧ v = .ref p ∧ W.H p = some (.dT ks) ∧ Paired (Kv W) kvs ks
  st := fun s c ⟨p, ks, h1, h2, h3, h4⟩ => ⟨p, ks, h1, h2, c p (by rw [h1]; exact List.mem_singleton.mpr rfl) _ h3, Paired.imp (fun a b h => ⟨h.1, PyI.st s h.2⟩) h4⟩
  live := fun ⟨p, ks, h1, h2, h3, h4⟩ a ha => by
    rw [h1] at ha
    cases List.mem_singleton.mp ha
    exact some_ne h3
theorem Rd.kp {H H' : Hp} {p : Addr} {u : HO} (c : ∀ o, H p = some o → H' p = some o) (h : Rd H p u) : Rd H' p u := h.elim (fun h => .inl (c _ h)) fun ⟨o, h⟩ => .inr ⟨o, c _ h⟩
theorem DGet.r {H : Hp} {a b : Addr} {kvs : List (List Key × V)} {k : List Key} (e : Rd H a (.dT kvs)) (eb : H b = some (.tup (k.map kV))) : DGet H a (.ref b) (valV kvs k) := .inr ⟨kvs, k, b, e, rfl, eb, rfl⟩
/-- a dict from squares that is read alone -/
def kDr (β : Type) [PyI β] : Kd (List (Sq × β)) where
  own := fun W fp kvs v => ∃ p ks, fp = [p] ∧ v = .ref p ∧ Rd W.H p (.dT ks) ∧ Paired (Kv W) kvs ks
  st := fun s c ⟨p, ks, h1, h2, h3, h4⟩ => ⟨p, ks, h1, h2, Rd.kp (c p (by rw [h1]; exact List.mem_singleton.mpr rfl)) h3, Paired.imp (fun a b h => ⟨h.1, PyI.st s h.2⟩) h4⟩
  live := fun ⟨p, ks, h1, h2, h3, h4⟩ a ha => by
    rw [h1] at ha
    cases List.mem_singleton.mp ha
    rcases h3 with h3 | ⟨_, h3⟩
    · exact some_ne h3
    · exact some_ne h3
section
variable {α β γ δ : Type} [PyI β] {K : PySem.W.Frag} {e : Ef} {σ : L2.St} {W : Wo} {ta tb te tc td ty tx tk tv : TE} {t u : TT} {i j k m n : Nat} {v : V} {D : Ends} {tz : TS} {R : Nat → γ → Prop}
theorem look_kv {kvs : List (Sq × β)} {ks : List (List Key × V)} (h : Paired (Kv W) kvs ks) (q : Sq) : (lookK kvs q = none ∧ valV ks (kSq q) = none) ∨ ∃ b v, lookK kvs q = some b ∧ valV ks (kSq q) = some v ∧ Rp W b v := by
  unfold lookK valV
  induction h with
  | nil => exact .inl ⟨rfl, rfl⟩
  | @cons a b as bs r t ih =>
    obtain ⟨r1, r2⟩ := r
    by_cases hq : a.1 = q
    · refine .inr ⟨a.2, b.2, ?_, ?_, r2⟩
      · rw [List.find?_cons_of_pos (by simpa using hq)]; rfl
      · rw [List.find?_cons_of_pos (by rw [r1, hq]; simp)]; rfl
    · rw [List.find?_cons_of_neg (by simpa using hq), List.find?_cons_of_neg (by rw [r1]; simpa using fun z => hq (kSq_inj.mp z))]
      exact ih
theorem rp_key {q : Sq} {x : V} (h : Rp W q x) : ∃ b, x = .ref b ∧ W.H b = some (.tup ((kSq q).map kV)) := by
  obtain ⟨p, a, b, h1, h2, h3, h4⟩ := h
  cases h3; cases h4
  exact ⟨p, h1, h2⟩
theorem has_kv {kvs : List (Sq × β)} {q : Sq} : (kvs.any fun kv => decide (kv.1 = q)) = hasK kvs q := by
  unfold hasK lookK
  induction kvs with
  | nil => rfl
  | cons a as ih =>
    rw [List.any_cons, ih]
    by_cases hq : a.1 = q
    · rw [List.find?_cons_of_pos (by simpa using hq)]; simp [hq]
    · rw [List.find?_cons_of_neg (by simpa using hq)]; simp [hq]
theorem put_kv {kvs : List (Sq × β)} {ks : List (List Key × V)} {b : β} (h : Paired (Kv W) kvs ks) (q : Sq) (r : Rp W b v) : Paired (Kv W) (putQ kvs q b) (putK ks (kSq q) v) := by
  have e1 : (ks.any fun kv => decide (kv.1 = kSq q)) = hasK kvs q := by
    rw [← has_kv]
    clear r
    induction h with
    | nil => rfl
    | @cons a b as bs r t ih =>
      rw [List.any_cons, List.any_cons, ih, r.1]
      by_cases hq : a.1 = q
      · simp [hq]
      · rw [decide_eq_false hq, decide_eq_false (fun z => hq (kSq_inj.mp z))]
  unfold putQ putK
  rw [e1]
  clear e1
  cases hasK kvs q with
  | true =>
    rw [if_pos rfl, if_pos rfl]
    induction h with
    | nil => exact .nil
    | @cons a c as cs r2 t ih =>
      refine .cons ?_ ih
      obtain ⟨r3, r4⟩ := r2
      by_cases hq : a.1 = q
      · show Kv W (if a.1 = q then (a.1, b) else a) (if c.1 = kSq q then (c.1, v) else c)
        rw [if_pos hq, if_pos (by rw [r3, hq])]
        exact ⟨r3, r⟩
      · show Kv W (if a.1 = q then (a.1, b) else a) (if c.1 = kSq q then (c.1, v) else c)
        rw [if_neg hq, if_neg (fun z => hq (kSq_inj.mp (r3.symm.trans z)))]
        exact ⟨r3, r4⟩
  | false =>
    rw [if_neg Bool.false_ne_true, if_neg Bool.false_ne_true]
    exact Paired.snoc h ⟨rfl, r⟩
namespace WP
abbrev din (q : WP Sq) (kvs : WP (List (Sq × β))) : WP Bool := b2 q kvs fun x d => pure (hasK d x)
abbrev dget [Inhabited β] (kvs : WP (List (Sq × β))) (q : WP Sq) : WP β := b2 kvs q fun d x => req (hasK d x = true) (getK d x)
end WP
theorem ew_din {w1 : WP Sq} {w2 : WP (List (Sq × β))} (hk : EvW e ty σ W sI w1) (hd : EvW e td σ W (sR (kDr β)) w2) : EvW e (tDIn ty td) σ W sI (WP.din w1 w2) := fun W1 g Q q =>
  hk W1 g _ (w1.mono (fun n x hq y W2 g2 hn r => by
    subst hn
    refine hd W2 (g.trans g2) _ (w2.mono (fun n d hq v W3 g3 hn r2 => ?_) hq)
    obtain ⟨fp, ⟨p, ks, _, h2, h3, h4⟩, _⟩ := r2
    obtain ⟨b, e1, e2⟩ := rp_key (PyI.st g3.st r)
    subst e1; subst h2
    refine ⟨p, _, rfl, DGet.r h3 e2, hq _ W3 (g2.trans g3) hn ?_⟩
    show V.bl _ = V.bl _
    unfold hasK
    rcases look_kv h4 x with ⟨a1, a2⟩ | ⟨b1, v1, a1, a2, _⟩
    · rw [a1, a2]; rfl
    · rw [a1, a2]; rfl) q)
theorem ew_dnotin {w1 : WP Sq} {w2 : WP (List (Sq × β))} (hk : EvW e ty σ W sI w1) (hd : EvW e td σ W (sR (kDr β)) w2) : EvW e (tDNotIn ty td) σ W sI (WP.not (WP.din w1 w2)) := fun W1 g Q q =>
  hk W1 g _ (w1.mono (fun n x hq y W2 g2 hn r => by
    subst hn
    refine hd W2 (g.trans g2) _ (w2.mono (fun n d hq v W3 g3 hn r2 => ?_) hq)
    obtain ⟨fp, ⟨p, ks, _, h2, h3, h4⟩, _⟩ := r2
    obtain ⟨b, e1, e2⟩ := rp_key (PyI.st g3.st r)
    subst e1; subst h2
    refine ⟨p, _, rfl, DGet.r h3 e2, hq _ W3 (g2.trans g3) hn ?_⟩
    show V.bl _ = V.bl _
    unfold hasK
    rcases look_kv h4 x with ⟨a1, a2⟩ | ⟨b1, v1, a1, a2, _⟩
    · rw [a1, a2]; rfl
    · rw [a1, a2]; rfl) q)
theorem ew_dget [Inhabited β] {w1 : WP Sq} {w2 : WP (List (Sq × β))} (hd : EvW e td σ W (sR (kDr β)) w2) (hk : EvW e ty σ W sI w1) : EvW e (tDGet td ty) σ W sI (WP.dget w2 w1) := fun W1 g Q q =>
  hd W1 g _ (w2.mono (fun n d hq v W2 g2 hn r2 => by
    subst hn
    refine hk W2 (g.trans g2) _ (w1.mono (fun n x hq y W3 g3 hn r => ?_) hq)
    obtain ⟨fp, ⟨p, ks, _, h2, h3, h4⟩, _⟩ := (sR (kDr β)).stay g3 r2
    obtain ⟨b, e1, e2⟩ := rp_key r
    subst e1; subst h2
    rcases look_kv h4 x with ⟨a1, a2⟩ | ⟨b1, v1, a1, a2, rv⟩
    · have := hq.1
      unfold hasK at this
      rw [a1] at this
      cases this
    · have hg := DGet.r h3 e2
      rw [a2] at hg
      refine ⟨p, v1, rfl, hg, hq.2 _ W3 (g2.trans g3) hn ?_⟩
      unfold getK
      rw [a1]; exact rv) q)
/-- d[k] = v -/
theorem st_dput {W0 : Wo} {fp : List Addr} {kvs : List (Sq × β)} {vx : V} {iv : Nat} {w1 : WP β} {w2 : WP Sq} {f : List (Sq × β) → WP γ} (g00 : Good e W0) (g0 : Gw e W0 W) (hv : σ[iv]? = some (some vx)) (ho : Var (kD β) W0 W fp kvs vx) (h1 : EvW e tv σ W sI w1) (h2 : EvW e ty σ W sI w2)
    (hm : ((WP.b2 w1 w2 fun b q => WP.req (kvs.length < 100000) (putQ kvs q b)).bind f).run W.n R)
    (q : ∀ ys W1 W2 l, fp = [l] → Gw e W W1 → St W1 W2 → Gw e W0 W2 → (∀ fp' W9, Kp fp' W9 W1 → (∀ b ∈ fp', b ∉ fp) → Kp fp' W9 W2) → (∀ b, W2.F b → W1.F b) → Var (kD β) W0 W2 fp ys vx → (f ys).run W2.n R → D.nx σ W2.H) : sDPut (tVar iv) ty tv D σ W.H := by
  obtain ⟨⟨l, vs, e1, e2, h3, h4⟩, fr, nF⟩ := ho
  subst e1; subst e2
  have m0 : l ∈ [l] := List.mem_singleton.mpr rfl
  refine h1 W (Gw.refl g0.ok) _ (w1.mono (fun n b r x W1 g1 hn p1 => ?_) hm)
  subst hn
  refine ⟨_, hv, h2 W1 g1 _ (w2.mono (fun n k r y W2 g2 hn p2 => ?_) r)⟩
  subst hn
  have g12 := g1.trans g2
  have hl1 : W2.H l = some (.dT vs) := g12.keep _ _ h3 fun s => g00.S l s (fr l m0)
  have hF1 : ¬ W2.F l := fun f => (g12.new l f).elim (nF l m0) (some_ne h3)
  obtain ⟨bk, f1, f2⟩ := rp_key p2
  subst f1
  have s12 := St.mut (u := .dT (putK vs (kSq k) x)) hl1 (fun _ z => by cases z) hF1
  refine ⟨l, _, rfl, DPut.t hl1 f2 (by rw [← Paired.length h4]; exact sz_lt r.1), ?_⟩
  refine q (putQ kvs k b) W2 (W2.set l (.dT (putK vs (kSq k) x))) l rfl g12 s12 (Gw.mut g00 (g0.trans g12) (fr l m0) hl1 (fun _ z => by cases z) hF1) (fun fp' W9 kk d => kk.upd fun b m z => d b m (by rw [z]; exact m0)) (fun _ f => f) ⟨⟨l, _, rfl, rfl, upd_same, ?_⟩, fr, fun b m => by cases List.mem_singleton.mp m; exact hF1⟩ r.2
  have h5 : Paired (Kv (W2.set l (.dT (putK vs (kSq k) x)))) kvs vs := Paired.imp (fun a b h => ⟨h.1, PyI.st (g12.st.trans s12) h.2⟩) h4
  exact put_kv h5 k (PyI.st (g2.st.trans s12) p1)
theorem q_dput {W0 : Wo} {fp : List Addr} {kvs : List (Sq × β)} {vx : V} {iv : Nat} {w1 : WP β} {w2 : WP Sq} {f : List (Sq × β) → WP γ} (g00 : Good e W0) (g0 : Gw e W0 W) (hv : σ[iv]? = some (some vx)) (ho : Var (kD β) W0 W fp kvs vx) (h1 : EvW e tv σ W sI w1) (h2 : EvW e ty σ W sI w2)
    (hm : ((WP.b2 w1 w2 fun b q => WP.req (kvs.length < 100000) (putQ kvs q b)).bind f).run W.n R)
    (q : ∀ ys W1 W2 l, fp = [l] → Gw e W W1 → St W1 W2 → Gw e W0 W2 → (∀ fp' W9, Kp fp' W9 W1 → (∀ b ∈ fp', b ∉ fp) → Kp fp' W9 W2) → (∀ b, W2.F b → W1.F b) → Var (kD β) W0 W2 fp ys vx → (f ys).run W2.n R → tz D σ W2.H) : tSeq (sDPut (tVar iv) ty tv) tz D σ W.H := st_dput (D := { D with nx := tz D }) g00 g0 hv ho h1 h2 hm q
/-- {} and {k: v} -/
theorem ew_dnew : EvW e tDNewT σ W (sN (kD β)) (WP.pure ([] : List (Sq × β))) := fun W1 g Q q p hp =>
  q _ _ (Gw.alloc g.ok hp) rfl ⟨[p], ⟨p, [], rfl, rfl, upd_same, .nil⟩, fun a m => by
    cases List.mem_singleton.mp m
    exact ⟨hp, fun s => g.ok.S p s hp, fun f => (g.ok.F p f).2 hp⟩⟩
def tDisp1 (tk tv : TE) : TE := fun σ H Q => ∀ p, H p = none → tk σ (upd H p (.dT [])) fun x H1 => tv σ H1 fun y H2 => ∃ b key, x = .ref b ∧ H2 b = some (.tup (key.map kV)) ∧ H2 p = some (.dT []) ∧ Q (.ref p) (upd H2 p (.dT [(key, y)]))
theorem ew_disp1 {w1 : WP Sq} {w2 : WP β} (hk : EvW e tk σ W sI w1) (hv : EvW e tv σ W sI w2) : EvW e (tDisp1 tk tv) σ W (sN (kD β)) (WP.b2 w1 w2 fun x b => WP.pure [(x, b)]) := fun W1 g Q q p hp => by
  have ga := Gw.alloc (o := .dT []) g.ok hp
  have nS : ¬ e.S p := fun s => g.ok.S p s hp
  refine hk ⟨upd W1.H p (.dT []), W1.F, W1.n⟩ (g.trans ga) _ (w1.mono (fun n x hq vx W2 g2 hn rx => ?_) q)
  subst hn
  refine hv W2 ((g.trans ga).trans g2) _ (w2.mono (fun n b hq vy W3 g3 hn ry => ?_) hq)
  obtain ⟨kb, e1, e2⟩ := rp_key (PyI.st g3.st rx)
  subst e1
  have hp3 : W3.H p = some (.dT []) := (g2.trans g3).keep _ _ upd_same nS
  have hF : ¬ W3.F p := fun f => ((g2.trans g3).new p f).elim (fun f => (g.ok.F p f).2 hp) fun z => by
    have : (upd W1.H p (.dT [])) p = none := z
    rw [upd_same] at this
    cases this
  have s := St.mut (u := .dT [(kSq x, vy)]) hp3 (fun _ z => by cases z) hF
  refine ⟨kb, kSq x, rfl, e2, hp3, hq _ (W3.set p (.dT [(kSq x, vy)])) (Gw.mut g.ok ((ga.trans g2).trans g3) hp hp3 (fun _ z => by cases z) hF) hn ⟨[p], ⟨p, _, rfl, rfl, upd_same, .cons ⟨rfl, PyI.st s ry⟩ .nil⟩, fun a m => ?_⟩⟩
  cases List.mem_singleton.mp m
  exact ⟨hp, nS, hF⟩
end
theorem pe_disp1T {X : Cx} {pos : Pos} {k v : Expr} {tk tv : TE} (hu : X.A.units + 1 < cLine) (hk : PE X k tk) (hv : PE X v tv) : PE X (.Dict [some k] [v] pos) (tDisp1 tk tv) := by
  refine ⟨fun pins s σ H Q I q => ?_⟩
  have hn := I.hok.fresh (Nat.le_refl s.heap.objs.size)
  have I1 := I.laid (a := s.heap.objs.size) (o := .dT []) (h' := s.heap.push { cls := .type "dict", data := .dict #[] }) (t' := s.toks) (fun _ _ q => Heap.get?_push_of_some _ q) (Nat.le_refl _) (dt_empty s.heap I.big)
  have hshape : (evalEachOpt [some k] X.env).zip ((evalEach [v] X.env).map fun v => do let x ← v; standAt pos; pure x) = (pairTrees [some k] [v] X.env pos).map fun p => (some p.1, p.2) := rfl
  have hl1 : (pairTrees [some k] [v] X.env pos).length = 1 := rfl
  have h0 : pairTrees [some k] [v] X.env pos ≠ [] := fun z => by rw [z] at hl1; cases hl1
  rw [arm_eval_Dict, hshape, dictDisplay_pairs (pairTrees [some k] [v] X.env pos) h0 (by omega)]
  refine wpAny_bind (wpAny_standAt (wpAny_bind (wpAny_subDictH (knd := tupleKind (mixKind X.prog X.w)) (Q := fun d s' => wpAny (model X.prog X.w) X.A (pure (Value.ref d)) (EP X pins σ Q) X.xe s') (show X.A.units < cLine by omega) (by omega) ?_)))
  refine thn ((pps_cons hk hv (pps_nil (pos := pos))).run pins _ σ _ (fun ps H2 => match ps with
    | [(x, y)] => ∃ b key, x = .ref b ∧ H2 b = some (.tup (key.map kV)) ∧ H2 s.heap.objs.size = some (.dT []) ∧ Q (.ref s.heap.objs.size) (upd H2 s.heap.objs.size (.dT [(key, y)]))
    | _ => False) I1 (q _ hn)) fun vs s2 ⟨ps, H2, I2, rel, hq⟩ => ?_
  cases rel with
  | nil => exact hq.elim
  | @cons p pv ps vs h t =>
    cases t with
    | cons _ _ => exact hq.elim
    | nil =>
      obtain ⟨x, y⟩ := p
      obtain ⟨u, r⟩ := pv
      obtain ⟨r1, r2⟩ := h
      obtain ⟨b, key, hx, hb, hp, hq⟩ := hq
      cases hx
      cases (show u = Value.ref b from r1)
      obtain ⟨z, hd, xs, kt, dd⟩ := dt_of I2.hok hp
      cases kt
      refine ⟨[(key, b, r)], ⟨rfl, rfl, key_of I2.hok hb, True.intro⟩, dd, fun h' tk dd' hs => wpAny_pure ⟨.ref s.heap.objs.size, _, ?_, rfl, hq⟩⟩
      obtain ⟨q, es, ep, hq', h2, h3, h4, _, h5⟩ := dd'
      refine d_write I2 (by rw [hp]; exact True.intro) hs ⟨q, hq'⟩ ⟨by show 1 ≤ sizeLine; decide, hd, [(key, b, r)], .cons ⟨rfl, ?_, r2⟩ .nil, q, es, ep, hq', h2, h3, h4, h5⟩
      rw [upd_ne (L2.ne_of hb hp (fun z => nomatch z))]
      exact hb
end Y

namespace Y
open PySem PySem.Spec PyProof.Rows L2
namespace WP
abbrev b4 {α0 α1 α2 α3 γ : Type} (w0 : WP α0) (w1 : WP α1) (w2 : WP α2) (w3 : WP α3) (m : α0 → α1 → α2 → α3 → WP γ) : WP γ := w0.bind fun y0 => w1.bind fun y1 => w2.bind fun y2 => w3.bind fun y3 => m y0 y1 y2 y3
abbrev b5 {α0 α1 α2 α3 α4 γ : Type} (w0 : WP α0) (w1 : WP α1) (w2 : WP α2) (w3 : WP α3) (w4 : WP α4) (m : α0 → α1 → α2 → α3 → α4 → WP γ) : WP γ := w0.bind fun y0 => w1.bind fun y1 => w2.bind fun y2 => w3.bind fun y3 => w4.bind fun y4 => m y0 y1 y2 y3 y4
abbrev b1 {α γ : Type} (w : WP α) (m : α → WP γ) : WP γ := w.bind m
end WP
theorem ew_call1N {α0 γ : Type} {e : Ef} {σ : L2.St} {W : Wo} {t0 : TE} {sp : Sp} {E : XK} {ρ0 : Rs e α0} {ρ : Rs e γ} {w0 : WP α0} {m : α0 → WP γ} (h0 : EvW e t0 σ W ρ0 w0)
    (hm : ∀ W2 a0 x0, Good e W2 → ρ0.post W2 W2 a0 x0 → ∀ Q : VK, (m a0).run W2.n (fun n b => ∀ v W3, Gw e W2 W3 → W3.n = n → ρ.post W2 W3 b v → Q v W3.H) → ∀ E, sp [x0] W2.H Q E)
    (n0 : ∀ {W1 W2 a x}, ρ0.post W1 W2 a x → ρ0.post W2 W2 a x := by intros; assumption)
    : EvW e (tCall sp [] E (tCons t0 tNil)) σ W ρ (WP.b1 w0 m) := fun W1 g Q q => by
  refine h0 W1 g _ (w0.mono (fun n a0 q x0 V0 g0 hn r0 => ?_) q)
  subst hn
  have gg1 := g0
  exact hm V0 a0 x0 gg1.ok (n0 r0) Q ((m a0).mono (fun n b h v W5 g5 hn r5 => h v W5 (gg1.trans g5) hn (ρ.back gg1 r5)) q) E
theorem ew_call2N {α0 α1 γ : Type} {e : Ef} {σ : L2.St} {W : Wo} {t0 t1 : TE} {sp : Sp} {E : XK} {ρ0 : Rs e α0} {ρ1 : Rs e α1} {ρ : Rs e γ} {w0 : WP α0} {w1 : WP α1} {m : α0 → α1 → WP γ} (h0 : EvW e t0 σ W ρ0 w0) (h1 : EvW e t1 σ W ρ1 w1)
    (hm : ∀ W2 a0 a1 x0 x1, Good e W2 → ρ0.post W2 W2 a0 x0 → ρ1.post W2 W2 a1 x1 → ∀ Q : VK, (m a0 a1).run W2.n (fun n b => ∀ v W3, Gw e W2 W3 → W3.n = n → ρ.post W2 W3 b v → Q v W3.H) → ∀ E, sp [x0, x1] W2.H Q E)
    (n0 : ∀ {W1 W2 a x}, ρ0.post W1 W2 a x → ρ0.post W2 W2 a x := by intros; assumption) (n1 : ∀ {W1 W2 a x}, ρ1.post W1 W2 a x → ρ1.post W2 W2 a x := by intros; assumption)
    : EvW e (tCall sp [] E (tCons t0 (tCons t1 tNil))) σ W ρ (WP.b2 w0 w1 m) := fun W1 g Q q => by
  refine h0 W1 g _ (w0.mono (fun n a0 q x0 V0 g0 hn r0 => ?_) q)
  subst hn
  have gg1 := g0
  refine h1 V0 (g.trans gg1) _ (w1.mono (fun n a1 q x1 V1 g1 hn r1 => ?_) q)
  subst hn
  have gg2 := gg1.trans g1
  have r0 := ρ0.stay g1 r0
  exact hm V1 a0 a1 x0 x1 gg2.ok (n0 r0) (n1 r1) Q ((m a0 a1).mono (fun n b h v W5 g5 hn r5 => h v W5 (gg2.trans g5) hn (ρ.back gg2 r5)) q) E
theorem ew_call3N {α0 α1 α2 γ : Type} {e : Ef} {σ : L2.St} {W : Wo} {t0 t1 t2 : TE} {sp : Sp} {E : XK} {ρ0 : Rs e α0} {ρ1 : Rs e α1} {ρ2 : Rs e α2} {ρ : Rs e γ} {w0 : WP α0} {w1 : WP α1} {w2 : WP α2} {m : α0 → α1 → α2 → WP γ} (h0 : EvW e t0 σ W ρ0 w0) (h1 : EvW e t1 σ W ρ1 w1) (h2 : EvW e t2 σ W ρ2 w2)
    (hm : ∀ W2 a0 a1 a2 x0 x1 x2, Good e W2 → ρ0.post W2 W2 a0 x0 → ρ1.post W2 W2 a1 x1 → ρ2.post W2 W2 a2 x2 → ∀ Q : VK, (m a0 a1 a2).run W2.n (fun n b => ∀ v W3, Gw e W2 W3 → W3.n = n → ρ.post W2 W3 b v → Q v W3.H) → ∀ E, sp [x0, x1, x2] W2.H Q E)
    (n0 : ∀ {W1 W2 a x}, ρ0.post W1 W2 a x → ρ0.post W2 W2 a x := by intros; assumption) (n1 : ∀ {W1 W2 a x}, ρ1.post W1 W2 a x → ρ1.post W2 W2 a x := by intros; assumption) (n2 : ∀ {W1 W2 a x}, ρ2.post W1 W2 a x → ρ2.post W2 W2 a x := by intros; assumption)
    : EvW e (tCall sp [] E (tCons t0 (tCons t1 (tCons t2 tNil)))) σ W ρ (WP.b3 w0 w1 w2 m) := fun W1 g Q q => by
  refine h0 W1 g _ (w0.mono (fun n a0 q x0 V0 g0 hn r0 => ?_) q)
  subst hn
  have gg1 := g0
  refine h1 V0 (g.trans gg1) _ (w1.mono (fun n a1 q x1 V1 g1 hn r1 => ?_) q)
  subst hn
  have gg2 := gg1.trans g1
  have r0 := ρ0.stay g1 r0
  refine h2 V1 (g.trans gg2) _ (w2.mono (fun n a2 q x2 V2 g2 hn r2 => ?_) q)
  subst hn
  have gg3 := gg2.trans g2
  have r0 := ρ0.stay g2 r0
  have r1 := ρ1.stay g2 r1
  exact hm V2 a0 a1 a2 x0 x1 x2 gg3.ok (n0 r0) (n1 r1) (n2 r2) Q ((m a0 a1 a2).mono (fun n b h v W5 g5 hn r5 => h v W5 (gg3.trans g5) hn (ρ.back gg3 r5)) q) E
theorem ew_call4N {α0 α1 α2 α3 γ : Type} {e : Ef} {σ : L2.St} {W : Wo} {t0 t1 t2 t3 : TE} {sp : Sp} {E : XK} {ρ0 : Rs e α0} {ρ1 : Rs e α1} {ρ2 : Rs e α2} {ρ3 : Rs e α3} {ρ : Rs e γ} {w0 : WP α0} {w1 : WP α1} {w2 : WP α2} {w3 : WP α3} {m : α0 → α1 → α2 → α3 → WP γ} (h0 : EvW e t0 σ W ρ0 w0) (h1 : EvW e t1 σ W ρ1 w1) (h2 : EvW e t2 σ W ρ2 w2) (h3 : EvW e t3 σ W ρ3 w3)
    (hm : ∀ W2 a0 a1 a2 a3 x0 x1 x2 x3, Good e W2 → ρ0.post W2 W2 a0 x0 → ρ1.post W2 W2 a1 x1 → ρ2.post W2 W2 a2 x2 → ρ3.post W2 W2 a3 x3 → ∀ Q : VK, (m a0 a1 a2 a3).run W2.n (fun n b => ∀ v W3, Gw e W2 W3 → W3.n = n → ρ.post W2 W3 b v → Q v W3.H) → ∀ E, sp [x0, x1, x2, x3] W2.H Q E)
    (n0 : ∀ {W1 W2 a x}, ρ0.post W1 W2 a x → ρ0.post W2 W2 a x := by intros; assumption) (n1 : ∀ {W1 W2 a x}, ρ1.post W1 W2 a x → ρ1.post W2 W2 a x := by intros; assumption) (n2 : ∀ {W1 W2 a x}, ρ2.post W1 W2 a x → ρ2.post W2 W2 a x := by intros; assumption) (n3 : ∀ {W1 W2 a x}, ρ3.post W1 W2 a x → ρ3.post W2 W2 a x := by intros; assumption)
    : EvW e (tCall sp [] E (tCons t0 (tCons t1 (tCons t2 (tCons t3 tNil))))) σ W ρ (WP.b4 w0 w1 w2 w3 m) := fun W1 g Q q => by
  refine h0 W1 g _ (w0.mono (fun n a0 q x0 V0 g0 hn r0 => ?_) q)
  subst hn
  have gg1 := g0
  refine h1 V0 (g.trans gg1) _ (w1.mono (fun n a1 q x1 V1 g1 hn r1 => ?_) q)
  subst hn
  have gg2 := gg1.trans g1
  have r0 := ρ0.stay g1 r0
  refine h2 V1 (g.trans gg2) _ (w2.mono (fun n a2 q x2 V2 g2 hn r2 => ?_) q)
  subst hn
  have gg3 := gg2.trans g2
  have r0 := ρ0.stay g2 r0
  have r1 := ρ1.stay g2 r1
  refine h3 V2 (g.trans gg3) _ (w3.mono (fun n a3 q x3 V3 g3 hn r3 => ?_) q)
  subst hn
  have gg4 := gg3.trans g3
  have r0 := ρ0.stay g3 r0
  have r1 := ρ1.stay g3 r1
  have r2 := ρ2.stay g3 r2
  exact hm V3 a0 a1 a2 a3 x0 x1 x2 x3 gg4.ok (n0 r0) (n1 r1) (n2 r2) (n3 r3) Q ((m a0 a1 a2 a3).mono (fun n b h v W5 g5 hn r5 => h v W5 (gg4.trans g5) hn (ρ.back gg4 r5)) q) E
theorem ew_call5N {α0 α1 α2 α3 α4 γ : Type} {e : Ef} {σ : L2.St} {W : Wo} {t0 t1 t2 t3 t4 : TE} {sp : Sp} {E : XK} {ρ0 : Rs e α0} {ρ1 : Rs e α1} {ρ2 : Rs e α2} {ρ3 : Rs e α3} {ρ4 : Rs e α4} {ρ : Rs e γ} {w0 : WP α0} {w1 : WP α1} {w2 : WP α2} {w3 : WP α3} {w4 : WP α4} {m : α0 → α1 → α2 → α3 → α4 → WP γ} (h0 : EvW e t0 σ W ρ0 w0) (h1 : EvW e t1 σ W ρ1 w1) (h2 : EvW e t2 σ W ρ2 w2) (h3 : EvW e t3 σ W ρ3 w3) (h4 : EvW e t4 σ W ρ4 w4)
    (hm : ∀ W2 a0 a1 a2 a3 a4 x0 x1 x2 x3 x4, Good e W2 → ρ0.post W2 W2 a0 x0 → ρ1.post W2 W2 a1 x1 → ρ2.post W2 W2 a2 x2 → ρ3.post W2 W2 a3 x3 → ρ4.post W2 W2 a4 x4 → ∀ Q : VK, (m a0 a1 a2 a3 a4).run W2.n (fun n b => ∀ v W3, Gw e W2 W3 → W3.n = n → ρ.post W2 W3 b v → Q v W3.H) → ∀ E, sp [x0, x1, x2, x3, x4] W2.H Q E)
    (n0 : ∀ {W1 W2 a x}, ρ0.post W1 W2 a x → ρ0.post W2 W2 a x := by intros; assumption) (n1 : ∀ {W1 W2 a x}, ρ1.post W1 W2 a x → ρ1.post W2 W2 a x := by intros; assumption) (n2 : ∀ {W1 W2 a x}, ρ2.post W1 W2 a x → ρ2.post W2 W2 a x := by intros; assumption) (n3 : ∀ {W1 W2 a x}, ρ3.post W1 W2 a x → ρ3.post W2 W2 a x := by intros; assumption) (n4 : ∀ {W1 W2 a x}, ρ4.post W1 W2 a x → ρ4.post W2 W2 a x := by intros; assumption)
    : EvW e (tCall sp [] E (tCons t0 (tCons t1 (tCons t2 (tCons t3 (tCons t4 tNil)))))) σ W ρ (WP.b5 w0 w1 w2 w3 w4 m) := fun W1 g Q q => by
  refine h0 W1 g _ (w0.mono (fun n a0 q x0 V0 g0 hn r0 => ?_) q)
  subst hn
  have gg1 := g0
  refine h1 V0 (g.trans gg1) _ (w1.mono (fun n a1 q x1 V1 g1 hn r1 => ?_) q)
  subst hn
  have gg2 := gg1.trans g1
  have r0 := ρ0.stay g1 r0
  refine h2 V1 (g.trans gg2) _ (w2.mono (fun n a2 q x2 V2 g2 hn r2 => ?_) q)
  subst hn
  have gg3 := gg2.trans g2
  have r0 := ρ0.stay g2 r0
  have r1 := ρ1.stay g2 r1
  refine h3 V2 (g.trans gg3) _ (w3.mono (fun n a3 q x3 V3 g3 hn r3 => ?_) q)
  subst hn
  have gg4 := gg3.trans g3
  have r0 := ρ0.stay g3 r0
  have r1 := ρ1.stay g3 r1
  have r2 := ρ2.stay g3 r2
  refine h4 V3 (g.trans gg4) _ (w4.mono (fun n a4 q x4 V4 g4 hn r4 => ?_) q)
  subst hn
  have gg5 := gg4.trans g4
  have r0 := ρ0.stay g4 r0
  have r1 := ρ1.stay g4 r1
  have r2 := ρ2.stay g4 r2
  have r3 := ρ3.stay g4 r3
  exact hm V4 a0 a1 a2 a3 a4 x0 x1 x2 x3 x4 gg5.ok (n0 r0) (n1 r1) (n2 r2) (n3 r3) (n4 r4) Q ((m a0 a1 a2 a3 a4).mono (fun n b h v W5 g5 hn r5 => h v W5 (gg5.trans g5) hn (ρ.back gg5 r5)) q) E
theorem Var.nS {κ : Type} {k : Kd κ} {e : Ef} {W0 W : Wo} {fp : List Addr} {x : κ} {v : V} (g : Good e W0) (h : Var k W0 W fp x v) : ∀ a ∈ fp, ¬ e.S a := fun a m s => g.S a s (h.fr a m)
/-- the result of a pure def, told where more may happen -/
theorem sN_up {κ : Type} {k : Kd κ} {e : Ef} {W W' : Wo} {x : κ} {v : V} (g : Good e W) (h : (sN (e := ef0) k).post W W' x v) : (sN (e := e) k).post W W' x v := by
  obtain ⟨fp, h1, h2⟩ := h
  exact ⟨fp, h1, fun a m => ⟨(h2 a m).1, fun s => g.S a s (h2 a m).1, (h2 a m).2.2⟩⟩
end Y

namespace Y
open PySem PySem.Spec PyProof.Rows L2
section
variable {α β γ δ s ρ' : Type} {K : PySem.W.Frag} {e : Ef} {σ : L2.St} {W : Wo} {ta tb te tc tl : TE} {t u : TT} {i j k m n : Nat} {v : V} {D : Ends} {tu tw tz : TS} {ρ : Rs e α} {w : WP α} {R : Nat → β → Prop}
theorem q_forV [PyI α] {g : TG} {T : α → Wo → L2.St → L2.St → Prop} (ht : Tk g T) {xs : List α} {body : α → s → WP (Ctl s γ)} {f : s → WP β} {r : γ → WP β} {x0 : s} {p : Addr} {vs : List V} (hv : σ[i]? = some (some (.ref p))) (hp : W.H p = some (.lst vs)) (hr : Rps W xs vs) (hm : (WP.after (WP.loop body xs x0) f r).run W.n R)
    (INV : s → L2.St → Wo → Prop) (h0 : INV x0 σ W) (keep : ∀ y σ' W', INV y σ' W' → St W W' ∧ W'.H p = some (.lst vs)) (step : Turn INV body r R { D with nx := tz D } tu T) (hd : ∀ y σ' W', INV y σ' W' → (f y).run W'.n R → tz D σ' W'.H) : tSeq (tFor (iList K (tVar i)) g tu) tz D σ W.H := st_forV (D := { D with nx := tz D }) ht hv hp hr hm INV h0 keep step hd
theorem q_forN [PyI α] {gt : TG} {T : α → Wo → L2.St → L2.St → Prop} (ht : Tk gt T) {w : WP (List α)} {body : α → s → WP (Ctl s γ)} {f : s → WP β} {r : γ → WP β} {x0 : s} (h : EvW e tl σ W (sN (kL α)) w) (g : Good e W) (hm : (w.bind fun xs => WP.after (WP.loop body xs x0) f r).run W.n R)
    (q : ∀ (xs : List α) p vs W1, Gw e W W1 → W.H p = none → ¬ W1.F p → W1.H p = some (.lst vs) → Rps W1 xs vs → ∃ INV : s → L2.St → Wo → Prop, INV x0 σ W1 ∧ (∀ y σ' W', INV y σ' W' → St W1 W' ∧ W'.H p = some (.lst vs)) ∧ Turn INV body r R { D with nx := tz D } tu T ∧ ∀ y σ' W', INV y σ' W' → (f y).run W'.n R → tz D σ' W'.H) : tSeq (tFor (iList K tl) gt tu) tz D σ W.H := st_forN (D := { D with nx := tz D }) ht h g hm q
theorem q_forR1 {w : WP Int} {body : Int → s → WP (Ctl s γ)} {f : s → WP β} {r : γ → WP β} {x0 : s} (h : EvW e te σ W sI w) (g : Good e W) (hm : ((WP.range1 w).bind fun xs => WP.after (WP.loop body xs x0) f r).run W.n R)
    (q : ∀ W1, Gw e W W1 → ∃ INV : s → L2.St → Wo → Prop, INV x0 σ W1 ∧ Turn INV body r R { D with nx := tz D } tu (TkN j) ∧ ∀ y σ' W', INV y σ' W' → (f y).run W'.n R → tz D σ' W'.H) : tSeq (tFor (iRng1 (tCons te tNil)) (gName j) tu) tz D σ W.H := st_forR1 (D := { D with nx := tz D }) h g hm q
theorem q_while {c : s → WP Bool} {body : s → WP (Ctl s γ)} {f : s → WP β} {r : γ → WP β} {x0 : s} (g : Good e W) (hm : (WP.after (WP.whilst c body x0) f r).run W.n R) (INV : s → L2.St → Wo → Prop) (h0 : INV x0 σ W)
    (hs : ∀ y σ' W', INV y σ' W' → Good e W' ∧ EvT e t σ' W' (c y) ∧ ∀ W1, Gw e W' W1 →
      (∀ R' (nx : L2.St → Hp → Prop), (body y).run W1.n R' → (∀ y' σ'' W'', INV y' σ'' W'' → R' W''.n (.nx y') → nx σ'' W''.H) → (∀ y' σ'' W'', INV y' σ'' W'' → R' W''.n (.bk y') → tz D σ'' W''.H) → (∀ n x, R' n (.rt x) → (r x).run n R) → tu { D with nx := nx, ct := nx, bk := tz D } σ' W1.H) ∧ INV y σ' W1)
    (hd : ∀ y σ' W', INV y σ' W' → (f y).run W'.n R → tz D σ' W'.H) : tSeq (tWhile t tu) tz D σ W.H := st_while (D := { D with nx := tz D }) g hm INV h0 hs hd
theorem own_list [PyI α] {fp : List Addr} {xs : List α} (h : (kL α).own W fp xs v) : ∃ p vs, fp = [p] ∧ v = .ref p ∧ W.H p = some (.lst vs) ∧ Rps W xs vs := h
theorem mem_one {a p : Addr} (h : a ∈ [p]) : a = p := List.mem_singleton.mp h
end
end Y
/-! lists of lists, texts joined, more things built in -/
namespace Y
open PySem PySem.Spec PyProof.Rows L2
def VRow {α : Type} [PyI α] (e : Ef) (W : Wo) (xs : List α) (x : V) : Prop := ∃ fp, (kL α).own W fp xs x ∧ ∀ b ∈ fp, ¬ e.S b
def TgR {α : Type} [PyI α] (e : Ef) (σ : L2.St) (vs0 : List Nat) (j : Nat) : List α → Wo → L2.St → Prop := fun a W s2 => ∃ x fp, s2 = (wipe σ vs0).set j (some x) ∧ (kL α).own W fp a x ∧ ∀ b ∈ fp, ¬ e.S b
/-- a list of lists changed by place -/
def setL {α : Type} (xs : List α) (r : Int) (v : α) : List α := match ixN xs.length r with | some i => xs.set i v | none => xs
def setG {α : Type} (xss : List (List α)) (r c : Int) (v : α) : List (List α) := setL xss r (setL (ixD xss r) c v)
theorem ixN_ok {n : Nat} {x : Int} (h : okI n x) : ∃ i, ixN n x = some i ∧ i < n := by
  unfold ixN
  obtain ⟨h1, h2⟩ := h
  by_cases h0 : 0 ≤ x
  · rw [if_pos h0, if_pos h2]; exact ⟨_, rfl, by omega⟩
  · rw [if_neg h0, if_pos h1]; exact ⟨_, rfl, by omega⟩
theorem setL_ok {α : Type} {xs : List α} {r : Int} {i : Nat} {v : α} (h : ixN xs.length r = some i) : setL xs r v = xs.set i v := by unfold setL; rw [h]
theorem ixD_ok {α : Type} [Inhabited α] {xs : List α} {r : Int} {i : Nat} (h : ixN xs.length r = some i) (hl : i < xs.length) : ixD xs r = xs[i] := by
  unfold ixD atI
  rw [h]
  show xs[i]?.getD default = _
  rw [List.getElem?_eq_getElem hl]; rfl
theorem paired_get {α β : Type} {F : α → β → Prop} : ∀ {l1 : List α} {l2 : List β}, l1.length = l2.length → (∀ (i : Nat) a b, l1[i]? = some a → l2[i]? = some b → F a b) → Paired F l1 l2
  | [], [], _, _ => .nil
  | [], _ :: _, h, _ => by simp at h
  | _ :: _, [], h, _ => by simp at h
  | a :: as, b :: bs, h, f => .cons (f 0 a b rfl rfl) (paired_get (by simpa using h) fun i x y hx hy => f (i + 1) x y hx hy)
namespace WP
variable {α β γ : Type}
def none {β : Type} {b : β} : WP α := ⟨fun _ _ => False, fun _ h => h⟩
abbrev join (s : WP Str) (xs : WP (List Str)) : WP Str := b2 s xs fun a ys => req ((ys.map (·.length)).sum + ys.length * a.length ≤ 1000000) (Txt.join a ys)
abbrev gset [Inhabited α] (xss : List (List α)) (a : WP α) (b c : WP Int) : WP (List (List α)) := a.bind fun v => b.bind fun r => (req (okI xss.length r) r).bind fun r => c.bind fun k => req (okI (ixD xss r).length k) (setG xss r k v)
abbrev min4 (a b c d : WP Int) : WP Int := b4 a b c d fun x y z w => pure (min (min x y) (min z w))
end WP
section
variable {α β γ δ : Type} {K : PySem.W.Frag} {e : Ef} {σ : L2.St} {W : Wo} {ta tb te tc td tl to : TE} {t u : TT} {i j k m n : Nat} {v : V} {vs0 : List Nat} {D : Ends} {tz : TS} {R : Nat → γ → Prop} {g : TG}
theorem takes_R [PyI α] : Takes (fun W (a : List α) x => VRow e W a x) (gName j) σ vs0 (TgR e σ vs0 j) := fun a x W' Q ⟨fp, h1, h2⟩ q => q _ ⟨x, fp, rfl, h1, h2⟩
theorem row_at [PyI α] {W' : Wo} {xss : List (List α)} {ps : List Addr} {x : V} {i : Nat} (h : Paired (Row W) xss ps) (hi : (ps.map V.ref)[i]? = some x) (hS : ∀ b ∈ ps, ¬ e.S b) : ∃ xs, xss[i]? = some xs ∧ VRow e W xs x := by
  rw [List.getElem?_map] at hi
  obtain ⟨a, ha, rfl⟩ := Option.map_eq_some_iff.mp hi
  obtain ⟨xs, hxs, vs, r1, r2⟩ := h.getV ha
  exact ⟨xs, hxs, [a], ⟨a, vs, rfl, rfl, r1, r2⟩, fun b m => by cases List.mem_singleton.mp m; exact hS a (List.mem_of_getElem? ha)⟩
theorem VRow.go [PyI α] {W W' : Wo} {xs : List α} {x : V} (g : Gw e W W') (h : VRow e W xs x) : VRow e W' xs x := by
  obtain ⟨fp, h1, h2⟩ := h
  exact ⟨fp, Kd.go g h2 h1, h2⟩
/-- a comprehension over a list of lists -/
theorem ew_lcG [PyI α] [PyI β] {w : WP (List (List α))} {T : List α → Wo → L2.St → Prop} {c : List α → WP Bool} {f : List α → WP β} (h : EvW e tl σ W (sR (kG α)) w) (ht : Takes (fun W (a : List α) x => VRow e W a x) g σ vs0 T) (hw : ∀ a W' s2, T a W' s2 → wipe s2 vs0 = wipe σ vs0)
    (hc : ∀ a W1 s2, Gw e W W1 → T a W1 s2 → EvT e t s2 W1 (c a)) (he : ∀ a W1 s2, Gw e W W1 → T a W1 s2 → EvW e te s2 W1 sI (f a)) : EvW e (tLc (iList K tl) g t te vs0) σ W (sN (kL β)) (WP.lc w c f) := fun W1 g1 Q q =>
  h W1 g1 _ (w.mono (fun n xs hq v W2 g2 hn ⟨fp, ⟨p, ps, e1, nd, e2, hp, hr⟩, hS⟩ => by
    subst hn; subst e1; subst e2
    refine ⟨p, rfl, ⟨_, SqL.of hp⟩, fun Dl hD => ?_⟩
    have hSp := hS p List.mem_cons_self
    have hSr : ∀ b ∈ ps, ¬ e.S b := fun b m => hS b (List.mem_cons_of_mem _ m)
    obtain ⟨Pv, p0, pk, pst, pd⟩ := pv_comp (val := fun W (a : List α) x => VRow e W a x) (T := T) (t := t) (te := te) (g := g) (σ := σ) (vs0 := vs0) (Qd := fun H => Q (.ref Dl) H) g2.ok hD hq.1 ht hw (fun a W3 s2 g3 => hc a W3 s2 ((g1.trans g2).trans g3)) (fun a W3 s2 g3 => he a W3 s2 ((g1.trans g2).trans g3)) hq.2 fun W' ys vs' gw hl hF hr' hqq => hqq _ W' (g2.trans gw) rfl ⟨[Dl], ⟨Dl, vs', rfl, rfl, hl, hr'⟩, fun b mb => by
      cases List.mem_singleton.mp mb
      exact ⟨g2.live _ hD, fun s => g2.ok.S _ s hD, hF⟩⟩
    exact lc_list (xs := ps.map V.ref) Pv p0 (fun i H _ pp => by
      obtain ⟨W', e1, gw⟩ := pk i H pp
      subst e1
      exact SqL.of (gw.keep _ _ hp hSp)) (fun i x H hi pp => by
      obtain ⟨a, ha, ra⟩ := row_at (W' := W2) hr hi hSr
      exact pst i x H a ha (fun W' gw => VRow.go gw ra) pp) (by rw [List.length_map, ← Paired.length hr]; exact pd)) q)
abbrev rJoin (K : PySem.W.Frag) : V → List V → Hp → VK → Prop := fun x xs H Q => ∃ a p, ∃ ys : List Str, x = .str a ∧ xs = [.ref p] ∧ (SqL K H p (ys.map V.str) ∨ SqT K H p (ys.map V.str)) ∧
      (ys.map (·.length)).sum + ys.length * a.length ≤ 16777216 ∧ Q (.str (Txt.join a ys)) H
theorem ew_join {w1 : WP Str} {w2 : WP (List Str)} (ho : EvW e to σ W sI w1) (h : EvW e te σ W (sR (kL Str)) w2) : EvW e (tM1 (rJoin K) to te) σ W sI (WP.join w1 w2) := fun W1 g Q q =>
  ho W1 g _ (w1.mono (fun n a hq x W2 g2 hn r1 => by
    subst hn; cases r1
    refine ⟨⟨a, rfl⟩, h W2 (g.trans g2) _ (w2.mono (fun n ys hq y W3 g3 hn ⟨fp, ⟨p, vs, _, h1, h2, h3⟩, _⟩ => ?_) hq)⟩
    subst h1
    cases rps_strs h3
    exact ⟨a, p, ys, rfl, rfl, .inl (SqL.of h2), Nat.le_trans hq.1 (by decide), hq.2 _ W3 (g2.trans g3) hn rfl⟩) q)
abbrev rMin4 : List V → Hp → VK → Prop := fun xs H Q => ∃ i j k l, xs = [.int i, .int j, .int k, .int l] ∧ Q (.int (min (min i j) (min k l))) H
theorem ew_min4 {w1 w2 w3 w4 : WP Int} (h1 : EvW e ta σ W sI w1) (h2 : EvW e tb σ W sI w2) (h3 : EvW e tc σ W sI w3) (h4 : EvW e td σ W sI w4) : EvW e (tCB rMin4 (tCons ta (tCons tb (tCons tc (tCons td tNil))))) σ W sI (WP.min4 w1 w2 w3 w4) := fun W1 g Q q =>
  h1 W1 g _ (w1.mono (fun n a q x V1 g1 hn r1 => by
    subst hn
    refine h2 V1 (g.trans g1) _ (w2.mono (fun n b q y V2 g2 hn r2 => ?_) q)
    subst hn
    have gg2 := g1.trans g2
    refine h3 V2 (g.trans gg2) _ (w3.mono (fun n c q z V3 g3 hn r3 => ?_) q)
    subst hn
    have gg3 := gg2.trans g3
    refine h4 V3 (g.trans gg3) _ (w4.mono (fun n d q w V4 g4 hn r4 => ?_) q)
    cases r1; cases r2; cases r3; cases r4
    exact ⟨a, b, c, d, rfl, q _ V4 (gg3.trans g4) hn rfl⟩) q)
/-- grid.append(row) -/
theorem st_gapp [PyI α] {W0 : Wo} {fg fr : List Addr} {xss : List (List α)} {xs : List α} {vg vr : V} {ig ir : Nat} {f : List (List α) → WP γ} (g00 : Good e W0) (g0 : Gw e W0 W) (hg : σ[ig]? = some (some vg)) (hr : σ[ir]? = some (some vr)) (og : Var (kG α) W0 W fg xss vg) (or : Var (kL α) W0 W fr xs vr) (dj : ∀ b ∈ fg, b ∉ fr)
    (hm : ((WP.req (xss.length < 100000) (xss ++ [xs])).bind f).run W.n R)
    (q : ∀ ys W2 f2, (∀ b ∈ f2, b ∈ fg ∨ b ∈ fr) → St W W2 → Gw e W0 W2 → (∀ fp' W9, Kp fp' W9 W → (∀ b ∈ fp', b ∉ fg) → Kp fp' W9 W2) → (∀ b, W2.F b → W.F b) → Var (kG α) W0 W2 f2 ys vg → (f ys).run W2.n R → D.nx σ W2.H) : tDrop (tBM K "list" rAppend (tVar ig) (tCons (tVar ir) tNil)) D σ W.H := by
  obtain ⟨⟨p, ps, e1, nd, e2, hp, hrow⟩, frg, nFg⟩ := og
  obtain ⟨⟨r, vs, e3, e4, hrr, hrs⟩, frr, nFr⟩ := or
  subst e1; subst e2; subst e3; subst e4
  have mp : p ∈ p :: ps := List.mem_cons_self
  have mr : r ∈ [r] := List.mem_singleton.mpr rfl
  have s12 := St.mut (u := .lst (ps.map V.ref ++ [V.ref r])) hp (fun _ z => by cases z) (nFg p mp)
  refine ⟨_, hg, .inl ⟨rfl, _, SqL.of hp⟩, .ref r, hr, p, _, .ref r, rfl, rfl, hp, by rw [List.length_map, ← Paired.length hrow]; exact sz_lt hm.1, ?_⟩
  have npr : p ≠ r := fun z => dj p mp (by rw [z]; exact mr)
  refine q (xss ++ [xs]) (W.set p (.lst (ps.map V.ref ++ [V.ref r]))) (p :: (ps ++ [r])) (fun b m => ?_) s12 (Gw.mut g00 g0 (frg p mp) hp (fun _ z => by cases z) (nFg p mp)) (fun fp' W9 kk d => kk.upd fun b m z => d b m (by rw [z]; exact mp)) (fun _ f => f) ⟨⟨p, ps ++ [r], rfl, ?_, rfl, ?_, ?_⟩, fun b m => ?_, fun b m => ?_⟩ hm.2
  · rcases List.mem_cons.mp m with m | m
    · exact .inl (by rw [m]; exact mp)
    · rcases List.mem_append.mp m with m | m
      · exact .inl (List.mem_cons_of_mem _ m)
      · exact .inr m
  · have h1 := List.nodup_cons.mp nd
    refine List.nodup_cons.mpr ⟨fun m => ?_, ?_⟩
    · rcases List.mem_append.mp m with m | m
      · exact h1.1 m
      · exact npr (List.mem_singleton.mp m)
    · rw [List.nodup_append]
      exact ⟨h1.2, by simp, fun a ma b mb z => dj a (List.mem_cons_of_mem _ ma) (by rw [z]; exact mb)⟩
  · show (upd W.H p _) p = _
    rw [upd_same, List.map_append]; rfl
  · have k : ∀ a ∈ ps, ∀ o, W.H a = some o → (W.set p (.lst (ps.map V.ref ++ [V.ref r]))).H a = some o := fun a m o h => by
      show (upd W.H p _) a = _
      rw [upd_ne (fun z => (List.nodup_cons.mp nd).1 (by rw [← z]; exact m))]; exact h
    refine (rows_st s12 k hrow).appA (.cons ⟨vs, ?_, Rps.st s12 hrs⟩ .nil)
    show (upd W.H p _) r = _
    rw [upd_ne npr.symm]; exact hrr
  · rcases List.mem_cons.mp m with m | m
    · rw [m]; exact frg p mp
    · rcases List.mem_append.mp m with m | m
      · exact frg b (List.mem_cons_of_mem _ m)
      · exact frr b m
  · rcases List.mem_cons.mp m with m | m
    · rw [m]; exact nFg p mp
    · rcases List.mem_append.mp m with m | m
      · exact nFg b (List.mem_cons_of_mem _ m)
      · exact nFr b m
/-- grid[r][c] = e -/
theorem st_gset [PyI α] [Inhabited α] {W0 : Wo} {fg : List Addr} {xss : List (List α)} {vg : V} {ig : Nat} {w1 : WP α} {w2 w3 : WP Int} {f : List (List α) → WP γ} (g00 : Good e W0) (g0 : Gw e W0 W) (hg : σ[ig]? = some (some vg)) (og : Var (kG α) W0 W fg xss vg) (hv : EvW e tc σ W sI w1) (ha : EvW e ta σ W sI w2) (hb : EvW e tb σ W sI w3)
    (hm : ((WP.gset xss w1 w2 w3).bind f).run W.n R)
    (q : ∀ ys W1 W2, Gw e W W1 → St W1 W2 → Gw e W0 W2 → (∀ fp' W9, Kp fp' W9 W1 → (∀ b ∈ fp', b ∉ fg) → Kp fp' W9 W2) → (∀ b, W2.F b → W1.F b) → Var (kG α) W0 W2 fg ys vg → (f ys).run W2.n R → D.nx σ W2.H) : tAsg tc (gSub (tOp (rIxL K) (tVar ig) ta) tb rSetL) D σ W.H := by
  refine hv W (Gw.refl g0.ok) _ (w1.mono (fun n v hq x W1 g1 hn r1 => ?_) hm)
  subst hn
  refine ⟨_, hg, ha W1 g1 _ (w2.mono (fun n r hq y W2 g2 hn r2 => ?_) hq)⟩
  subst hn
  cases r2
  obtain ⟨⟨p, ps, e1, nd, e2, hp, hrow⟩, frg, nFg⟩ := og.go g00 (g1.trans g2)
  subst e1; subst e2
  have hSg : ∀ b ∈ p :: ps, ¬ e.S b := fun b m s => g00.S b s (frg b m)
  have key : ∀ {i : Nat} {a : Addr}, ps[i]? = some a → (ps.map V.ref)[i]? = some (.ref a) := fun h => by rw [List.getElem?_map, h]; rfl
  obtain ⟨hr, hq⟩ := hq
  · obtain ⟨i, hi, hil⟩ := ixN_ok hr
    have hlp := Paired.length hrow
    have hip : i < ps.length := by omega
    have hpi : ps[i]? = some ps[i] := List.getElem?_eq_getElem hip
    have hat : atI (ps.map V.ref) r = some (.ref ps[i]) := by
      unfold atI
      rw [List.length_map, ← hlp, hi]
      exact key hpi
    refine ⟨p, _, r, _, rfl, rfl, SqL.of hp, hat, hb W2 (g1.trans g2) _ (w3.mono (fun n c hq z W3 g3 hn r3 => ?_) hq)⟩
    subst hn
    cases r3
    obtain ⟨hc, hq⟩ := hq
    obtain ⟨j, hj, hjl⟩ := ixN_ok hc
    have hxi : ixD xss r = xss[i] := ixD_ok hi hil
    have mi : ps[i] ∈ p :: ps := List.mem_cons_of_mem _ (List.getElem_mem hip)
    have g13 := g1.trans (g2.trans g3)
    have hrow3 : Paired (Row W3) xss ps := rows_st g3.st (fun a m o h => g3.keep a o h (hSg a (List.mem_cons_of_mem _ m))) hrow
    have hp3 := g3.keep _ _ hp (hSg p List.mem_cons_self)
    obtain ⟨a, ha', vs, ra, rv⟩ := hrow3.getA (List.getElem?_eq_getElem hil)
    rw [hpi] at ha'
    cases ha'
    have hF : ¬ W3.F ps[i] := fun z => (g3.new _ z).elim (nFg _ mi) (fun n => by
      obtain ⟨a, ha', vs, ra, rv⟩ := hrow.getA (List.getElem?_eq_getElem hil)
      rw [hpi] at ha'
      cases ha'
      exact some_ne ra n)
    have s34 := St.mut (u := .lst (vs.set j x)) ra (fun _ z => by cases z) hF
    rw [hxi] at hj hc
    have hjv : ixN vs.length c = some j := by rw [← Paired.length rv]; exact hj
    have npi : ps[i] ≠ p := fun z => (List.nodup_cons.mp nd).1 (by rw [← z]; exact List.getElem_mem hip)
    refine ⟨ps[i], vs, c, j, rfl, rfl, ra, hjv, q (setG xss r c v) W3 (W3.set ps[i] (.lst (vs.set j x))) g13 s34 (Gw.mut g00 (g0.trans g13) (frg _ mi) ra (fun _ z => by cases z) hF) (fun fp' W9 kk d => kk.upd fun b m z => d b m (by rw [z]; exact mi)) (fun _ f => f) ⟨⟨p, ps, rfl, nd, rfl, ?_, ?_⟩, frg, fun b m z => ?_⟩ hq⟩
    · show (upd W3.H ps[i] _) p = _
      rw [upd_ne npi.symm]; exact hp3
    · have es : setG xss r c v = xss.set i (xss[i].set j v) := by
        unfold setG
        rw [hxi, setL_ok hi, setL_ok hj]
      rw [es]
      refine paired_get (by rw [List.length_set]; exact hlp) fun k a b hka hkb => ?_
      by_cases hki : k = i
      · subst hki
        rw [List.getElem?_set_self hil] at hka
        rw [hpi] at hkb
        cases hka; cases hkb
        exact ⟨_, upd_same, (Rps.st s34 rv).setA j (PyI.st ((g2.trans g3).st.trans s34) r1)⟩
      · rw [List.getElem?_set_ne (fun z => hki z.symm)] at hka
        obtain ⟨b', hb', vs', r1', r2'⟩ := hrow3.getA hka
        rw [hkb] at hb'
        cases hb'
        refine ⟨vs', ?_, Rps.st s34 r2'⟩
        show (upd W3.H ps[i] _) b = _
        have : b ≠ ps[i] := fun z => hki (by
          have hk : k < ps.length := (List.getElem?_eq_some_iff.mp hkb).1
          have e5 : ps[k] = b := (List.getElem?_eq_some_iff.mp hkb).2
          exact (List.getElem_inj (List.nodup_cons.mp nd).2).mp (e5.trans z))
        rw [upd_ne this]; exact r1'
    · have : W3.F b := z
      exact (g3.new b this).elim (nFg b m) (fun n => (kG α).live (W := W2) ⟨p, ps, rfl, nd, rfl, hp, hrow⟩ b m n)
/-- [] for a list of lists -/
theorem ew_gnil [PyI α] : EvW e (tLst tNil) σ W (sN (kG α)) (WP.row (WP.pure ([] : List (List α)))) := fun W1 g Q q => ⟨sz_le (n := 0) (by decide), fun p hp => q.2 _ _ (Gw.alloc g.ok hp) rfl ⟨[p], ⟨p, [], rfl, by simp, rfl, upd_same, .nil⟩, fun a m => by
  cases List.mem_singleton.mp m
  exact ⟨hp, fun s => g.ok.S p s hp, fun f => (g.ok.F p f).2 hp⟩⟩⟩
end
section
variable {X : Cx} {K : PySem.W.Frag}
theorem pe_joinK {o e : Expr} {to te : TE} {apos pos : Pos} (hK : X.K = K) (ho : PE X o to) (he : PE X e te) (hs : starEach [e] X.env = [(false, eval e X.env)] := by rfl) (hbase : attributeBase o "join" X.env (eval o X.env) = eval o X.env := by rfl) (hline : (apos.endLine == pos.line) = true := by rfl) :
    PE X (.Call (.Attribute o "join" apos) [e] [] pos) (tM1 (rJoin K) to te) := hK ▸ pe_join ho he hs hbase hline
end
open Sem (wp)
section
variable {prog : Program} {w : World} {A : Around} {E : Value → Shared → Prop} {s : Shared}
theorem args_min4 (a b c d : Value) : argsOk "min" ⟨[a, b, c, d], []⟩ := by unfold argsOk; kernel_rfl
theorem call_min_four {a b c d : Value} {Q : Value → Shared → Prop}
    (h : wpAny (model prog w) A.in1 (pyIter (.ref s.heap.objs.size)) (fun it s₂ => ∃ I fp wr n P St bt, it = .ref I ∧ Walks prog w A.in1 I fp wr n P St ∧ St 0 s₂.heap ∧ (∀ b ∈ fp, b < s₂.heap.objs.size) ∧ 0 < n ∧ CmpOf prog w A.in1 .Lt P bt ∧
      ∀ v h' tk, P (argBest bt (n - 1)) v → (∀ b o, b ∉ wr → s₂.heap.get? b = some o → h'.get? b = some o) → Q v { s₂ with heap := h', toks := tk }) E
      { s with heap := s.heap.push { cls := .type "tuple", data := .seq #[a, b, c, d] } }) :
    wpAny (model prog w) A (call (.builtin "min") [a, b, c, d]) Q E s := by
  have hname : (toString "min" ++ toString ".loop" : String) = "min.loop" := by decide
  refine call_function_tree F.kind_min F.plain_min F.entry_min (args_min4 _ _ _ _) ?_
  show wpAny _ A.in1 (Builtin.Builtins.bindParams "min" ["key", "default"] 0 ⟨[], []⟩ >>= _) _ _ s
  refine wpAny_bind (wpAny_of_eq (show Builtin.Builtins.bindParams "min" ["key", "default"] 0 ⟨[], []⟩ = pure [none, none] from rfl) ?_)
  show wpAny _ A.in1 (newTuple [a, b, c, d] >>= _) _ _ s
  refine wpAny_bind (wpAny_newObj_type ?_)
  refine wpAny_bind (wpAny_mono h (fun it s₂ h₂ => ?_) fun _ _ e => e)
  obtain ⟨I, fp, wr, n, P, St, bt, rfl, W, hst, hfp, hn, hcmp, hQ⟩ := h₂
  refine wpAny_bind (wpAny_newObj_type ?_)
  have hSf : s₂.heap.objs.size ∉ fp := fun hm => Nat.lt_irrefl _ (hfp _ hm)
  rw [hname]
  refine wpAny_pure ⟨plainId_quiet F.plain_min_loop _, codeAny_min_loop_first W bt hcmp s₂.heap.objs.size hSf hn (W.frame _ _ _ hst fun b _ o e => Heap.get?_push_of_some _ e) (Heap.get?_push_size _ rfl) fun v h' tk hP hk => ?_⟩
  exact hQ v h' tk hP fun b o hbw e => hk b o hbw (Nat.ne_of_lt (Heap.lt_size e)) (Heap.get?_push_of_some _ e)
def pick4 (a b c d : Int) (t u x y : Tok) : Value := if b < a then (if c < b then (if d < c then .int d y else .int c x) else (if d < b then .int d y else .int b u)) else (if c < a then (if d < c then .int d y else .int c x) else (if d < a then .int d y else .int a t))
theorem pick4_min (a b c d : Int) (t u x y : Tok) : ∃ z, pick4 a b c d t u x y = .int (min (min a b) (min c d)) z := by
  unfold pick4
  have m : ∀ p q : Int, min p q = if p ≤ q then p else q := fun p q => rfl
  simp only [m]
  split <;> (split <;> (split <;> (first
    | exact ⟨_, congrArg (fun z => Value.int z _) (by repeat' split <;> omega)⟩
    | omega)))
theorem min_four_ints {a b c d : Int} {t u x y : Tok} {Q : Value → Shared → Prop} (hh : A.handled = none)
    (h : ∀ h' tk, (∀ d o, s.heap.get? d = some o → h'.get? d = some o) → Q (pick4 a b c d t u x y) { s with heap := h', toks := tk }) :
    wpAny (model prog w) A (call (.builtin "min") [.int a t, .int b u, .int c x, .int d y]) Q E s := by
  have hT : (s.heap.push { cls := .type "tuple", data := .seq #[.int a t, .int b u, .int c x, .int d y] }).IsTuple s.heap.objs.size (intItems #[(a, t), (b, u), (c, x), (d, y)]) := ⟨_, Heap.get?_push_size _ rfl, rfl, 0, by simp [intItems]⟩
  refine call_min_four (wpAny_pyIter_tuple hT ?_)
  have hsz : (s.heap.push { cls := .type "tuple", data := .seq #[.int a t, .int b u, .int c x, .int d y] }).objs.size = s.heap.objs.size + 1 := Heap.size_push ..
  refine ⟨_, [_, s.heap.objs.size], [_], _, _, _, _, rfl, Walks.tuple (A := A.in1) hh _ s.heap.objs.size (by rw [hsz]; exact Nat.ne_of_lt (Nat.lt_succ_self _)) (intItems #[(a, t), (b, u), (c, x), (d, y)]),
    ⟨⟨_, Heap.get?_push_size _ rfl, rfl, rfl⟩, hT.push _⟩, fun d hd => ?_, by simp [intItems], CmpOf.ints_lt (numAt #[(a, t), (b, u), (c, x), (d, y)]) (fun _ _ => intItems_at), fun v h' tk hP hk => ?_⟩
  · show d < ((s.heap.push _).push _).objs.size
    rw [Heap.size_push, hsz]
    rcases List.mem_cons.mp hd with rfl | hd
    · rw [hsz]; exact Nat.lt_succ_self _
    · rcases List.mem_cons.mp hd with rfl | hd
      · exact Nat.lt_succ_of_lt (Nat.lt_succ_self _)
      · cases hd
  · have hold : ∀ d o, s.heap.get? d = some o → h'.get? d = some o := fun d o e => by
      refine hk d o (fun hm => ?_) (Heap.get?_push_of_some _ (Heap.get?_push_of_some _ e))
      rcases List.mem_cons.mp hm with e1 | hm
      · have := Heap.lt_size e; rw [e1, hsz] at this; exact Nat.lt_irrefl _ (Nat.lt_of_succ_lt this)
      · cases hm
    have := h h' tk hold
    have hv : v = pick4 a b c d t u x y := by
      have hP' : (intItems #[(a, t), (b, u), (c, x), (d, y)])[argBest (fun i j => decide (numAt #[(a, t), (b, u), (c, x), (d, y)] i < numAt #[(a, t), (b, u), (c, x), (d, y)] j)) 3]? = some v := by
        have hsz2 : (intItems #[(a, t), (b, u), (c, x), (d, y)]).size - 1 = 3 := by simp [intItems]
        rw [← hsz2]; exact hP
      unfold pick4
      by_cases h1 : b < a
      · by_cases h2 : c < b
        · by_cases h3 : d < c
          · have e : argBest (fun i j => decide (numAt #[(a, t), (b, u), (c, x), (d, y)] i < numAt #[(a, t), (b, u), (c, x), (d, y)] j)) 3 = 3 := by simp [argBest, numAt, h1, h2, h3]
            rw [e] at hP'
            simpa [intItems, h1, h2, h3] using hP'.symm
          · have e : argBest (fun i j => decide (numAt #[(a, t), (b, u), (c, x), (d, y)] i < numAt #[(a, t), (b, u), (c, x), (d, y)] j)) 3 = 2 := by simp [argBest, numAt, h1, h2, h3]
            rw [e] at hP'
            simpa [intItems, h1, h2, h3] using hP'.symm
        · by_cases h3 : d < b
          · have e : argBest (fun i j => decide (numAt #[(a, t), (b, u), (c, x), (d, y)] i < numAt #[(a, t), (b, u), (c, x), (d, y)] j)) 3 = 3 := by simp [argBest, numAt, h1, h2, h3]
            rw [e] at hP'
            simpa [intItems, h1, h2, h3] using hP'.symm
          · have e : argBest (fun i j => decide (numAt #[(a, t), (b, u), (c, x), (d, y)] i < numAt #[(a, t), (b, u), (c, x), (d, y)] j)) 3 = 1 := by simp [argBest, numAt, h1, h2, h3]
            rw [e] at hP'
            simpa [intItems, h1, h2, h3] using hP'.symm
      · by_cases h2 : c < a
        · by_cases h3 : d < c
          · have e : argBest (fun i j => decide (numAt #[(a, t), (b, u), (c, x), (d, y)] i < numAt #[(a, t), (b, u), (c, x), (d, y)] j)) 3 = 3 := by simp [argBest, numAt, h1, h2, h3]
            rw [e] at hP'
            simpa [intItems, h1, h2, h3] using hP'.symm
          · have e : argBest (fun i j => decide (numAt #[(a, t), (b, u), (c, x), (d, y)] i < numAt #[(a, t), (b, u), (c, x), (d, y)] j)) 3 = 2 := by simp [argBest, numAt, h1, h2, h3]
            rw [e] at hP'
            simpa [intItems, h1, h2, h3] using hP'.symm
        · by_cases h3 : d < a
          · have e : argBest (fun i j => decide (numAt #[(a, t), (b, u), (c, x), (d, y)] i < numAt #[(a, t), (b, u), (c, x), (d, y)] j)) 3 = 3 := by simp [argBest, numAt, h1, h2, h3]
            rw [e] at hP'
            simpa [intItems, h1, h2, h3] using hP'.symm
          · have e : argBest (fun i j => decide (numAt #[(a, t), (b, u), (c, x), (d, y)] i < numAt #[(a, t), (b, u), (c, x), (d, y)] j)) 3 = 0 := by simp [argBest, numAt, h1, h2, h3]
            rw [e] at hP'
            simpa [intItems, h1, h2, h3] using hP'.symm
    rw [hv]; exact this
end
theorem call_min4 {X : Cx} (hc : X.calm = true) : CallR X (.builtin "min") rMin4 := by
  intro pins s σ H xs us Q I r h
  obtain ⟨i, j, k, l, rfl, q⟩ := h
  cases r with
  | cons r1 r => cases r with
    | cons r2 r => cases r with
      | cons r3 r => cases r with
        | cons r4 r =>
          cases r
          obtain ⟨t1, rfl⟩ := r1
          obtain ⟨t2, rfl⟩ := r2
          obtain ⟨t3, rfl⟩ := r3
          obtain ⟨t4, rfl⟩ := r4
          exact min_four_ints (I.ok.hd hc) fun h1 tk k1 => ⟨.int (min (min i j) (min k l)), H, I.kept k1, pick4_min _ _ _ _ _ _ _ _, q⟩
end Y

/-! the script, a new deal, the law itself -/
namespace Y
open PySem PySem.Spec PyProof.Rows L2
section
variable {α β γ : Type} {K : PySem.W.Frag} {σ : L2.St} {W W0 : Wo} {ta tb te : TE} {i j k n : Nat} {v : V} {D : Ends} {R : Nat → β → Prop}
theorem sqL_g {a : Addr} {xs : List V} (g : Gw ef0 W0 W) (h : SqL K W0.H a xs) : SqL K W.H a xs := Same.seq (fun b o q => g.keep b o q id) h
theorem ew_lenQ {a : Addr} {ns : List Int} (hv : σ[i]? = some (some (.ref a))) (h : SqL K W.H a (ns.map V.int)) : EvW ef0 (tCB (rLenS K) (tCons (tVar i) tNil)) σ W sI (WP.len (WP.pure ns)) := fun W1 g Q q =>
  ⟨_, hv, a, _, rfl, .inl (sqL_g g h), q _ W1 (Gw.refl g.ok) rfl (by rw [List.length_map]; exact rfl)⟩
theorem ew_ixQ {a : Addr} {ns : List Int} {w : WP Int} (hv : σ[i]? = some (some (.ref a))) (h : SqL K W.H a (ns.map V.int)) (hb : EvW ef0 tb σ W sI w) : EvW ef0 (tOp (rIxL K) (tVar i) tb) σ W sI (WP.ix (WP.pure ns) w) := fun W1 g Q q =>
  ⟨_, hv, hb W1 g _ (w.mono (fun n x hq y W2 g2 hn r => by
    cases r
    obtain ⟨v, hv', rv⟩ := atI_pair (rps_ints' W2 ns) (atI_ok hq.1)
    exact ⟨a, _, x, v, rfl, rfl, sqL_g (g.trans g2) h, hv', hq.2 _ W2 g2 hn rv⟩) q)⟩
/-- a new deal -/
def NewDeal (W W' : Wo) (v : V) : Prop := ∃ d : Dl, v = .ref d.p ∧ W.H d.p = none ∧ W.H d.l1 = none ∧ W.H d.l2 = none ∧ ¬ W'.F d.l2 ∧ d.At W'.H 0
theorem NewDeal.good {W W' : Wo} (h : NewDeal W W' v) (g : Good ef0 W') (hn : W'.n = 0) : ∃ d : Dl, v = .ref d.p ∧ Good (efD d) W' := by
  obtain ⟨d, e1, _, _, _, hF, hA⟩ := h
  refine ⟨d, e1, ⟨fun a f => ⟨fun (s : a = d.l2) => hF (s ▸ f), (g.F a f).2⟩, fun a (s : a = d.l2) => ?_, ?_⟩⟩
  · rw [s]; exact some_ne hA.n
  · show d.At W'.H W'.n
    rw [hn]; exact hA
/-- return [row, [0], total] -/
theorem st_retdeal {fp : List Addr} {ns : List Int} {vx : V} {w : WP Int} {f : Int → WP β} (g00 : Good ef0 W0) (g0 : Gw ef0 W0 W) (hv : σ[i]? = some (some vx)) (ho : Var (kL Int) W0 W fp ns vx) (ht : EvW ef0 tb σ W sI w) (hm : (w.bind f).run W.n R)
    (q : ∀ t v W1, Gw ef0 W0 W1 → W1.n = W0.n → NewDeal W0 W1 v → (f t).run W1.n R → D.rt v W1.H) : tRet (tLst (tCons (tVar i) (tCons (tLst (tCons (tC (.int 0)) tNil)) (tCons tb tNil)))) D σ W.H := by
  obtain ⟨⟨p, vs, e1, e2, hp, hr⟩, fr, nF⟩ := ho
  subst e1; subst e2
  have mp : p ∈ [p] := List.mem_singleton.mpr rfl
  refine ⟨_, hv, ⟨sz_le (n := 1) (by decide), fun l2 hl2 => ?_⟩⟩
  have ga := Gw.alloc (o := .lst [.int 0]) g0.ok hl2
  refine ht ⟨upd W.H l2 (.lst [.int 0]), W.F, W.n⟩ ga _ (w.mono (fun n t hq x W2 g2 hn r => ?_) hm)
  subst hn; cases r
  refine ⟨sz_le (n := 3) (by decide), fun p0 hp0 => ?_⟩
  have gb := Gw.alloc (o := .lst [.ref p, .ref l2, .int t]) g2.ok hp0
  have h2 : W2.H l2 = some (.lst [.int 0]) := g2.keep _ _ upd_same id
  have hp2 : W2.H p = some (.lst vs) := (ga.trans g2).keep _ _ hp id
  have n1 : p ≠ l2 := ne_of hp hl2
  have m1 : l2 ≠ p0 := ne_of h2 hp0
  have m2 : p ≠ p0 := ne_of hp2 hp0
  have h0 : W.H p0 = none := ga.live p0 (g2.live p0 hp0)
  have gg := g0.trans ((ga.trans g2).trans gb)
  refine q t (.ref p0) _ gg (show W0.n = _ from gg.n).symm ⟨⟨p0, p, l2, ns, t⟩, rfl, g0.live _ h0, fr p mp, g0.live _ hl2, fun z => ?_, ⟨upd_same, ?_, ?_, m1.symm, n1⟩⟩ hq
  · rcases g2.new l2 z with f | e5
    · exact (g0.ok.F l2 f).2 hl2
    · have : (upd W.H l2 (.lst [.int 0])) l2 = none := e5
      rw [upd_same] at this
      cases this
  · show (upd W2.H p0 _) p = _
    rw [upd_ne m2, hp2, rps_ints hr]
  · show (upd W2.H p0 _) l2 = _
    rw [upd_ne m1]; exact h2
end
def sp_deal (K : PySem.W.Frag) : Sp := fun vs H Q _ => ∃ (a : Addr) (ns : List Int) (W : Wo), vs = [.ref a] ∧ W.H = H ∧ Good ef0 W ∧ SqL K H a (ns.map V.int) ∧ ns.length ≤ 63 ∧ ∀ v W', Gw ef0 W W' → W'.n = W.n → NewDeal W W' v → Q v W'.H
def sp_law (K : PySem.W.Frag) : Sp := fun vs H Q _ => ∃ (a : Addr) (ns : List Int), vs = [.ref a] ∧ SqL K H a (ns.map V.int) ∧ ns.length ≤ 63 ∧ ∀ H', Q (.bl true) H'
theorem cast_n {α : Type} {w : WP α} {n : Nat} {Q : Nat → α → Prop} (e : n = 0) (h : w.run 0 Q) : w.run n Q := e ▸ h
/-- deal = _law_deal(script) -/
theorem q_deal {K : PySem.W.Frag} {σ : L2.St} {W : Wo} {E : XK} {i j : Nat} {a : Addr} {ns : List Int} {D : Ends} {tz : TS} (hv : σ[i]? = some (some (.ref a))) (h : SqL K W.H a (ns.map V.int)) (hl : ns.length ≤ 63) (g : Good ef0 W) (hn : W.n = 0)
    (q : ∀ d W1, Good (efD d) W1 → W1.n = 0 → tz D (σ.set j (some (.ref d.p))) W1.H) : tSeq (tAsg (tCall (sp_deal K) [] E (tCons (tVar i) tNil)) (gName j)) tz D σ W.H :=
  ⟨_, hv, a, ns, W, rfl, rfl, g, h, hl, fun v W' g' hn' nd => by
    obtain ⟨d, e1, gd⟩ := nd.good g'.ok (hn'.trans hn)
    subst e1
    exact q d W' gd (hn'.trans hn)⟩
end Y

/-! lists and tuples of things of different kinds; freezing -/
namespace Y
open PySem PySem.Spec PyProof.Rows L2
@[ext] structure HL2 (α0 α1 : Type) where
  a : α0
  b : α1
instance {α0 α1 : Type} [PyI α0] [PyI α1] : PyI (HL2 α0 α1) := ⟨fun W c v => ∃ p x0 x1, v = .ref p ∧ W.F p ∧ W.H p = some (.lst [x0, x1]) ∧ Rp W c.a x0 ∧ Rp W c.b x1, fun t ⟨p, x0, x1, e1, f, e2, h0, h1⟩ => ⟨p, x0, x1, e1, t.f _ f, t.c _ _ f e2, PyI.st t h0, PyI.st t h1⟩⟩
instance {α0 α1 : Type} [Inhabited α0] [Inhabited α1] : Inhabited (HL2 α0 α1) := ⟨⟨default, default⟩⟩
@[ext] structure HL3 (α0 α1 α2 : Type) where
  a : α0
  b : α1
  c : α2
instance {α0 α1 α2 : Type} [PyI α0] [PyI α1] [PyI α2] : PyI (HL3 α0 α1 α2) := ⟨fun W c v => ∃ p x0 x1 x2, v = .ref p ∧ W.F p ∧ W.H p = some (.lst [x0, x1, x2]) ∧ Rp W c.a x0 ∧ Rp W c.b x1 ∧ Rp W c.c x2, fun t ⟨p, x0, x1, x2, e1, f, e2, h0, h1, h2⟩ => ⟨p, x0, x1, x2, e1, t.f _ f, t.c _ _ f e2, PyI.st t h0, PyI.st t h1, PyI.st t h2⟩⟩
instance {α0 α1 α2 : Type} [Inhabited α0] [Inhabited α1] [Inhabited α2] : Inhabited (HL3 α0 α1 α2) := ⟨⟨default, default, default⟩⟩
@[ext] structure HL4 (α0 α1 α2 α3 : Type) where
  a : α0
  b : α1
  c : α2
  d : α3
instance {α0 α1 α2 α3 : Type} [PyI α0] [PyI α1] [PyI α2] [PyI α3] : PyI (HL4 α0 α1 α2 α3) := ⟨fun W c v => ∃ p x0 x1 x2 x3, v = .ref p ∧ W.F p ∧ W.H p = some (.lst [x0, x1, x2, x3]) ∧ Rp W c.a x0 ∧ Rp W c.b x1 ∧ Rp W c.c x2 ∧ Rp W c.d x3, fun t ⟨p, x0, x1, x2, x3, e1, f, e2, h0, h1, h2, h3⟩ => ⟨p, x0, x1, x2, x3, e1, t.f _ f, t.c _ _ f e2, PyI.st t h0, PyI.st t h1, PyI.st t h2, PyI.st t h3⟩⟩
instance {α0 α1 α2 α3 : Type} [Inhabited α0] [Inhabited α1] [Inhabited α2] [Inhabited α3] : Inhabited (HL4 α0 α1 α2 α3) := ⟨⟨default, default, default, default⟩⟩
@[ext] structure T4 (α0 α1 α2 α3 : Type) where
  a : α0
  b : α1
  c : α2
  d : α3
instance {α0 α1 α2 α3 : Type} [PyI α0] [PyI α1] [PyI α2] [PyI α3] : PyI (T4 α0 α1 α2 α3) := ⟨fun W c v => ∃ p x0 x1 x2 x3, v = .ref p ∧ W.H p = some (.tup [x0, x1, x2, x3]) ∧ Rp W c.a x0 ∧ Rp W c.b x1 ∧ Rp W c.c x2 ∧ Rp W c.d x3, fun t ⟨p, x0, x1, x2, x3, e1, e2, h0, h1, h2, h3⟩ => ⟨p, x0, x1, x2, x3, e1, t.t _ _ e2, PyI.st t h0, PyI.st t h1, PyI.st t h2, PyI.st t h3⟩⟩
instance {α0 α1 α2 α3 : Type} [Inhabited α0] [Inhabited α1] [Inhabited α2] [Inhabited α3] : Inhabited (T4 α0 α1 α2 α3) := ⟨⟨default, default, default, default⟩⟩
@[ext] structure T5 (α0 α1 α2 α3 α4 : Type) where
  a : α0
  b : α1
  c : α2
  d : α3
  e : α4
instance {α0 α1 α2 α3 α4 : Type} [PyI α0] [PyI α1] [PyI α2] [PyI α3] [PyI α4] : PyI (T5 α0 α1 α2 α3 α4) := ⟨fun W c v => ∃ p x0 x1 x2 x3 x4, v = .ref p ∧ W.H p = some (.tup [x0, x1, x2, x3, x4]) ∧ Rp W c.a x0 ∧ Rp W c.b x1 ∧ Rp W c.c x2 ∧ Rp W c.d x3 ∧ Rp W c.e x4, fun t ⟨p, x0, x1, x2, x3, x4, e1, e2, h0, h1, h2, h3, h4⟩ => ⟨p, x0, x1, x2, x3, x4, e1, t.t _ _ e2, PyI.st t h0, PyI.st t h1, PyI.st t h2, PyI.st t h3, PyI.st t h4⟩⟩
instance {α0 α1 α2 α3 α4 : Type} [Inhabited α0] [Inhabited α1] [Inhabited α2] [Inhabited α3] [Inhabited α4] : Inhabited (T5 α0 α1 α2 α3 α4) := ⟨⟨default, default, default, default, default⟩⟩
/-- a new list frozen at once -/
theorem ew_frz {α : Type} [PyI α] {e : Ef} {σ : L2.St} {W : Wo} {te : TE} {w : WP (List α)} (h : EvW e te σ W (sN (kL α)) w) : EvW e te σ W sI (w.bind fun xs => WP.pure (⟨xs⟩ : Ls α)) := fun W1 g Q q => h W1 g Q (w.mono (fun n xs hq v W2 g2 hn ⟨fp, ⟨p, vs, e1, e2, hp, hr⟩, hf⟩ => by
  subst e1
  have m := hf p (List.mem_singleton.mpr rfl)
  have gf := Gw.frz (fp := [p]) g.ok g2 (fun a ma => by cases mem_one ma; exact m.1) (fun a ma => by cases mem_one ma; exact some_ne hp)
  exact hq v (W2.frz [p]) gf hn ⟨p, vs, e2, .inr (List.mem_singleton.mpr rfl), hp, Rps.st St.frz hr⟩) q)
end Y

/-! None or a value; dicts asked; isinstance -/
namespace Y
open PySem PySem.Spec PyProof.Rows L2
/-- never None -/
class NN (α : Type) [PyI α] : Prop where
  nn : ∀ {W : Wo} {a : α} {v : V}, Rp W a v → v ≠ .non
instance : NN Int := ⟨fun h z => by cases h; cases z⟩
instance : NN Bool := ⟨fun h z => by cases h; cases z⟩
instance : NN Str := ⟨fun h z => by cases h; cases z⟩
instance {α β : Type} [PyI α] [PyI β] : NN (α × β) := ⟨fun ⟨p, x, y, h1, _⟩ z => by rw [h1] at z; cases z⟩
instance {α : Type} [PyI α] : NN (List α) := ⟨fun ⟨p, vs, h1, _⟩ z => by rw [h1] at z; cases z⟩
instance {α : Type} [PyI α] : NN (Ls α) := ⟨fun ⟨p, vs, h1, _⟩ z => by rw [h1] at z; cases z⟩
instance {α β γ : Type} [PyI α] [PyI β] [PyI γ] : NN (Tri α β γ) := ⟨fun ⟨p, x, y, w, h1, _⟩ z => by rw [h1] at z; cases z⟩
instance {α β : Type} [PyI α] [PyI β] : NN (HL2 α β) := ⟨fun ⟨p, x, y, h1, _⟩ z => by rw [h1] at z; cases z⟩
namespace WP
variable {α β γ : Type}
abbrev some' (w : WP α) : WP (Option α) := w.bind fun x => pure (some x)
abbrev isN (w : WP (Option α)) : WP Bool := w.bind fun o => pure o.isNone
abbrev notN (w : WP (Option α)) : WP Bool := w.bind fun o => pure o.isSome
abbrev the (w : WP (Option α)) [Inhabited α] : WP α := w.bind fun o => req (o.isSome = true) (o.getD default)
abbrev look (d : WP (List (Sq × β))) (q : WP Sq) : WP (Option β) := b2 d q fun d x => pure (lookK d x)
abbrev look2 (d : WP (List (Sq × β))) (q : WP Sq) (z : WP β) : WP β := b3 d q z fun d x z => pure ((lookK d x).getD z)
abbrev keys (d : WP (List (Sq × β))) : WP (List Sq) := d.bind fun d => pure (d.map (·.1))
end WP
section
variable {α β γ : Type} {K : PySem.W.Frag} {e : Ef} {σ : L2.St} {W : Wo} {ta tb te tc td ty tx : TE} {t u : TT} {i j k m n : Nat} {v : V}
theorem ew_some' [PyI α] [NN α] {w : WP α} (h : EvW e te σ W sI w) : EvW e te σ W sI (WP.some' w) := fun W1 g Q q => h W1 g Q (w.mono (fun n a hq v W2 g2 hn r => hq v W2 g2 hn ⟨NN.nn r, r⟩) q)
theorem ew_isN [PyI α] {w : WP (Option α)} (h : EvW e te σ W sI w) : EvW e (tIsN te) σ W sI (WP.isN w) := fun W1 g Q q => h W1 g _ (w.mono (fun n o hq v W2 g2 hn r => by
  cases o with
  | none => cases r; exact hq _ W2 g2 hn rfl
  | some a => exact hq _ W2 g2 hn (by rw [decide_eq_false r.1]; exact rfl)) q)
theorem ew_notN [PyI α] {w : WP (Option α)} (h : EvW e te σ W sI w) : EvW e (tNotN te) σ W sI (WP.notN w) := fun W1 g Q q => h W1 g _ (w.mono (fun n o hq v W2 g2 hn r => by
  cases o with
  | none => cases r; exact hq _ W2 g2 hn rfl
  | some a => exact hq _ W2 g2 hn (by rw [decide_eq_false r.1]; exact rfl)) q)
/-- what is surely there -/
theorem ew_the [PyI α] [Inhabited α] {w : WP (Option α)} (h : EvW e te σ W sI w) : EvW e te σ W sI (WP.the w) := fun W1 g Q q => h W1 g Q (w.mono (fun n o hq v W2 g2 hn r => by
  cases o with
  | none => cases hq.1
  | some a => exact hq.2 v W2 g2 hn r.2) q)
theorem ew_look2 [PyI β] {w1 : WP (List (Sq × β))} {w2 : WP Sq} {w3 : WP β} (hd : EvW e td σ W (sR (kDr β)) w1) (hk : EvW e ty σ W sI w2) (hx : EvW e tx σ W sI w3) : EvW e (tDGet2 td ty tx) σ W sI (WP.look2 w1 w2 w3) := fun W1 g Q q =>
  hd W1 g _ (w1.mono (fun n d hq v W2 g2 hn r2 => by
    subst hn
    obtain ⟨fp, ⟨p, ks, ef, h2, h3, h4⟩, hS⟩ := r2
    subst h2
    refine ⟨p, rfl, .inr ⟨_, h3⟩, hk W2 (g.trans g2) _ (w2.mono (fun n x hq y W3 g3 hn r => ?_) hq)⟩
    subst hn
    refine hx W3 ((g.trans g2).trans g3) _ (w3.mono (fun n z hq vz W4 g4 hn rz => ?_) hq)
    obtain ⟨b, e1, e2⟩ := rp_key (PyI.st g4.st r)
    subst e1
    have h3' := Rd.kp (fun o h => (g3.trans g4).keep _ _ h (hS p (by rw [ef]; exact List.mem_singleton.mpr rfl))) h3
    refine ⟨_, DGet.r h3' e2, hq _ W4 ((g2.trans g3).trans g4) hn ?_⟩
    rcases look_kv h4 x with ⟨a1, a2⟩ | ⟨b1, v1, a1, a2, rv⟩
    · rw [a1, a2]; exact rz
    · rw [a1, a2]; exact PyI.st (g3.trans g4).st rv) q)
abbrev rListT : List V → Hp → VK → Prop := fun xs H Q => ∃ d kvs, xs = [V.ref d] ∧ Rd H d (.dT kvs) ∧ ∀ p bs, H p = none → IsKeys H kvs bs → Q (.ref p) (upd H p (.lst (bs.map V.ref)))
theorem rps_keys [PyI β] {W W' : Wo} : ∀ {kvs : List (Sq × β)} {ks : List (List Key × V)} {bs : List Addr}, Paired (Kv W') kvs ks → IsKeys W.H ks bs → Rps W (kvs.map (·.1)) (bs.map V.ref)
  | [], _, _, .nil, h => by cases h; exact .nil
  | (q, b) :: kvs, (k, x) :: ks, _, .cons r t, h => by
    cases h with
    | @cons a b as bs h' t' =>
      refine .cons ⟨b, _, _, rfl, ?_, rfl, rfl⟩ (rps_keys t t')
      have e1 : k = kSq q := r.1
      rw [e1] at h'
      exact h'
theorem ew_keys [PyI β] {w : WP (List (Sq × β))} (hd : EvW e td σ W (sR (kDr β)) w) : EvW e (tCB rListT (tCons td tNil)) σ W (sN (kL Sq)) (WP.keys w) := ew_cb1 hd fun W1 W2 d x g ⟨fp, ⟨p, ks, _, h2, h3, h4⟩, _⟩ Q q => by
  subst h2
  exact ⟨p, ks, rfl, h3, fun l bs hl hk => q _ _ (Gw.alloc g.ok hl) rfl (new_L (Gw.refl g.ok) hl (rps_keys h4 hk))⟩
end
end Y

/-! texts gone through, written and read numbers, all and any, least and greatest of a list, copies -/
namespace Y
open PySem PySem.Spec PyProof.Rows L2
def signs (z : Str) : List Str := z.cps.toList.map fun c => ⟨#[c]⟩
namespace WP
variable {α β γ : Type}
abbrev all (w : WP (List Bool)) : WP Bool := w.bind fun bs => pure (bs.all id)
abbrev signs (w : WP Str) : WP (List Str) := w.bind fun z => pure (Y.signs z)
abbrev minL (w : WP (List Int)) : WP Int := w.bind fun ns => (req (0 < ns.length) ns).bind fun ns => any fun m => m ∈ ns ∧ ∀ y ∈ ns, m ≤ y
abbrev maxL (w : WP (List Int)) : WP Int := w.bind fun ns => (req (0 < ns.length) ns).bind fun ns => any fun m => m ∈ ns ∧ ∀ y ∈ ns, y ≤ m
end WP
section
variable {α β γ s : Type} {X : Cx} {K : PySem.W.Frag} {e : Ef} {σ : L2.St} {W : Wo} {ta tb te tc tl to : TE} {t u : TT} {i j k m n : Nat} {v : V} {vs0 : List Nat} {g : TG} {D : Ends} {tu tz : TS} {R : Nat → β → Prop}
theorem ew_minL {w : WP (List Int)} (ha : EvW e ta σ W (sR (kL Int)) w) : EvW e (tCB (rMin K) (tCons ta tNil)) σ W sI (WP.minL w) := ew_cb1 ha fun W1 W2 ns x g ⟨_, ⟨p, vs, _, h1, h2, h3⟩, _⟩ Q q => by
  subst h1
  cases rps_ints h3
  exact ⟨p, ns, rfl, SqL.of h2, q.1, fun m h4 h5 => q.2 m ⟨h4, h5⟩ _ W2 (Gw.refl g.ok) rfl rfl⟩
/-- xs[::-1] -/
theorem ew_revL [PyI α] {w : WP (List α)} (ha : EvW e ta σ W (sR (kL α)) w) : EvW e (tRevL K ta) σ W (sN (kL α)) (w.bind fun xs => WP.pure xs.reverse) := fun W1 g Q q => ha W1 g _ (w.mono (fun n xs hq v W2 g2 hn ⟨_, ⟨p, vs, _, h1, h2, h3⟩, _⟩ => by
  subst h1; subst hn
  exact ⟨p, vs, rfl, SqL.of h2, fun l hl => hq _ _ (g2.al hl) rfl (new_L g2 hl h3.revA)⟩) q)
end
end Y

/-! defs handed over as arguments -/
namespace Y
open PySem PySem.Spec PyProof.Rows L2
/-- a def at its address that keeps its promise -/
structure CalAt (P : Program) (w : World) (K : PySem.W.Frag) (mg : Str → Option Value) (base : Heap) (k : Nat) (f : Addr) (sp : Sp) : Prop where
  ex : ∃ (fd : FuncData) (ps : List Str), FnOk P w K mg base CX0 k f fd ps sp ∧ PySem.W.keepIn K (.ref f) = true ∧ Binds K fd ps []
section
variable {α β γ φ : Type} {K : PySem.W.Frag} {e : Ef} {σ : L2.St} {W : Wo} {E : XK} {t0 t1 : TE} {ta : TA} {i : Nat} {f : Addr} {sp : Sp}
end
section
variable {α β γ s : Type} {K : PySem.W.Frag} {e : Ef} {σ : L2.St} {W : Wo} {tl : TE} {D : Ends} {tu tz : TS} {R : Nat → β → Prop}
theorem st_forF [PyI α] {gt : TG} {T : α → Wo → L2.St → L2.St → Prop} (ht : Tk gt T) {w : WP (Ls α)} {body : α → s → WP (Ctl s γ)} {f : s → WP β} {r : γ → WP β} {x0 : s} (h : EvW e tl σ W sI w) (g : Good e W) (hm : ((w.bind fun x => WP.pure x.l).bind fun xs => WP.after (WP.loop body xs x0) f r).run W.n R)
    (q : ∀ (xs : List α) W1, Gw e W W1 → ∃ INV : s → L2.St → Wo → Prop, INV x0 σ W1 ∧ (∀ y σ' W', INV y σ' W' → St W1 W') ∧ Turn INV body r R D tu T ∧ ∀ y σ' W', INV y σ' W' → (f y).run W'.n R → D.nx σ' W'.H) : tFor (iList K tl) gt tu D σ W.H :=
  h W (Gw.refl g) _ (w.mono (fun n xs hm v W1 g1 hn ⟨p, vs, e2, hF, hp, hr⟩ => by
    subst hn; subst e2
    obtain ⟨INV, h0, keep, step, hd⟩ := q xs.l W1 g1
    obtain ⟨Pv, p0, pk, ps, pd⟩ := pv_loop (D := D) INV h0 hm hd
    refine ⟨p, rfl, ⟨vs, SqL.of hp⟩, for_list (xs := vs) Pv p0 (fun i σ' H' _ q => ?_) (fun i x σ' H' hi q => ?_) (by rw [← Paired.length hr]; exact pd)⟩
    · obtain ⟨y, W', e1, q'⟩ := pk i σ' H' q
      subst e1
      exact SqL.of ((keep y σ' W' q').c _ _ hF hp)
    · obtain ⟨a, ha, ra⟩ := hr.getV hi
      obtain ⟨y, W', R', e1, q1, q2, q3, q4, q5⟩ := ps i σ' H' a ha q
      subst e1
      exact ht a x W' σ' _ (PyI.st (keep y σ' W' q1) ra) fun s2 h2 => step a y σ' s2 W' R' _ h2 q1 q2 q3 q4 q5) hm)
end
end Y

/-! rules that name the written part, for blocks of comprehensions -/
namespace Y
open PySem PySem.Spec PyProof.Rows L2
section
variable {X : Cx} {K : PySem.W.Frag}
theorem ix_tupK (h : X.K = K) : IxR X (rIxT K) := h ▸ ix_tup
theorem call_len_seqK (h : X.K = K) : CallR X (Value.builtin "len") (rLenS K) := h ▸ call_len_seq
end
end Y

/-! == of data of any depth -/
namespace Y
open PySem PySem.Spec PyProof.Rows L2
class Dat (α : Type) [PyI α] where
  dat : α → PyData
  dp : ∀ {K : PySem.W.Frag} {W : Wo} {a : α} {v : V}, Rp W a v → Dp K W.H v (dat a)
open Dat (dat)
instance : Dat Int := ⟨fun i => .int i, fun h => by cases h; exact .int _⟩
instance : Dat Bool := ⟨fun i => .bool i, fun h => by cases h; exact .bl _⟩
instance : Dat Str := ⟨fun i => .str i, fun h => by cases h; exact .str _⟩
instance : Dat Unit := ⟨fun _ => .none, fun h => by cases h; exact .non⟩
instance {α : Type} [PyI α] [Dat α] : Dat (Option α) := ⟨fun o => match o with | none => .none | some a => dat a, fun {K W o v} h => by
  cases o with
  | none => cases h; exact .non
  | some a => exact Dat.dp h.2⟩
instance {α β : Type} [PyI α] [PyI β] [Dat α] [Dat β] : Dat (α × β) := ⟨fun c => .tuple [dat c.1, dat c.2], fun ⟨p, x, y, h1, h2, h3, h4⟩ => by subst h1; exact .tup (SqT.of h2) (.cons (Dat.dp h3) (.cons (Dat.dp h4) .nil))⟩
theorem dpAll {α : Type} [PyI α] [Dat α] {K : PySem.W.Frag} {W : Wo} {xs : List α} {vs : List V} (h : Rps W xs vs) : DpAll K W.H vs (xs.map dat) := by
  induction h with
  | nil => exact .nil
  | cons r t ih => exact .cons (Dat.dp r) ih
instance {α : Type} [PyI α] [Dat α] : Dat (List α) := ⟨fun xs => .tuple (xs.map dat), fun ⟨p, vs, h1, h2, h3⟩ => by subst h1; exact .tup (SqT.of h2) (dpAll h3)⟩
instance {α : Type} [PyI α] [Dat α] : Dat (Ls α) := ⟨fun xs => .list (xs.l.map dat), fun ⟨p, vs, h1, _, h2, h3⟩ => by subst h1; exact .lst (SqL.of h2) (dpAll h3)⟩
namespace WP
variable {α β : Type}
abbrev eqD [PyI α] [PyI β] [Dat α] [Dat β] (a : WP α) (b : WP β) : WP Bool := b2 a b fun x y => req (SeqAt.shaped (dat x) = true ∧ SeqAt.shaped (dat y) = true) (PyData.eqv (dat x) (dat y))
abbrev neD [PyI α] [PyI β] [Dat α] [Dat β] (a : WP α) (b : WP β) : WP Bool := b2 a b fun x y => req (SeqAt.shaped (dat x) = true ∧ SeqAt.shaped (dat y) = true) (!PyData.eqv (dat x) (dat y))
abbrev eqLD [PyI α] [PyI β] [Dat α] [Dat β] (a : WP (List α)) (b : WP (List β)) : WP Bool := b2 a b fun x y => req (SeqAt.shaped (.list (x.map dat)) = true ∧ SeqAt.shaped (.list (y.map dat)) = true) (PyData.eqv (.list (x.map dat)) (.list (y.map dat)))
end WP
section
variable {α β : Type} [PyI α] [PyI β] [Dat α] [Dat β] {K : PySem.W.Frag} {e : Ef} {σ : L2.St} {W : Wo} {ta tb : TE}
theorem ew_eqD {w1 : WP α} {w2 : WP β} (ha : EvW e ta σ W sI w1) (hb : EvW e tb σ W sI w2) : EvW e (tOp (rEqD K) ta tb) σ W sI (WP.eqD w1 w2) :=
  ew_op2 ha hb fun W2 a b x y r1 r2 hc Q q => ⟨_, _, Dat.dp r1, Dat.dp r2, hc.1, hc.2, q _ _ (Same.refl _) rfl⟩
theorem ew_neD {w1 : WP α} {w2 : WP β} (ha : EvW e ta σ W sI w1) (hb : EvW e tb σ W sI w2) : EvW e (tOp (rNeD K) ta tb) σ W sI (WP.neD w1 w2) :=
  ew_op2 ha hb fun W2 a b x y r1 r2 hc Q q => ⟨_, _, Dat.dp r1, Dat.dp r2, hc.1, hc.2, q _ _ (Same.refl _) rfl⟩
/-- of lists that may be read -/
theorem ew_eqLD {w1 : WP (List α)} {w2 : WP (List β)} (ha : EvW e ta σ W (sR (kL α)) w1) (hb : EvW e tb σ W (sR (kL β)) w2) : EvW e (tOp (rEqD K) ta tb) σ W sI (WP.eqLD w1 w2) :=
  ew_op ha hb fun W1 W2 xs ys x y g ⟨_, ⟨p, vs, _, h1, h2, h3⟩, _⟩ ⟨_, ⟨p', ws, _, q1, q2, q3⟩, _⟩ Q q => by
    subst h1; subst q1
    exact ⟨_, _, .lst (SqL.of h2) (dpAll h3), .lst (SqL.of q2) (dpAll q3), q.1.1, q.1.2, q.2 _ W2 (Gw.refl g.ok) rfl rfl⟩
end
section
variable {X : Cx} {K : PySem.W.Frag}
end
end Y

/-! sources of items, and comprehensions of two clauses -/
namespace Y
open PySem PySem.Spec PyProof.Rows L2
/-- J gives xs, one after another, and changes nothing, as long as what lies at fp stays -/
def Iter {α : Type} (W2 : Wo) (fp : List Addr) (J : It) (xs : List α) (val : Wo → α → V → Prop) : Prop := ∀ W', St W2 W' → Kp fp W2 W' → (∀ i, i < xs.length → J.go i W'.H) ∧ J.stop xs.length W'.H ∧ ∀ i x H', i < xs.length → J.yld i W'.H x H' → H' = W'.H ∧ ∃ a, xs[i]? = some a ∧ val W' a x
/-- what wi goes through; fp is new, or of old addresses that are told -/
def Src {α : Type} (e : Ef) (wi : TI) (σ : L2.St) (W : Wo) (Bs : Addr → Prop) (val : Wo → α → V → Prop) (w : WP (List α)) : Prop :=
  ∀ W1, Gw e W W1 → ∀ R : It → Hp → Prop, w.run W1.n (fun n xs => ∀ W2 J fp, Gw e W1 W2 → W2.n = n → (∀ a ∈ fp, (W1.H a = none ∨ Bs a) ∧ ¬ e.S a ∧ W2.H a ≠ none) → Iter W2 fp J xs val → R J W2.H) → wi σ W1.H R
section
variable {α β γ : Type} {K : PySem.W.Frag} {e : Ef} {σ : L2.St} {W W2 : Wo} {Bs : Addr → Prop} {ta tb te tl : TE} {t u : TT} {i j k m n : Nat} {v : V} {g g1 : TG} {vs0 vs1 : List Nat}
theorem iter_L [PyI α] {p : Addr} {vs : List V} {xs : List α} (hp : W2.H p = some (.lst vs)) (hr : Rps W2 xs vs) : Iter W2 [p] (Itl K p) xs (fun W a x => Rp W a x) := fun W' s kp => by
  have hp' := SqL.of (K := K) (kp p (List.mem_singleton.mpr rfl) _ hp)
  have el := Paired.length hr
  refine ⟨fun i hi => ⟨vs, vs[i], hp', by simp [el ▸ hi]⟩, ⟨vs, hp', by omega⟩, fun i x H' hi y => ⟨y.1, ?_⟩⟩
  obtain ⟨a, ha, ra⟩ := hr.getV (y.2 vs hp')
  exact ⟨a, ha, PyI.st s ra⟩
theorem src_N [PyI α] {w : WP (List α)} (h : EvW e tl σ W (sN (kL α)) w) : Src e (iList K tl) σ W Bs (fun W a x => Rp W a x) w := fun W1 g R hm => h W1 g _ (w.mono (fun n xs hq v W2 g2 hn ⟨fp, ⟨p, vs, e1, e2, hp, hr⟩, hS⟩ => by
  subst hn; subst e2; subst e1
  exact ⟨p, rfl, ⟨vs, SqL.of hp⟩, hq W2 _ [p] g2 rfl (fun a m => by cases mem_one m; exact ⟨.inl (hS p m).1, (hS p m).2.1, some_ne hp⟩) (iter_L hp hr)⟩) hm)
theorem src_R {w : WP Int} (h : EvW e ta σ W sI w) : Src e (iRng1 (tCons ta tNil)) σ W Bs (fun W a x => Rp W a x) (WP.range1 w) := fun W1 g R hm => h W1 g _ (w.mono (fun n k hq v W2 g2 hn r => by
  subst hn; cases r
  obtain ⟨⟨b1, b2⟩, hq⟩ := hq
  have el : (rangeL 0 k).length = k.toNat := by rw [rangeL_len, Int.sub_zero]
  refine ⟨k, rfl, by omega, by omega, hq W2 _ [] g2 rfl (fun _ m => nomatch m) fun W' _ _ => ⟨fun i hi => by rw [el] at hi; exact hi, by rw [el]; exact Nat.le_refl _, fun i x H' hi y => ⟨y.1, _, rangeL_get (by rw [el] at hi; rw [Int.sub_zero]; exact hi), y.2⟩⟩⟩) hm)
end
theorem wipe1 {s : L2.St} {j : Nat} {x : V} : wipe ((wipe s [j]).set j (some x)) [j] = wipe s [j] := by simp [wipe]
namespace WP
variable {α β γ : Type}
def comp1 (c : β → WP Bool) (f : β → WP γ) : Nat → List β → WP (List γ)
  | _, [] => pure []
  | k, b :: bs => (c b).bind fun t => cond t ((f b).bind fun y => (req (k < 100000) y).bind fun y => (comp1 c f (k + 1) bs).bind fun ys => pure (y :: ys)) (comp1 c f k bs)
def comp2 (c : α → WP Bool) (w : α → WP (List β)) (c1 : α → β → WP Bool) (f : α → β → WP γ) : Nat → List α → WP (List γ)
  | _, [] => pure []
  | k, a :: as => (c a).bind fun t => cond t ((w a).bind fun bs => (comp1 (c1 a) (f a) k bs).bind fun zs => (comp2 c w c1 f (k + zs.length) as).bind fun r => pure (zs ++ r)) (comp2 c w c1 f k as)
abbrev lc2 (w : WP (List α)) (c : α → WP Bool) (w1 : α → WP (List β)) (c1 : α → β → WP Bool) (f : α → β → WP γ) : WP (List γ) := w.bind fun xs => comp2 c w1 c1 f 0 xs
end WP
/-- the new list at Dl holds ys, all else has grown since W2 -/
structure Acc {γ : Type} [PyI γ] (e : Ef) (Dl : Addr) (W2 W' : Wo) (ys : List γ) : Prop where
  g : Gw e W2 W'
  h : ∃ vs', W'.H Dl = some (.lst vs') ∧ Rps W' ys vs'
  f : ¬ W'.F Dl
theorem Acc.go {γ : Type} [PyI γ] {e : Ef} {Dl : Addr} {W2 W' W3 : Wo} {ys : List γ} (o : Acc e Dl W2 W' ys) (nS : ¬ e.S Dl) (g : Gw e W' W3) : Acc e Dl W2 W3 ys := by
  obtain ⟨vs', h1, h2⟩ := o.h
  exact ⟨o.g.trans g, ⟨vs', g.keep _ _ h1 nS, Rps.st g.st h2⟩, fun z => (g.new Dl z).elim o.f (some_ne h1)⟩
theorem Acc.snoc {γ : Type} [PyI γ] {e : Ef} {Dl : Addr} {W2 W' : Wo} {ys : List γ} {y : γ} {v : V} (o : Acc e Dl W2 W' ys) (hg : Good e W2) (hD : W2.H Dl = none) (r : Rp W' y v) : ∃ vs', W'.H Dl = some (.lst vs') ∧ vs'.length = ys.length ∧ Acc e Dl W2 (W'.set Dl (.lst (vs' ++ [v]))) (ys ++ [y]) ∧ St W' (W'.set Dl (.lst (vs' ++ [v]))) := by
  obtain ⟨vs', h1, h2⟩ := o.h
  have s := St.mut (u := .lst (vs' ++ [v])) h1 (fun _ z => by cases z) o.f
  exact ⟨vs', h1, (Paired.length h2).symm, ⟨Gw.mut hg o.g hD h1 (fun _ z => by cases z) o.f, ⟨_, upd_same, Paired.snoc (Rps.st s h2) (PyI.st s r)⟩, o.f⟩, s⟩
section
variable {α β γ : Type} [PyI γ] {K : PySem.W.Frag} {e : Ef} {σ : L2.St} {W W2 : Wo} {ta tb te tl : TE} {t t1 : TT} {i j k m n : Nat} {v : V} {g g1 : TG} {vs0 vs1 : List Nat} {wi wi1 : TI}
/-- the inner clause -/
theorem inner {val1 : Wo → β → V → Prop} {T1 : β → Wo → L2.St → Prop} {c1 : β → WP Bool} {f : β → WP γ} {s2 : L2.St} {Dl : Addr} {W4 : Wo} {J1 : It} {bs : List β} {fp : List Addr} {Nx : Hp → Prop} {QQ1 : Nat → List γ → Prop} {ys : List γ}
    (hg : Good e W2) (hD : W2.H Dl = none) (ht1 : Takes val1 g1 s2 vs1 T1) (hw1 : ∀ b W' s3, T1 b W' s3 → wipe s3 vs1 = wipe s2 vs1)
    (hc1 : ∀ b W3 s3, Gw e W2 W3 → St W4 W3 → T1 b W3 s3 → EvT e t1 s3 W3 (c1 b)) (he : ∀ b W3 s3, Gw e W2 W3 → St W4 W3 → T1 b W3 s3 → EvW e te s3 W3 sI (f b))
    (ok : Acc e Dl W2 W4 ys) (hJ : Iter W4 fp J1 bs val1) (hfp : ∀ a ∈ fp, a ≠ Dl ∧ ¬ e.S a) (hm : (WP.comp1 c1 f ys.length bs).run W4.n fun n r => QQ1 n (ys ++ r)) (hend : ∀ W5 zs, Acc e Dl W2 W5 zs → Kp fp W4 W5 → QQ1 W5.n zs → Nx W5.H) :
    ∃ W1 : Nat → Nat → Hp → Prop, (∃ m, W1 0 m W4.H) ∧ ∀ j k H, W1 j k H → (J1.stop j H ∧ Nx H) ∨ (J1.go j H ∧ ∃ Nx1 : Hp → Prop, (∀ H', Nx1 H' → ∃ k', k' < k ∧ W1 (j + 1) k' H') ∧ ∀ x H', J1.yld j H x H' → g1 x (wipe s2 vs1) H' fun σ3 H5 => wipe σ3 vs1 = wipe s2 vs1 ∧ t1 σ3 H5 fun b H6 =>
      if b = true then te σ3 H6 fun y H7 => ∃ acc, H7 Dl = some (.lst acc) ∧ acc.length < sizeLine ∧ Nx1 (upd H7 Dl (.lst (acc ++ [y]))) else Nx1 H6) := by
  have nS : ¬ e.S Dl := fun s => hg.S Dl s hD
  let Pv : Nat → Hp → Prop := fun j H => ∃ W5 zs, W5.H = H ∧ Acc e Dl W2 W5 zs ∧ St W4 W5 ∧ Kp fp W4 W5 ∧ (WP.comp1 c1 f zs.length (bs.drop j)).run W5.n (fun n r => QQ1 n (zs ++ r))
  refine ⟨fun j m H => m = bs.length - j ∧ j ≤ bs.length ∧ Pv j H, ⟨bs.length, by simp, Nat.zero_le _, W4, ys, rfl, ok, St.refl _, Kp.refl, by rw [List.drop_zero]; exact hm⟩, ?_⟩
  rintro j m H ⟨rfl, hj, W5, zs, rfl, ok5, s45, k45, hr⟩
  obtain ⟨j1, j2, j3⟩ := hJ W5 s45 k45
  by_cases hlt : j < bs.length
  · refine .inr ⟨j1 j hlt, Pv (j + 1), fun H' p' => ⟨bs.length - (j + 1), by omega, rfl, hlt, p'⟩, fun x H' hy => ?_⟩
    obtain ⟨e1, b, hb, vb⟩ := j3 j x H' hlt hy
    subst e1
    have ed : bs.drop j = b :: bs.drop (j + 1) := by rw [List.drop_eq_getElem_cons hlt, (List.getElem?_eq_some_iff.mp hb).2]
    rw [ed] at hr
    refine ht1 b x W5 _ vb fun s3 hs3 => ⟨hw1 b W5 s3 hs3, ?_⟩
    refine hc1 b W5 s3 ok5.g s45 hs3 W5 (Gw.refl ok5.g.ok) _ ((c1 b).mono (fun n t hq W6 g6 hn => ?_) hr)
    subst hn
    have ok6 := ok5.go nS g6
    have k46 : Kp fp W4 W6 := k45.trans (Kp.gw g6 fun a m => (hfp a m).2)
    cases t with
    | false => exact ⟨W6, zs, rfl, ok6, s45.trans g6.st, k46, hq⟩
    | true =>
      refine he b W5 s3 ok5.g s45 hs3 W6 g6 _ ((f b).mono (fun n y hq v W7 g7 hn r => ?_) hq)
      subst hn
      have ok7 := ok6.go nS g7
      obtain ⟨vs', q1, q2, q3, q4⟩ := ok7.snoc hg hD r
      refine ⟨vs', q1, by rw [q2]; exact sz_lt hq.1, W7.set Dl (.lst (vs' ++ [v])), zs ++ [y], rfl, q3, ((s45.trans g6.st).trans g7.st).trans q4, (k46.trans (Kp.gw g7 fun a m => (hfp a m).2)).upd (fun a m => (hfp a m).1), ?_⟩
      rw [List.length_append, List.length_singleton]
      exact (WP.comp1 c1 f _ _).mono (fun n r hq => by rw [List.append_assoc]; exact hq) hq.2
  · have e2 : j = bs.length := by omega
    subst e2
    rw [List.drop_length] at hr
    have hr : QQ1 W5.n (zs ++ []) := hr
    rw [List.append_nil] at hr
    exact .inl ⟨j2, hend W5 zs ok5 k45 hr⟩
/-- [f(a, b) for a in .. if c for b in .. if c1] -/
theorem ew_lc2 {val : Wo → α → V → Prop} {val1 : Wo → β → V → Prop} {w : WP (List α)} {T : α → Wo → L2.St → Prop} {T1 : L2.St → β → Wo → L2.St → Prop} {c : α → WP Bool} {w1 : α → WP (List β)} {c1 : α → β → WP Bool} {f : α → β → WP γ}
    (h : Src e wi σ W (fun a => W.H a ≠ none) val w) (ht : Takes val g σ vs0 T) (hw : ∀ a W' s2, T a W' s2 → wipe s2 vs0 = wipe σ vs0) (hc : ∀ a W1 s2, Gw e W W1 → T a W1 s2 → EvT e t s2 W1 (c a))
    (h1 : ∀ a W1 s2, Gw e W W1 → T a W1 s2 → Src e wi1 s2 W1 (fun a => W.H a ≠ none) val1 (w1 a)) (ht1 : ∀ s2, Takes val1 g1 s2 vs1 (T1 s2)) (hw1 : ∀ s2 b W' s3, T1 s2 b W' s3 → wipe s3 vs1 = wipe s2 vs1)
    (hc1 : ∀ a W1 s2 b W3 s3, Gw e W W1 → T a W1 s2 → Gw e W W3 → St W1 W3 → T1 s2 b W3 s3 → EvT e t1 s3 W3 (c1 a b)) (he : ∀ a W1 s2 b W3 s3, Gw e W W1 → T a W1 s2 → Gw e W W3 → St W1 W3 → T1 s2 b W3 s3 → EvW e te s3 W3 sI (f a b)) :
    EvW e (tLc2 wi g t wi1 g1 t1 te vs0 vs1) σ W (sN (kL γ)) (WP.lc2 w c w1 c1 f) := fun W1 gW Q q =>
  h W1 gW _ (w.mono (fun n xs hq W2 J fp g2 hn hfp hJ => by
    subst hn
    intro Dl hD
    have hg := g2.ok
    have nS : ¬ e.S Dl := fun s => hg.S Dl s hD
    have gW2 := gW.trans g2
    have hWD : W.H Dl = none := gW2.live Dl hD
    have fD : ∀ a ∈ fp, a ≠ Dl := fun a m z => (hfp a m).2.2 (z ▸ hD)
    let QQ : Nat → List γ → Prop := fun n ys => ∀ v W3, Gw e W1 W3 → W3.n = n → (sN (e := e) (kL γ)).post W1 W3 ys v → Q v W3.H
    let Pv : Nat → Hp → Prop := fun i H => ∃ W' ys, W'.H = H ∧ Acc e Dl W2 W' ys ∧ Kp fp W2 W' ∧ (WP.comp2 c w1 c1 f ys.length (xs.drop i)).run W'.n (fun n r => QQ n (ys ++ r))
    refine ⟨fun i m H => m = xs.length - i ∧ i ≤ xs.length ∧ Pv i H, ⟨xs.length, by simp, Nat.zero_le _, ⟨upd W2.H Dl (.lst []), W2.F, W2.n⟩, [], rfl, ⟨Gw.alloc hg hD, ⟨[], upd_same, .nil⟩, fun z => (hg.F Dl z).2 hD⟩, Kp.gw (Gw.alloc hg hD) (fun a m => (hfp a m).2.1), by rw [List.drop_zero]; exact hq⟩, ?_⟩
    rintro i m H ⟨rfl, hi, W', ys, rfl, ok, kp, hr⟩
    obtain ⟨j1, j2, j3⟩ := hJ W' ok.g.st kp
    by_cases hlt : i < xs.length
    · refine .inr ⟨j1 i hlt, Pv (i + 1), fun H' p' => ⟨xs.length - (i + 1), by omega, rfl, hlt, p'⟩, fun x H' hy => ?_⟩
      obtain ⟨e1, a, ha, va⟩ := j3 i x H' hlt hy
      subst e1
      have ed : xs.drop i = a :: xs.drop (i + 1) := by rw [List.drop_eq_getElem_cons hlt, (List.getElem?_eq_some_iff.mp ha).2]
      rw [ed] at hr
      have gWW := gW2.trans ok.g
      refine ht a x W' _ va fun s2 hs2 => ⟨hw a W' s2 hs2, ?_⟩
      refine hc a W' s2 gWW hs2 W' (Gw.refl ok.g.ok) _ ((c a).mono (fun n b hq W3 g3 hn => ?_) hr)
      subst hn
      have ok3 := ok.go nS g3
      have k3 := kp.trans (Kp.gw g3 fun a m => (hfp a m).2.1)
      cases b with
      | false => exact ⟨W3, ys, rfl, ok3, k3, hq⟩
      | true =>
        refine h1 a W' s2 gWW hs2 W3 g3 _ ((w1 a).mono (fun n bs hq W4 J1 fq g4 hn hfq hJ1 => ?_) hq)
        subst hn
        have ok4 := ok3.go nS g4
        have k4 := k3.trans (Kp.gw g4 fun a m => (hfp a m).2.1)
        have hD3 : W3.H Dl ≠ none := by obtain ⟨vs', q1, _⟩ := ok3.h; exact some_ne q1
        have s14 : St W' W4 := g3.st.trans g4.st
        refine inner (val1 := val1) (T1 := T1 s2) (c1 := c1 a) (f := f a) (W2 := W2) (ys := ys) (fp := fq ++ fp) (QQ1 := fun n l => (WP.comp2 c w1 c1 f l.length (xs.drop (i + 1))).run n fun n r => QQ n (l ++ r)) hg hD (ht1 s2) (hw1 s2)
          (fun b V3 s3 gv sv tv => hc1 a W' s2 b V3 s3 gWW hs2 (gW2.trans gv) (s14.trans sv) tv) (fun b V3 s3 gv sv tv => he a W' s2 b V3 s3 gWW hs2 (gW2.trans gv) (s14.trans sv) tv) ok4 (fun V sv kv => hJ1 V sv fun x m o hx => kv x (List.mem_append_left _ m) o hx) (fun x m => ?_) ?_ (fun W5 zs ok5 k5 hq5 => ?_)
        · rcases List.mem_append.mp m with m | m
          · refine ⟨fun z => ?_, (hfq x m).2.1⟩
            subst z
            rcases (hfq x m).1 with z | z
            · exact hD3 z
            · exact z hWD
          · exact ⟨fD x m, (hfp x m).2.1⟩
        · refine (WP.comp1 (c1 a) (f a) _ _).mono (fun n zs hq => ?_) hq
          rw [List.length_append]
          exact (WP.comp2 c w1 c1 f _ _).mono (fun n r hq => by rw [List.append_assoc]; exact hq) hq
        · exact ⟨W5, zs, rfl, ok5, k4.trans fun x m o hx => k5 x (List.mem_append_right _ m) o hx, hq5⟩
    · have e2 : i = xs.length := by omega
      subst e2
      rw [List.drop_length] at hr
      have hr : QQ W'.n (ys ++ []) := hr
      rw [List.append_nil] at hr
      obtain ⟨vs', o2, o3⟩ := ok.h
      exact .inl ⟨j2, hr _ W' (g2.trans ok.g) rfl ⟨[Dl], ⟨Dl, vs', rfl, rfl, o2, o3⟩, fun b mb => by
        cases List.mem_singleton.mp mb
        exact ⟨g2.live _ hD, nS, ok.f⟩⟩⟩) q)
end
end Y

/-! comprehensions whose items are new lists -/
namespace Y
open PySem PySem.Spec PyProof.Rows L2
section
variable {α β γ : Type} {K : PySem.W.Frag} {e : Ef} {σ : L2.St} {W W2 : Wo} {ta tb te tc tl : TE} {t u : TT} {i j k m n : Nat} {v : V} {g : TG} {vs0 : List Nat} {wi : TI}
theorem rows_live [PyI β] {W : Wo} {yss : List (List β)} {ps : List Addr} (h : Paired (Row W) yss ps) : ∀ a ∈ ps, W.H a ≠ none := fun a m => by
  obtain ⟨i, hi⟩ := List.getElem?_of_mem m
  obtain ⟨xs, _, vs, q1, _⟩ := h.getV hi
  exact some_ne q1
theorem ew_lcGr [PyI β] {val : Wo → α → V → Prop} {w : WP (List α)} {T : α → Wo → L2.St → Prop} {c : α → WP Bool} {f : α → WP (List β)} (h : Src e wi σ W (fun a => W.H a ≠ none) val w) (ht : Takes val g σ vs0 T) (hw : ∀ a W' s2, T a W' s2 → wipe s2 vs0 = wipe σ vs0)
    (hc : ∀ a W1 s2, Gw e W W1 → T a W1 s2 → EvT e t s2 W1 (c a)) (he : ∀ a W1 s2, Gw e W W1 → T a W1 s2 → EvW e te s2 W1 (sN (kL β)) (f a)) : EvW e (tLc wi g t te vs0) σ W (sN (kG β)) (WP.lc w c f) := fun W1 gW Q q =>
  h W1 gW _ (w.mono (fun n xs hq W2 J fp g2 hn hfp hJ => by
    subst hn
    have hz : xs.length ≤ 100000 := hq.1
    intro Dl hD
    have hg := g2.ok
    have nS : ¬ e.S Dl := fun s => hg.S Dl s hD
    have gW2 := gW.trans g2
    let QQ : Nat → List (List β) → Prop := fun n ys => ∀ v W3, Gw e W1 W3 → W3.n = n → (sN (e := e) (kG β)).post W1 W3 ys v → Q v W3.H
    let Ac : Wo → List (List β) → List Addr → Prop := fun W' yss ps => Gw e W2 W' ∧ W'.H Dl = some (.lst (ps.map V.ref)) ∧ (Dl :: ps).Nodup ∧ ¬ W'.F Dl ∧ (∀ a ∈ ps, W2.H a = none ∧ ¬ W'.F a) ∧ Paired (Row W') yss ps
    have acGo : ∀ {W' W3 yss ps}, Ac W' yss ps → Gw e W' W3 → Ac W3 yss ps := fun {W' W3 yss ps} ⟨o1, o2, o3, o4, o5, o6⟩ g3 =>
      ⟨o1.trans g3, g3.keep _ _ o2 nS, o3, fun z => (g3.new Dl z).elim o4 (some_ne o2), fun a m => ⟨(o5 a m).1, fun z => (g3.new a z).elim (o5 a m).2 (rows_live o6 a m)⟩, rows_st g3.st (fun a m o h => g3.keep a o h fun s => hg.S a s (o5 a m).1) o6⟩
    let Pv : Nat → Hp → Prop := fun i H => ∃ W' yss ps, W'.H = H ∧ Ac W' yss ps ∧ Kp fp W2 W' ∧ yss.length ≤ i ∧ (WP.comp c f (xs.drop i)).run W'.n (fun n r => QQ n (yss ++ r))
    refine ⟨fun i m H => m = xs.length - i ∧ i ≤ xs.length ∧ Pv i H, ⟨xs.length, by simp, Nat.zero_le _, ⟨upd W2.H Dl (.lst []), W2.F, W2.n⟩, [], [], rfl, ⟨Gw.alloc hg hD, upd_same, by simp, fun z => (hg.F Dl z).2 hD, (fun _ m => nomatch m), .nil⟩, Kp.gw (Gw.alloc hg hD) (fun a m => (hfp a m).2.1), Nat.le_refl _, by rw [List.drop_zero]; exact hq.2⟩, ?_⟩
    rintro i m H ⟨rfl, hi, W', yss, ps, rfl, ok, kp, hlen, hr⟩
    obtain ⟨j1, j2, j3⟩ := hJ W' ok.1.st kp
    by_cases hlt : i < xs.length
    · refine .inr ⟨j1 i hlt, Pv (i + 1), fun H' p' => ⟨xs.length - (i + 1), by omega, rfl, hlt, p'⟩, fun x H' hy => ?_⟩
      obtain ⟨e1, a, ha, va⟩ := j3 i x H' hlt hy
      subst e1
      have ed : xs.drop i = a :: xs.drop (i + 1) := by rw [List.drop_eq_getElem_cons hlt, (List.getElem?_eq_some_iff.mp ha).2]
      rw [ed] at hr
      have gWW := gW2.trans ok.1
      refine ht a x W' _ va fun s2 hs2 => ⟨hw a W' s2 hs2, ?_⟩
      refine hc a W' s2 gWW hs2 W' (Gw.refl ok.1.ok) _ ((c a).mono (fun n b hq W3 g3 hn => ?_) hr)
      subst hn
      have ok3 := acGo ok g3
      have k3 := kp.trans (Kp.gw g3 fun a m => (hfp a m).2.1)
      cases b with
      | false => exact ⟨W3, yss, ps, rfl, ok3, k3, by omega, hq⟩
      | true =>
        refine he a W' s2 gWW hs2 W3 g3 _ ((f a).mono (fun n y hq v W4 g4 hn ⟨fr, ⟨r, vs, er, ev, hr4, hrs⟩, hfr⟩ => ?_) hq)
        subst hn; subst er; subst ev
        obtain ⟨f1, f2, f3⟩ := hfr r (List.mem_singleton.mpr rfl)
        obtain ⟨o1, o2, o3, o4, o5, o6⟩ := acGo ok3 g4
        have o63 := ok3.2.2.2.2.2
        have nrD : r ≠ Dl := fun z => by rw [z] at f1; exact some_ne ok3.2.1 f1
        have nrp : r ∉ ps := fun m => rows_live o63 r m f1
        have s45 := St.mut (u := .lst (ps.map V.ref ++ [V.ref r])) o2 (fun _ z => by cases z) o4
        have o7 := List.nodup_cons.mp o3
        have hl : (ps.map V.ref).length < sizeLine := by rw [List.length_map, ← Paired.length o6]; exact sz_lt (by omega)
        refine ⟨ps.map V.ref, o2, hl, W4.set Dl (.lst (ps.map V.ref ++ [V.ref r])), yss ++ [y], ps ++ [r], rfl, ⟨Gw.mut hg o1 hD o2 (fun _ z => by cases z) o4, ?_, ?_, o4, fun b m => ?_, ?_⟩, (k3.trans (Kp.gw g4 fun a m => (hfp a m).2.1)).upd (fun b m z => (hfp b m).2.2 (z ▸ hD)), by rw [List.length_append, List.length_singleton]; omega, ?_⟩
        · show (upd W4.H Dl _) Dl = _
          rw [upd_same, List.map_append]; rfl
        · refine List.nodup_cons.mpr ⟨fun m => ?_, ?_⟩
          · rcases List.mem_append.mp m with m | m
            · exact o7.1 m
            · exact nrD (List.mem_singleton.mp m).symm
          · rw [List.nodup_append]
            exact ⟨o7.2, by simp, fun a ma b mb z => nrp (by rw [← List.mem_singleton.mp mb, ← z]; exact ma)⟩
        · rcases List.mem_append.mp m with m | m
          · exact o5 b m
          · cases List.mem_singleton.mp m
            exact ⟨ok3.1.live r f1, f3⟩
        · have kk : ∀ b ∈ ps, ∀ o, W4.H b = some o → (W4.set Dl (.lst (ps.map V.ref ++ [V.ref r]))).H b = some o := fun b m o h => by
            show (upd W4.H Dl _) b = _
            rw [upd_ne (fun z => o7.1 (by rw [← z]; exact m))]; exact h
          refine (rows_st s45 kk o6).appA (.cons ⟨vs, ?_, Rps.st s45 hrs⟩ .nil)
          show (upd W4.H Dl _) r = _
          rw [upd_ne nrD]; exact hr4
        · exact (WP.comp c f _).mono (fun n zs hq => by rw [List.append_assoc]; exact hq) hq
    · have e2 : i = xs.length := by omega
      subst e2
      rw [List.drop_length] at hr
      have hr : QQ W'.n (yss ++ []) := hr
      rw [List.append_nil] at hr
      obtain ⟨o1, o2, o3, o4, o5, o6⟩ := ok
      exact .inl ⟨j2, hr _ W' (g2.trans o1) rfl ⟨Dl :: ps, ⟨Dl, ps, rfl, o3, rfl, o2, o6⟩, fun b mb => by
        rcases List.mem_cons.mp mb with mb | mb
        · subst mb; exact ⟨g2.live _ hD, nS, o4⟩
        · exact ⟨g2.live _ (o5 b mb).1, fun s => hg.S b s (o5 b mb).1, (o5 b mb).2⟩⟩⟩) q)
end
end Y

/-! data in lists; lists and tuples repeated -/
namespace Y
open PySem PySem.Spec PyProof.Rows L2
open Dat (dat)
theorem hu65 {A : Around} {k : Nat} (hr : Room k A) : A.units + 65 < cLine := by have := hr.un; omega
namespace WP
variable {α β : Type}
abbrev inD [PyI α] [PyI β] [Dat α] [Dat β] (a : WP α) (b : WP (List β)) : WP Bool := b2 a b fun x ys => req (SeqAt.shaped (dat x) = true ∧ SeqAt.shaped (.list (ys.map dat)) = true) ((ys.map dat).any fun z => PyData.eqv z (dat x))
abbrev rep (a : WP (List α)) (b : WP Int) : WP (List α) := b2 a b fun xs k => req (-1000000 ≤ k ∧ k ≤ 1000000 ∧ xs.length * k.toNat ≤ 100000) (List.replicate k.toNat xs).flatten
end WP
section
variable {α β : Type} [PyI α] [PyI β] {K : PySem.W.Frag} {e : Ef} {σ : L2.St} {W : Wo} {ta tb : TE}
theorem ew_inD [Dat α] [Dat β] {w1 : WP α} {w2 : WP (List β)} (ha : EvW e ta σ W sI w1) (hb : EvW e tb σ W (sR (kL β)) w2) : EvW e (tOp (rInD K) ta tb) σ W sI (WP.inD w1 w2) :=
  ew_op ha hb fun W1 W2 a ys x y g r1 ⟨_, ⟨p, vs, _, h1, h2, h3⟩, _⟩ Q q => by
    subst h1
    exact ⟨_, _, Dat.dp r1, .lst (SqL.of h2) (dpAll h3), q.1.1, q.1.2, q.2 _ W2 (Gw.refl g.ok) rfl rfl⟩
theorem ew_notInD [Dat α] [Dat β] {w1 : WP α} {w2 : WP (List β)} (ha : EvW e ta σ W sI w1) (hb : EvW e tb σ W (sR (kL β)) w2) : EvW e (tOp (rNotInD K) ta tb) σ W sI (WP.not (WP.inD w1 w2)) := fun W1 g Q q =>
  ew_op (ρ1 := sI) (ρ2 := sR (kL β)) (ρ := sI) (w1 := w1) (w2 := w2) (f := fun (x : α) (ys : List β) => (WP.req (SeqAt.shaped (dat x) = true ∧ SeqAt.shaped (.list (ys.map dat)) = true) ((ys.map dat).any fun z => PyData.eqv z (dat x))).bind fun b => WP.pure (!b)) ha hb (fun W1 W2 a ys x y g r1 ⟨_, ⟨p, vs, _, h1, h2, h3⟩, _⟩ Q q => by
    subst h1
    exact ⟨_, _, Dat.dp r1, .lst (SqL.of h2) (dpAll h3), q.1.1, q.1.2, q.2 _ W2 (Gw.refl g.ok) rfl rfl⟩) W1 g Q q
theorem reps_pair {F : α → V → Prop} {xs : List α} {vs : List V} (h : Paired F xs vs) : ∀ n : Nat, Paired F (List.replicate n xs).flatten (List.replicate n vs).flatten
  | 0 => .nil
  | n + 1 => by
    rw [List.replicate_succ, List.replicate_succ, List.flatten_cons, List.flatten_cons]
    exact h.appA (reps_pair h n)
theorem ew_rep {w1 : WP (List α)} {w2 : WP Int} (ha : EvW e ta σ W (sR (kL α)) w1) (hb : EvW e tb σ W sI w2) : EvW e (tOp rRep ta tb) σ W (sN (kL α)) (WP.rep w1 w2) :=
  ew_op ha hb fun W1 W2 xs k x y g ⟨_, ⟨p, vs, _, h1, h2, h3⟩, _⟩ r2 Q q => by
    subst h1; cases r2
    obtain ⟨⟨q1, q2, q3⟩, q⟩ := q
    exact ⟨p, k, vs, rfl, rfl, h2, by omega, by omega, by rw [← Paired.length h3]; exact sz_le q3, fun l hl => q _ _ (Gw.alloc g.ok hl) rfl (new_L (Gw.refl g.ok) hl (reps_pair h3 k.toNat))⟩
end
section
variable {X : Cx} {K : PySem.W.Frag}
end
end Y

namespace Y
open PySem PySem.Spec PyProof.Rows L2
open Sem (wp)
section
variable {prog : Program} {w : World} {A : Around} {E : Value → Shared → Prop} {s : Shared}
end
section
variable {X : Cx}
end
end Y

/-! range(a, b) -/
namespace Y
open PySem PySem.Spec PyProof.Rows L2
section
variable {α β γ s : Type} {K : PySem.W.Frag} {e : Ef} {σ : L2.St} {W : Wo} {ta tb : TE} {j : Nat} {D : Ends} {tu tz : TS} {R : Nat → β → Prop} {Bs : Addr → Prop}
theorem st_forR2 {w1 w2 : WP Int} {body : Int → s → WP (Ctl s γ)} {f : s → WP β} {r : γ → WP β} {x0 : s} (h1 : EvW e ta σ W sI w1) (h2 : EvW e tb σ W sI w2) (g : Good e W) (hm : ((WP.range2 w1 w2).bind fun xs => WP.after (WP.loop body xs x0) f r).run W.n R)
    (q : ∀ W1, Gw e W W1 → ∃ INV : s → L2.St → Wo → Prop, INV x0 σ W1 ∧ Turn INV body r R D tu (TkN j) ∧ ∀ y σ' W', INV y σ' W' → (f y).run W'.n R → D.nx σ' W'.H) : tFor (iRng2 (tCons ta (tCons tb tNil))) (gName j) tu D σ W.H :=
  h1 W (Gw.refl g) _ (w1.mono (fun n a hm v W1 g1 hn r1 => by
    subst hn; cases r1
    refine h2 W1 g1 _ (w2.mono (fun n b hm v W2 g2 hn r2 => ?_) hm)
    subst hn; cases r2
    obtain ⟨INV, h0, step, hd⟩ := q W2 (g1.trans g2)
    obtain ⟨⟨b1, b2, b3, b4⟩, hm⟩ := hm
    obtain ⟨Pv, p0, pk, ps, pd⟩ := pv_loop (D := D) INV h0 hm hd
    have el : (rangeL a b).length = (b - a).toNat := rangeL_len
    refine ⟨a, b, rfl, ⟨by omega, by omega, by omega, by omega⟩, for_range (lo := a) (n := (b - a).toNat) Pv p0 (fun i σ' H' hi q => ?_) (by rw [← el]; exact pd)⟩
    obtain ⟨y, W', R', e1, q1, q2, q3, q4, q5⟩ := ps i σ' H' _ (rangeL_get hi) q
    subst e1
    exact step _ y σ' _ W' R' _ ⟨_, rfl, rfl⟩ q1 q2 q3 q4 q5) hm)
theorem q_forR2 {w1 w2 : WP Int} {body : Int → s → WP (Ctl s γ)} {f : s → WP β} {r : γ → WP β} {x0 : s} (h1 : EvW e ta σ W sI w1) (h2 : EvW e tb σ W sI w2) (g : Good e W) (hm : ((WP.range2 w1 w2).bind fun xs => WP.after (WP.loop body xs x0) f r).run W.n R)
    (q : ∀ W1, Gw e W W1 → ∃ INV : s → L2.St → Wo → Prop, INV x0 σ W1 ∧ Turn INV body r R { D with nx := tz D } tu (TkN j) ∧ ∀ y σ' W', INV y σ' W' → (f y).run W'.n R → tz D σ' W'.H) : tSeq (tFor (iRng2 (tCons ta (tCons tb tNil))) (gName j) tu) tz D σ W.H := st_forR2 (D := { D with nx := tz D }) h1 h2 g hm q
end
end Y

/-! texts repeated, a sign in a text, isinstance of any data, defs of no argument -/
namespace Y
open PySem PySem.Spec PyProof.Rows L2
namespace WP
abbrev b0 {γ : Type} (m : WP γ) : WP γ := m
end WP
section
variable {α β γ s : Type} {K : PySem.W.Frag} {e : Ef} {σ : L2.St} {W : Wo} {ta tb te : TE}
/-- the class of data -/
class TyN (α : Type) [PyI α] where
  nm : String
  ty : ∀ {K : PySem.W.Frag} {W : Wo} {a : α} {v : V}, Rp W a v → TyX K W.H v (.type nm)
instance : TyN Int := ⟨"int", fun h => by cases h; exact .base (.int _)⟩
instance : TyN Bool := ⟨"bool", fun h => by cases h; exact .base (.bl _)⟩
instance : TyN Str := ⟨"str", fun h => by cases h; exact .base (.str _)⟩
instance : TyN Unit := ⟨"NoneType", fun h => by cases h; exact .base .non⟩
instance {α β : Type} [PyI α] [PyI β] : TyN (α × β) := ⟨"tuple", fun ⟨p, x, y, h1, h2, _⟩ => by subst h1; exact .base (.tup h2)⟩
instance {α β γ : Type} [PyI α] [PyI β] [PyI γ] : TyN (Tri α β γ) := ⟨"tuple", fun ⟨p, x, y, z, h1, h2, _⟩ => by subst h1; exact .base (.tup h2)⟩
instance {α : Type} [PyI α] : TyN (List α) := ⟨"tuple", fun ⟨p, vs, h1, h2, _⟩ => by subst h1; exact .base (.tup h2)⟩
instance {α : Type} [PyI α] : TyN (Ls α) := ⟨"list", fun ⟨p, vs, h1, _, h2, _⟩ => by subst h1; exact .base (.lst h2)⟩
theorem ew_isiL [PyI α] {w : WP (List α)} (T : String) (b : Bool) (hk : kitB "list" T = some b) (h : EvW e te σ W (sR (kL α)) w) : EvW e (tCB (rIsi K) (tCons te (tCons (tC (.ty T)) tNil))) σ W sI (w.bind fun _ => WP.pure b) := fun W1 g Q q => h W1 g _ (w.mono (fun n z hq v W2 g2 hn r => by
  obtain ⟨fp, ⟨p, vs, _, h1, h2, h3⟩, _⟩ := r
  subst h1
  exact ⟨_, _, _, _, b, rfl, .ty _, .base (.lst h2), kit_ty hk, hq _ W2 g2 hn rfl⟩) q)
end
section
variable {X : Cx}
end
end Y

/-! dicts gone through: they are frozen for good; defs that return a dict or None; comprehensions of one clause over any source -/
namespace Y
open PySem PySem.Spec PyProof.Rows L2
/-- a frozen dict, as data -/
structure Fd (β : Type) where
  kvs : List (Sq × β)
instance {β : Type} [PyI β] : PyI (Fd β) := ⟨fun W d v => ∃ p ks od, v = .ref p ∧ W.F p ∧ W.H p = some (.frz od (.dT ks)) ∧ Paired (Kv W) d.kvs ks, fun t ⟨p, ks, od, h1, h2, h3, h4⟩ => ⟨p, ks, od, h1, t.f p h2, t.c p _ h2 h3, Paired.imp (fun a b h => ⟨h.1, PyI.st t h.2⟩) h4⟩⟩
instance {β : Type} [PyI β] : NN (Fd β) := ⟨fun ⟨p, ks, od, h1, _⟩ z => by rw [h1] at z; cases z⟩
section
variable {α β γ s : Type} [PyI β] {K : PySem.W.Frag} {e : Ef} {σ : L2.St} {W W0 : Wo} {ta tb te tl td : TE} {t : TS} {tt : TT} {i j k m n : Nat} {v : V} {D : Ends} {tz tu : TS} {R : Nat → γ → Prop} {g : TG} {vs0 : List Nat} {wi : TI} {fp : List Addr} {Bs : Addr → Prop}
theorem ew_dr {w : WP (List (Sq × β))} (h : EvW e te σ W (sR (kD β)) w) : EvW e te σ W (sR (kDr β)) w := fun W1 g Q q => h W1 g Q (w.mono (fun n d hq v W2 g2 hn ⟨fp, ⟨p, ks, h1, h2, h3, h4⟩, hS⟩ => hq v W2 g2 hn ⟨fp, ⟨p, ks, h1, h2, .inl h3, h4⟩, hS⟩) q)
namespace WP
end WP
/-- sources with no list of their own -/
def Src0 {α : Type} (e : Ef) (wi : TI) (σ : L2.St) (W : Wo) (val : Wo → α → V → Prop) (w : WP (List α)) : Prop :=
  ∀ W1, Gw e W W1 → ∀ R : It → Hp → Prop, w.run W1.n (fun n xs => ∀ W2 J, Gw e W1 W2 → W2.n = n → Iter W2 [] J xs val → R J W2.H) → wi σ W1.H R
/-- for over such a source -/
theorem st_for0 [PyI α] {gt : TG} {T : α → Wo → L2.St → L2.St → Prop} (ht : Tk gt T) {w : WP (List α)} {body : α → s → WP (Ctl s δ)} {f : s → WP γ} {r : δ → WP γ} {x0 : s} (h : Src0 e wi σ W (fun W a x => Rp W a x) w) (g : Good e W) (hm : (w.bind fun xs => WP.after (WP.loop body xs x0) f r).run W.n R)
    (q : ∀ (xs : List α) W1, Gw e W W1 → ∃ INV : s → L2.St → Wo → Prop, INV x0 σ W1 ∧ (∀ y σ' W', INV y σ' W' → St W1 W') ∧ Turn INV body r R D tu T ∧ ∀ y σ' W', INV y σ' W' → (f y).run W'.n R → D.nx σ' W'.H) : tFor wi gt tu D σ W.H :=
  h W (Gw.refl g) _ (w.mono (fun n xs hm W1 J g1 hn hi => by
    subst hn
    obtain ⟨INV, h0, keep, step, hd⟩ := q xs W1 g1
    obtain ⟨Pv, p0, pk, ps, pd⟩ := pv_loop (D := D) INV h0 hm hd
    have wk : Walk J xs.length (fun H => ∃ W', W'.H = H ∧ St W1 W') (fun i H x H' => H' = H ∧ ∃ a, xs[i]? = some a ∧ ∀ W', W'.H = H → St W1 W' → Rp W' a x) := by
      refine ⟨fun i H hi' ⟨W', e1, s1⟩ => ?_, fun H ⟨W', e1, s1⟩ => ?_, fun i H x H' hi' ⟨W', e1, s1⟩ y => ?_⟩
      · subst e1; exact (hi W' s1 (fun _ m => nomatch m)).1 i hi'
      · subst e1; exact (hi W' s1 (fun _ m => nomatch m)).2.1
      · subst e1
        obtain ⟨q1, a, q2, _⟩ := (hi W' s1 (fun _ m => nomatch m)).2.2 i x H' hi' y
        refine ⟨q1, a, q2, fun W'' e2 s2 => ?_⟩
        obtain ⟨_, a', q4, q5⟩ := (hi W'' s2 (fun _ m => nomatch m)).2.2 i x H' hi' (by rw [e2]; exact y)
        rw [q2] at q4
        cases q4
        exact q5
    refine for_it wk Pv p0 (fun i σ H _ q => ?_) (fun i x σ H H' hi' q y => ?_) pd
    · obtain ⟨y, W', e1, q'⟩ := pk i σ H q
      exact ⟨W', e1, keep y σ W' q'⟩
    · obtain ⟨rfl, a, ha, ra⟩ := y
      obtain ⟨y, W', R', e1, q1, q2, q3, q4, q5⟩ := ps i σ _ a ha q
      subst e1
      exact ht a x W' σ _ (ra W' rfl (keep y σ W' q1)) fun s2 h2 => step a y σ s2 W' R' _ h2 q1 q2 q3 q4 q5) hm)
theorem q_for0 [PyI α] {gt : TG} {T : α → Wo → L2.St → L2.St → Prop} (ht : Tk gt T) {w : WP (List α)} {body : α → s → WP (Ctl s δ)} {f : s → WP γ} {r : δ → WP γ} {x0 : s} (h : Src0 e wi σ W (fun W a x => Rp W a x) w) (g : Good e W) (hm : (w.bind fun xs => WP.after (WP.loop body xs x0) f r).run W.n R)
    (q : ∀ (xs : List α) W1, Gw e W W1 → ∃ INV : s → L2.St → Wo → Prop, INV x0 σ W1 ∧ (∀ y σ' W', INV y σ' W' → St W1 W') ∧ Turn INV body r R { D with nx := tz D } tu T ∧ ∀ y σ' W', INV y σ' W' → (f y).run W'.n R → tz D σ' W'.H) : tSeq (tFor wi gt tu) tz D σ W.H :=
  st_for0 (D := { D with nx := tz D }) ht h g hm q
end
section
variable {α β γ : Type} {K : PySem.W.Frag} {e : Ef} {σ : L2.St} {W W2 : Wo} {ta tb te tc tl : TE} {t u : TT} {i j k m n : Nat} {v : V} {g : TG} {vs0 : List Nat} {wi : TI}
end
end Y

/-! list of a text, extend, xs[i] = v, len of a pair -/
namespace Y
open PySem PySem.Spec PyProof.Rows L2
section
variable {α β γ s : Type} {K : PySem.W.Frag} {e : Ef} {σ : L2.St} {W W0 : Wo} {ta tb te tc tl : TE} {i j k m n : Nat} {v : V} {D : Ends} {tz : TS} {R : Nat → γ → Prop} {fp : List Addr}
namespace WP
end WP
namespace WP
end WP
end
end Y

namespace Y
open PySem PySem.Spec L2
section
variable {α β γ δ s ρ' : Type} {K : PySem.W.Frag} {e : Ef} {σ : L2.St} {W : Wo} {ta tb te tc tl : TE} {t u : TT} {i j k m n : Nat} {v : V} {D : Ends} {tu tw tz : TS} {ρ : Rs e α} {w : WP α} {R : Nat → β → Prop}
/-- the names' values, told plainly -/
theorem norm_st {t : TS} {D : Ends} {σ σ' : L2.St} {H : Hp} (h : σ = σ') (g : t D σ' H) : t D σ H := h ▸ g
end
end Y

/-! data of any kind (one type for all of it), code that is never reached -/
namespace Y
open PySem PySem.Spec PyProof.Rows L2
open Dat (dat)
theorem pss_dead {X : Cx} {ss : List Stmt} : PSs X ss (fun _ _ _ => False) := ⟨fun _ _ _ _ _ _ h => h.elim⟩
mutual
inductive RD (W : Wo) : PyData → V → Prop where
  | int (i : Int) : RD W (.int i) (.int i)
  | bl (b : Bool) : RD W (.bool b) (.bl b)
  | str (s : Str) : RD W (.str s) (.str s)
  | non : RD W .none .non
  | tup {p : Addr} {vs : List V} {xs : List PyData} (h : W.H p = some (.tup vs)) (r : RDs W xs vs) : RD W (.tuple xs) (.ref p)
  | lst {p : Addr} {vs : List V} {xs : List PyData} (f : W.F p) (h : W.H p = some (.lst vs)) (r : RDs W xs vs) : RD W (.list xs) (.ref p)
inductive RDs (W : Wo) : List PyData → List V → Prop where
  | nil : RDs W [] []
  | cons {d : PyData} {v : V} {ds : List PyData} {vs : List V} (h : RD W d v) (t : RDs W ds vs) : RDs W (d :: ds) (v :: vs)
end
mutual
theorem RD.st {W W' : Wo} (s : St W W') : ∀ {d : PyData} {v : V}, RD W d v → RD W' d v
  | _, _, .int i => .int i
  | _, _, .bl b => .bl b
  | _, _, .str z => .str z
  | _, _, .non => .non
  | _, _, .tup h r => .tup (s.t _ _ h) (RDs.st s r)
  | _, _, .lst f h r => .lst (s.f _ f) (s.c _ _ f h) (RDs.st s r)
theorem RDs.st {W W' : Wo} (s : St W W') : ∀ {ds : List PyData} {vs : List V}, RDs W ds vs → RDs W' ds vs
  | _, _, .nil => .nil
  | _, _, .cons h t => .cons (RD.st s h) (RDs.st s t)
end
mutual
theorem RD.dp {W : Wo} {K : PySem.W.Frag} : ∀ {d : PyData} {v : V}, RD W d v → Dp K W.H v d
  | _, _, .int i => .int i
  | _, _, .bl b => .bl b
  | _, _, .str z => .str z
  | _, _, .non => .non
  | _, _, .tup h r => .tup (SqT.of h) (RDs.dp r)
  | _, _, .lst _ h r => .lst (SqL.of h) (RDs.dp r)
theorem RDs.dp {W : Wo} {K : PySem.W.Frag} : ∀ {ds : List PyData} {vs : List V}, RDs W ds vs → DpAll K W.H vs ds
  | _, _, .nil => .nil
  | _, _, .cons h t => .cons (RD.dp h) (RDs.dp t)
end
instance : PyI PyData := ⟨RD, fun s h => RD.st s h⟩
instance : Dat PyData := ⟨id, fun h => RD.dp h⟩
instance : Inhabited PyData := ⟨.none⟩
theorem rds_of {W : Wo} {ds : List PyData} {vs : List V} (h : RDs W ds vs) : Rps W ds vs := by
  induction ds generalizing vs with
  | nil => cases h; exact .nil
  | cons d ds ih =>
    cases h with
    | cons a t => exact .cons a (ih t)
class DR (α : Type) [PyI α] [Dat α] where
  dr : ∀ {W : Wo} {a : α} {v : V}, Rp W a v → RD W (dat a) v
instance : DR PyData := ⟨fun h => h⟩
instance : DR Int := ⟨fun h => by cases h; exact .int _⟩
instance : DR Bool := ⟨fun h => by cases h; exact .bl _⟩
instance : DR Str := ⟨fun h => by cases h; exact .str _⟩
instance : DR Unit := ⟨fun h => by cases h; exact .non⟩
instance {α : Type} [PyI α] [Dat α] [DR α] : DR (Option α) := ⟨fun {W o v} h => by
  cases o with
  | none => cases h; exact .non
  | some a => exact (DR.dr (a := a) h.2 : RD W (dat a) v)⟩
instance {α β : Type} [PyI α] [PyI β] [Dat α] [Dat β] [DR α] [DR β] : DR (α × β) := ⟨fun ⟨p, x, y, h1, h2, h3, h4⟩ => by subst h1; exact .tup h2 (.cons (DR.dr h3) (.cons (DR.dr h4) .nil))⟩
theorem drs {α : Type} [PyI α] [Dat α] [DR α] {W : Wo} {xs : List α} {vs : List V} (h : Rps W xs vs) : RDs W (xs.map dat) vs := by
  induction h with
  | nil => exact .nil
  | cons r t ih => exact .cons (DR.dr r) ih
instance {α : Type} [PyI α] [Dat α] [DR α] : DR (List α) := ⟨fun ⟨p, vs, h1, h2, h3⟩ => by subst h1; exact .tup h2 (drs h3)⟩
instance {α : Type} [PyI α] [Dat α] [DR α] : DR (Ls α) := ⟨fun ⟨p, vs, h1, f, h2, h3⟩ => by subst h1; exact .lst f h2 (drs h3)⟩
instance {α β γ : Type} [PyI α] [PyI β] [PyI γ] [Dat α] [Dat β] [Dat γ] : Dat (Tri α β γ) := ⟨fun c => .tuple [dat c.a, dat c.b, dat c.c], fun ⟨p, x, y, z, h1, h2, h3, h4, h5⟩ => by subst h1; exact .tup (SqT.of h2) (.cons (Dat.dp h3) (.cons (Dat.dp h4) (.cons (Dat.dp h5) .nil)))⟩
instance {α β γ : Type} [PyI α] [PyI β] [PyI γ] [Dat α] [Dat β] [Dat γ] [DR α] [DR β] [DR γ] : DR (Tri α β γ) := ⟨fun ⟨p, x, y, z, h1, h2, h3, h4, h5⟩ => by subst h1; exact .tup h2 (.cons (DR.dr h3) (.cons (DR.dr h4) (.cons (DR.dr h5) .nil)))⟩
def tyD : PyData → String
  | .none => "NoneType" | .bool _ => "bool" | .int _ => "int" | .str _ => "str" | .list _ => "list" | .tuple _ => "tuple" | .dict _ => "dict"
/-- isinstance of data -/
def isB (T : String) (d : PyData) : Bool := (kitB (tyD d) T).getD false
theorem kB {T : String} (h : ∀ s ∈ ["NoneType", "bool", "int", "str", "list", "tuple", "dict"], (kitB s T).isSome = true) (d : PyData) : kitB (tyD d) T = some (isB T d) := by
  have : (kitB (tyD d) T).isSome = true := h _ (by cases d <;> simp [tyD])
  unfold isB
  obtain ⟨b, hb⟩ := Option.isSome_iff_exists.mp this
  rw [hb]; rfl
def seqD : PyData → List PyData
  | .list xs => xs | .tuple xs => xs | _ => []
def isSeqD : PyData → Bool
  | .list _ => true | .tuple _ => true | _ => false
def isNonD : PyData → Bool
  | .none => true | _ => false
namespace WP
abbrev lenU (w : WP PyData) : WP Int := w.bind fun d => req (isSeqD d = true) (((seqD d).length : Nat) : Int)
abbrev ixU (a : WP PyData) (b : WP Int) : WP PyData := b2 a b fun d x => req (isSeqD d = true ∧ okI (seqD d).length x) (ixD (seqD d) x)
end WP
section
variable {α : Type} {K : PySem.W.Frag} {e : Ef} {σ : L2.St} {W : Wo} {ta tb te : TE}
theorem ew_dat [PyI α] [Dat α] [DR α] {w : WP α} (h : EvW e te σ W sI w) : EvW e te σ W sI (w.bind fun a => WP.pure (dat a)) := fun W1 g Q q => h W1 g _ (w.mono (fun n a hq v W2 g2 hn r => hq v W2 g2 hn (DR.dr r)) q)
theorem ew_datL [PyI α] [Dat α] [DR α] {w : WP (List α)} (h : EvW e te σ W (sR (kL α)) w) : EvW e te σ W (sR (kL PyData)) (w.bind fun xs => WP.pure (xs.map dat)) := fun W1 g Q q => h W1 g _ (w.mono (fun n a hq v W2 g2 hn r => by
  obtain ⟨fp, ⟨p, vs, h1, h2, h3, h4⟩, hS⟩ := r
  exact hq v W2 g2 hn ⟨fp, ⟨p, vs, h1, h2, h3, rds_of (drs h4)⟩, hS⟩) q)
theorem ty_rd {K : PySem.W.Frag} {W : Wo} {d : PyData} {v : V} (r : RD W d v) : TyX K W.H v (.type (tyD d)) := by
  cases r with
  | int i => exact .base (.int _)
  | bl b => exact .base (.bl _)
  | str s => exact .base (.str _)
  | non => exact .base .non
  | tup h r => exact .base (.tup h)
  | lst f h r => exact .base (.lst h)
theorem ew_isiU {w : WP PyData} (T : String) (hk : ∀ d : PyData, kitB (tyD d) T = some (isB T d)) (h : EvW e te σ W sI w) : EvW e (tCB (rIsi K) (tCons te (tCons (tC (.ty T)) tNil))) σ W sI (w.bind fun d => WP.pure (isB T d)) := fun W1 g Q q => h W1 g _ (w.mono (fun n d hq v W2 g2 hn r =>
  ⟨_, _, _, _, isB T d, rfl, .ty _, ty_rd r, kit_ty (hk d), hq _ W2 g2 hn rfl⟩) q)
theorem ew_lenU {w : WP PyData} (ha : EvW e ta σ W sI w) : EvW e (tCB (rLenS K) (tCons ta tNil)) σ W sI (WP.lenU w) := fun W1 g Q q => ha W1 g _ (w.mono (fun n d hq v W2 g2 hn r => by
  obtain ⟨hs, hq⟩ := hq
  cases r with
  | int i => cases hs
  | bl b => cases hs
  | str s => cases hs
  | non => cases hs
  | tup h r => exact ⟨_, _, rfl, .inr (SqT.of h), hq _ W2 g2 hn (congrArg (fun n : Nat => V.int (n : Int)) (Paired.length (rds_of r)).symm)⟩
  | lst f h r => exact ⟨_, _, rfl, .inl (SqL.of h), hq _ W2 g2 hn (congrArg (fun n : Nat => V.int (n : Int)) (Paired.length (rds_of r)).symm)⟩) q)
theorem ew_ixU {w1 : WP PyData} {w2 : WP Int} (ha : EvW e ta σ W sI w1) (hb : EvW e tb σ W sI w2) : EvW e (tOp (rIx K) ta tb) σ W sI (WP.ixU w1 w2) :=
  ew_op2 ha hb fun W2 d x _ _ r1 r2 hc Q q => by
    cases r2
    obtain ⟨hs, hc⟩ := hc
    cases r1 with
    | int i => cases hs
    | bl b => cases hs
    | str s => cases hs
    | non => cases hs
    | tup h r =>
      obtain ⟨v, hv, rv⟩ := atI_pair (rds_of r) (atI_ok hc)
      exact .inr (.inl ⟨_, _, x, v, rfl, rfl, SqT.of h, hv, q _ _ (Same.refl _) rv⟩)
    | lst f h r =>
      obtain ⟨v, hv, rv⟩ := atI_pair (rds_of r) (atI_ok hc)
      exact .inl ⟨_, _, x, v, rfl, rfl, SqL.of h, hv, q _ _ (Same.refl _) rv⟩
theorem ew_isNU {w : WP PyData} (h : EvW e te σ W sI w) : EvW e (tIsN te) σ W sI (w.bind fun d => WP.pure (isNonD d)) := fun W1 g Q q => h W1 g _ (w.mono (fun n o hq v W2 g2 hn r => by
  cases r <;> exact hq _ W2 g2 hn rfl) q)
end
end Y

/-! sorted -/
namespace Y
open PySem PySem.Spec PyProof.Rows L2
namespace WP
end WP
section
variable {K : PySem.W.Frag} {e : Ef} {σ : L2.St} {W : Wo} {ta : TE}
end
end Y

/-! parts of a law: defs of the script that return True; a def handed on -/
namespace Y
open PySem PySem.Spec PyProof.Rows L2
open Dat (dat)
section
variable {X : Cx}
end
section
variable {α β : Type} [PyI α] [PyI β] {K : PySem.W.Frag} {e : Ef} {σ : L2.St} {W : Wo} {ta tb : TE}
end
end Y

/-! min and max of two alike data (two squares) -/
namespace Y
open PySem PySem.Spec PyProof.Rows L2
open PySem.W (dataLt AlikeAll iter_tupleW moved_old cmpIn_lt cmpIn_gt reads_keeps)
section
variable {prog : Program} {w : World} {A : Around} {E : Value → Shared → Prop} {s : Shared}
end
section
variable {X : Cx}
end
namespace WP
end WP
section
variable {K : PySem.W.Frag} {e : Ef} {σ : L2.St} {W : Wo} {ta tb : TE}
end
section
end
section
variable {α : Type} [PyI α] {K : PySem.W.Frag} {e : Ef} {σ : L2.St} {W : Wo} {ta : TE}
end
instance {α : Type} : Inhabited (Ls α) := ⟨⟨[]⟩⟩
end Y

/-! a list that may be changed, or None -/
namespace Y
open PySem PySem.Spec PyProof.Rows L2
namespace WP
end WP
section
variable {α β γ s : Type} [PyI α] {K : PySem.W.Frag} {e : Ef} {σ : L2.St} {W W0 : Wo} {te : TE} {n : Nat} {v : V} {R : Nat → γ → Prop} {fp : List Addr}
end
end Y

/-! range(a, b, -1) -/
namespace Y
open PySem PySem.Spec PyProof.Rows L2
namespace WP
end WP
section
variable {α β γ s : Type} {K : PySem.W.Frag} {e : Ef} {σ : L2.St} {W : Wo} {ta tb tc : TE} {j : Nat} {D : Ends} {tu tz : TS} {R : Nat → β → Prop} {Bs : Addr → Prop}
end
end Y

/-! defs under another name -/
namespace Y
open PySem PySem.Spec PyProof.Rows L2
end Y

namespace Y
open PySem PySem.Spec PyProof.Rows L2
open Sem (wp)
section
variable {prog : Program} {w : World} {A : Around} {E : Value → Shared → Prop} {s : Shared}
end
section
variable {X : Cx}
end
end Y

/-! dicts whose keys are pairs of pairs: what the machine does with them -/
namespace Y
open PySem PySem.Spec PyProof.Rows L2
abbrev NRow := NestedKey × Addr × V
/-- what a value is, as a key -/
inductive NV (H : Hp) : NestedKey → V → Prop
  | non : NV H .none .non
  | int (i : Int) : NV H (.num i) (.int i)
  | str (s : Str) : NV H (.text s) (.str s)
  | pair {b : Addr} {k1 k2 : NestedKey} {y1 y2 : V} : H b = some (.tup [y1, y2]) → NV H k1 y1 → NV H k2 y2 → NV H (.tup [k1, k2]) (.ref b)
def NRel (p : NRow) (q : NestedKey × Addr × Value) : Prop := p.1 = q.1 ∧ p.2.1 = q.2.1 ∧ RelV p.2.2 q.2.2
def KeysN (H : Hp) (ks : List NRow) : Prop := ∀ x ∈ ks, NV H x.1 (.ref x.2.1) ∧ x.1.depth ≤ 8
def valN (ks : List NRow) (k : NestedKey) : Option V := (ks.find? fun x => decide (x.1 = k)).map (·.2.2)
def putN (ks : List NRow) (k : NestedKey) (b : Addr) (v : V) : List NRow := if (valN ks k).isSome then ks.map fun x => if x.1 = k then (x.1, x.2.1, v) else x else ks ++ [(k, b, v)]
section
variable {P : Program} {w : World} {H : Hp} {h : Heap} {a : Addr}
theorem NV.is (ok : HOk P w H h) {k : NestedKey} {y : V} (n : NV H k y) : ∀ {u : Value}, RelV y u → NestedIs h k u := by
  induction n with
  | non => intro u r; cases (show u = Value.none from r); exact .none
  | int i => intro u r; obtain ⟨t, e⟩ := (show ∃ t, u = Value.int i t from r); rw [e]; exact .int i t
  | str s => intro u r; obtain ⟨t, e⟩ := (show ∃ t, u = Value.str s t from r); rw [e]; exact .text s t
  | @pair b k1 k2 y1 y2 hb _ _ ih1 ih2 =>
    intro u r
    cases (show u = Value.ref b from r)
    obtain ⟨_, its, rv, o, g1, g2, n, g3⟩ := (show ObjOk P w H h b (.tup [y1, y2]) from ok b _ hb)
    cases rv with
    | cons r1 t =>
      cases t with
      | cons r2 t2 =>
        cases t2
        exact .tup g1 g2 g3 (.cons (ih1 r1) (.cons (ih2 r2) .nil))
theorem NV.at {H' : Hp} (c : ∀ b xs, H b = some (.tup xs) → H' b = some (.tup xs)) {k : NestedKey} {y : V} (n : NV H k y) : NV H' k y := by
  induction n with
  | non => exact .non
  | int i => exact .int i
  | str s => exact .str s
  | pair hb _ _ ih1 ih2 => exact .pair (c _ _ hb) ih1 ih2
end
theorem NRel.val {ks : List NRow} {xs : List (NestedKey × Addr × Value)} (r : Paired NRel ks xs) (k : NestedKey) : RelO (valN ks k) ((atKey xs k).map (·.2)) := by
  induction r with
  | nil => exact True.intro
  | @cons p q ps qs h t ih =>
    obtain ⟨h1, h2, h3⟩ := h
    by_cases e : p.1 = k
    · have e' : q.1 = k := h1.symm.trans e
      have b1 : valN (p :: ps) k = some p.2.2 := by simp [valN, List.find?_cons, e]
      have b2 : atKey (q :: qs) k = some q.2 := by simp [atKey, List.find?_cons, e']
      rw [b1, b2]; exact h3
    · have e' : ¬ q.1 = k := fun z => e (h1.trans z)
      have b1 : valN (p :: ps) k = valN ps k := by simp [valN, List.find?_cons, e]
      have b2 : atKey (q :: qs) k = atKey qs k := by simp [atKey, List.find?_cons, e']
      rw [b1, b2]; exact ih
theorem NRel.put {ks : List NRow} {xs : List (NestedKey × Addr × Value)} (r : Paired NRel ks xs) (k : NestedKey) (b : Addr) {v : V} {u : Value} (rv : RelV v u) : Paired NRel (putN ks k b v) (storedH xs k b u) := by
  have e : (valN ks k).isSome = (atKey xs k).isSome := by rw [(NRel.val r k).isSome_eq, Option.isSome_map]
  unfold putN storedH
  rw [e]
  by_cases q : (atKey xs k).isSome = true
  · rw [if_pos q, if_pos q]
    clear e q
    induction r with
    | nil => exact .nil
    | @cons p q ps qs h t ih =>
      rw [List.map_cons, List.map_cons]
      refine .cons ?_ ih
      obtain ⟨h1, h2, h3⟩ := h
      unfold putAt
      by_cases e : p.1 = k
      · rw [if_pos e, if_pos (h1.symm.trans e)]; exact ⟨h1, h2, rv⟩
      · rw [if_neg e, if_neg (fun z => e (h1.trans z))]; exact ⟨h1, h2, h3⟩
  · rw [if_neg q, if_neg q]; exact Paired.snoc r ⟨rfl, rfl, rv⟩
section
variable {X : Cx} {pins : List (Addr × Obj)} {σ : L2.St} {H : Hp} {s : Shared} {a : Addr} {y v : V} {u r : Value} {o : Option V} {A : Around} {E : Value → Shared → Prop}
end
/-! rules -/
section
variable {X : Cx} {o i e f value : Expr} {pos pos' apos cpos : Pos} {td ty tv tx : TE}
end
end Y

/-! dicts whose keys are (square, number) or (square, text) -/
namespace Y
open PySem PySem.Spec PyProof.Rows L2
/-- what may be a nested key -/
class NKey (κ : Type) [PyI κ] where
  toN : κ → NestedKey
  inj : ∀ a b, toN a = toN b → a = b
  dep : ∀ a, (toN a).depth ≤ 8
  rp : ∀ {W : Wo} {a : κ} {v : V}, Rp W a v → ∃ b, v = .ref b ∧ NV W.H (toN a) (.ref b)
theorem sqN {W : Wo} {q : Sq} {v : V} (h : Rp W q v) : NV W.H (.tup [.num q.1, .num q.2]) v := by
  obtain ⟨p, a, b, h1, h2, h3, h4⟩ := h
  cases h3; cases h4
  rw [h1]; exact .pair h2 (.int _) (.int _)
instance : NKey (Sq × Int) where
  toN := fun a => .tup [.tup [.num a.1.1, .num a.1.2], .num a.2]
  inj := fun a b h => by
    injection h with h; injection h with h1 h2; injection h1 with h1; injection h1 with h3 h4; injection h4 with h4; injection h2 with h2
    injection h3 with h3; injection h4 with h4; injection h2 with h2
    exact Prod.ext (Prod.ext h3 h4) h2
  dep := fun a => by simp [NestedKey.depth, NestedKey.depthAll]
  rp := fun {W a v} h => by
    obtain ⟨p, x, y, h1, h2, h3, h4⟩ := h
    cases h4
    exact ⟨p, h1, .pair h2 (sqN h3) (.int _)⟩
instance : NKey (Sq × Str) where
  toN := fun a => .tup [.tup [.num a.1.1, .num a.1.2], .text a.2]
  inj := fun a b h => by
    injection h with h; injection h with h1 h2; injection h1 with h1; injection h1 with h3 h4; injection h4 with h4; injection h2 with h2
    injection h3 with h3; injection h4 with h4; injection h2 with h2
    exact Prod.ext (Prod.ext h3 h4) h2
  dep := fun a => by simp [NestedKey.depth, NestedKey.depthAll]
  rp := fun {W a v} h => by
    obtain ⟨p, x, y, h1, h2, h3, h4⟩ := h
    cases h4
    exact ⟨p, h1, .pair h2 (sqN h3) (.str _)⟩
section
variable {κ β : Type} [DecidableEq κ]
def lookN (kvs : List (κ × β)) (q : κ) : Option β := (kvs.find? fun p => decide (p.1 = q)).map (·.2)
def hasN (kvs : List (κ × β)) (q : κ) : Bool := (lookN kvs q).isSome
def putD (kvs : List (κ × β)) (q : κ) (b : β) : List (κ × β) := if hasN kvs q then kvs.map (fun p => if p.1 = q then (p.1, b) else p) else kvs ++ [(q, b)]
end
open NKey (toN)
variable {P : Program} {w : World}
section
variable {κ β : Type} [PyI κ] [NKey κ] [PyI β]
def NKv (W : Wo) (kv : κ × β) (k : NRow) : Prop := k.1 = toN kv.1 ∧ Rp W kv.1 (.ref k.2.1) ∧ Rp W kv.2 k.2.2
theorem NKv.st {W W' : Wo} (s : St W W') {kv : κ × β} {k : NRow} (h : NKv W kv k) : NKv W' kv k := ⟨h.1, PyI.st s h.2.1, PyI.st s h.2.2⟩
theorem NKv.keys {W : Wo} {kvs : List (κ × β)} {ks : List NRow} (h : Paired (NKv W) kvs ks) : KeysN W.H ks := by
  induction h with
  | nil => intro x hx; cases hx
  | @cons a b as bs r t ih =>
    intro x hx
    rcases List.mem_cons.mp hx with e | hx
    · subst e
      obtain ⟨b, e1, e2⟩ := NKey.rp r.2.1
      injection e1 with e1
      rw [r.1, e1]
      exact ⟨e2, NKey.dep _⟩
    · exact ih x hx
end
section
variable {κ α β γ δ : Type} [PyI κ] [NKey κ] [DecidableEq κ] [PyI β] {K : PySem.W.Frag} {e : Ef} {σ : L2.St} {W : Wo} {ta tb te tc td ty tx tk tv : TE} {t u : TT} {i j k m n : Nat} {v : V} {D : Ends} {tz : TS} {R : Nat → γ → Prop}
namespace WP
abbrev nin (q : WP κ) (kvs : WP (List (κ × β))) : WP Bool := b2 q kvs fun x d => pure (hasN d x)
end WP
end
end Y

/-! going through a dict with nested keys, which is locked -/
namespace Y
open PySem PySem.Spec PyProof.Rows L2
section
variable {X : Cx} {pins : List (Addr × Obj)} {σ : L2.St} {H : Hp} {s : Shared} {d : Addr} {o : Obj} {ks : List NRow} {es : Array DictEntry} {ep : Nat}
end
/-! a locked dict with nested keys, as the layer sees it -/
open NKey (toN)
section
variable {κ α β γ δ : Type} [PyI κ] [NKey κ] [DecidableEq κ] [PyI β] {P : Program} {w : World} {K : PySem.W.Frag} {e : Ef} {σ : L2.St} {W W0 : Wo} {td : TE} {t tz : TS} {i : Nat} {v : V} {D : Ends} {R : Nat → γ → Prop} {fp : List Addr}
end
end Y

/-! list(d) of a dict with nested keys -/
namespace Y
open PySem PySem.Spec PyProof.Rows L2
section
variable {X : Cx}
end
open NKey (toN)
section
variable {κ β : Type} [PyI κ] [NKey κ] [DecidableEq κ] [PyI β] {P : Program} {w : World} {e : Ef} {σ : L2.St} {W : Wo} {td : TE}
namespace WP
end WP
end
end Y

/-! len of a dict with nested keys -/
namespace Y
open PySem PySem.Spec PyProof.Rows L2
open Sem (wp)
section
variable {prog : Program} {w : World} {A : Around} {E : Value → Shared → Prop} {s : Shared}
end
open NKey (toN)
section
variable {κ β : Type} [PyI κ] [NKey κ] [DecidableEq κ] [PyI β] {P : Program} {w : World} {e : Ef} {σ : L2.St} {W : Wo} {td : TE}
end
end Y

/-! dict comprehensions whose keys are tuples: the store told by a relation -/
namespace Y
open PySem PySem.Spec PyProof.Rows L2
open Sem (wp)
/-- a kind of dict: what stands there at first, and what a store does -/
structure Sto (P : Program) (w : World) where
  first : Addr → HO
  put : Hp → Addr → V → V → Hp → Prop
  born : ∀ {H : Hp} (h : Heap), sysModules < h.objs.size → ObjOk P w H (h.push { cls := .type "dict", data := .dict #[] }) h.objs.size (first h.objs.size)
  store : ∀ {X : Cx} {pn : List (Addr × Obj)} {τ : L2.St} {H H' : Hp} {sh : Shared} {A : Around} {Er : Value → Shared → Prop} {D : Addr} {y z : V} {u r : Value} {R : Unit → Shared → Prop}, X.prog = P → X.w = w → A.units + 10 < cLine → Inv X pn τ H sh → put H D y z H' → RelV y u → RelV z r → (∀ sh', Inv X pn τ H' sh' → R () sh') → wpAny (model P w) A (dictSet D u r) R Er sh
/-- what a turn of it does -/
def dcTurn {P : Program} {w : World} (S : Sto P w) (D : Addr) (g : TG) (tt : TT) (tk tv : TE) (τ : L2.St) (vs : List Nat) (x : V) (H : Hp) (Nx : Hp → Prop) : Prop :=
  g x τ H fun τ2 H2 => wipe τ2 vs = τ ∧ tt τ2 H2 fun b H3 => if b = true then tk τ2 H3 fun y H4 => tv τ2 H4 fun z H5 => ∃ H6, S.put H5 D y z H6 ∧ Nx H6 else Nx H3
def tDcS {P : Program} {w : World} (S : Sto P w) (wi : TI) (g : TG) (tt : TT) (tk tv : TE) (vs : List Nat) : TE := fun τ H Q => wi τ H fun J H1 => ∀ D, H1 D = none → ∃ Z : Nat → Nat → Hp → Prop, (∃ m, Z 0 m (upd H1 D (S.first D))) ∧ ∀ i m H, Z i m H →
  (J.stop i H ∧ Q (.ref D) H) ∨ (J.go i H ∧ ∃ Nx : Hp → Prop, (∀ H', Nx H' → ∃ m', m' < m ∧ Z (i + 1) m' H') ∧ ∀ x H', J.yld i H x H' → dcTurn S D g tt tk tv (wipe τ vs) vs x H' Nx)
section
variable {X : Cx}
theorem dcS_core {S : Sto X.prog X.w} {pn : List (Addr × Obj)} {sh : Shared} {τ : L2.St} {H : Hp} {Q : VK} {use : Option (Value → Sem Unit)} {Fin : Value → Shared → Prop} {pos' : Pos} {kx vx tg iter : Expr} {ifs : List Expr} {scope : Scope} {own : List (Str × Nat)} {pos : Pos} {wi : TI} {g : TG} {tt : TT} {tk tv : TE} (hu : X.A.units + 10 < cLine) (calm : X.calm = true) (uniq : X.N.Nodup) (walk : PI X tg iter wi) (blk : BlkOk X.N X.env.scope scope own)
    (hg : ∀ (sh : Shared) (H : Hp) (C : Addr) (cl : List (Str × Addr)) (fq : List Addr), PG (X.blk sh H scope (compEnvC scope cl C X.env) fq) tg g) (ht : ∀ (sh : Shared) (H : Hp) (C : Addr) (cl : List (Str × Addr)) (fq : List Addr), PTs (X.blk sh H scope (compEnvC scope cl C X.env) fq) ifs tt)
    (hk : ∀ (sh : Shared) (H : Hp) (C : Addr) (cl : List (Str × Addr)) (fq : List Addr), PE (X.blk sh H scope (compEnvC scope cl C X.env) fq) kx tk)
    (hv : ∀ (sh : Shared) (H : Hp) (C : Addr) (cl : List (Str × Addr)) (fq : List Addr), PE (X.blk sh H scope (compEnvC scope cl C X.env) fq) vx tv) (fold : ∀ x, foldedSetIterable iter X.env x = pure x) (inv : Inv X pn τ H sh) (told : tDcS S wi g tt tk tv (own.map (·.2)) τ H Q)
    (post : ∀ D C b' m H', Inv X pn τ H' b' → Q (.ref D) H' → b'.heap.Ns C m → FpOk X pn H' C → compPost (model X.prog X.w) X.A X.xe use Fin (.ref D) C (.ok .next) b') :
    wpAny (model X.prog X.w) X.A (comprehension (.DictComp kx vx [⟨tg, iter, ifs, 0⟩] scope pos) scope X.env pos' newDict false (eval iter X.env) use) Fin X.xe sh := by
  have free : ∀ nm ∈ scope.names, nm.2 = .free → ∃ c, X.env.cells.lookup nm.1 = some c := fun nm hn e => by
    rcases blk.free nm hn e with kk | kk
    · exact inv.ok.has _ (.inl kk)
    · exact inv.ok.has _ (.inr kk)
  refine wpAny_comprehension_free (use := use) rfl fold (closure_ok free) blk.kind (fun nm hn e => by rw [blk.uniq nm hn, e])
    (thn (walk.run pn sh τ H _ inv told) fun xv a1 hx => thn hx fun itv a2 h2 => ?_)
  obtain ⟨it, fq, tn, J, H2, eit, inv2, trn, st2, fp2, more⟩ := h2
  subst eit
  refine wpAny_newObj_type (newEnv_comp ?_)
  generalize hD : a2.heap.objs.size = D
  obtain ⟨Z, ⟨m0, z0⟩, turn⟩ := more D (inv2.hok.fresh (Nat.le_of_eq hD))
  generalize ha3 : ({ a2 with heap := a2.heap.push { cls := .type "dict", data := .dict #[] } } : Shared) = a3
  have inv3 : Inv X pn τ (upd H2 D (S.first D)) a3 := by
    rw [← ha3]
    refine inv2.laid (t' := a2.toks) (fun b o e => Heap.get?_push_of_some _ e) (Nat.le_of_eq hD) ?_
    rw [← hD]; exact S.born a2.heap inv2.big
  have hp3 : a3.heap = a2.heap.push { cls := .type "dict", data := .dict #[] } := by rw [← ha3]
  have small : ∀ b ∈ fq, b < a2.heap.objs.size := fun b hb => by
    obtain ⟨o, eo, _⟩ := trn.obj _ _ st2 b hb
    exact Heap.lt_size eo
  have fp3 : ∀ b ∈ fq, FpOk X pn (upd H2 D (S.first D)) b ∧ b < a3.heap.objs.size := fun b hb => by
    have lt := small b hb
    refine ⟨⟨?_, (fp2 b hb).2⟩, by rw [hp3, Heap.size_push]; exact Nat.lt_succ_of_lt lt⟩
    rw [upd_ne (by rw [← hD]; exact Nat.ne_of_lt lt)]; exact (fp2 b hb).1
  have tn3 : tn 0 a3.heap := trn.keep _ _ _ st2 fun b _ o e => by rw [hp3]; exact Heap.get?_push_of_some _ e
  have inv4 := block_start inv3 blk uniq fp3
  have pg := hg a3 (upd H2 D (S.first D)) a3.heap.objs.size (cellsFrom (a3.heap.objs.size + 1) scope.names (cloFrom X.env.cells scope.names [])) fq
  have pt := ht a3 (upd H2 D (S.first D)) a3.heap.objs.size (cellsFrom (a3.heap.objs.size + 1) scope.names (cloFrom X.env.cells scope.names [])) fq
  have pk := hk a3 (upd H2 D (S.first D)) a3.heap.objs.size (cellsFrom (a3.heap.objs.size + 1) scope.names (cloFrom X.env.cells scope.names [])) fq
  have pv := hv a3 (upd H2 D (S.first D)) a3.heap.objs.size (cellsFrom (a3.heap.objs.size + 1) scope.names (cloFrom X.env.cells scope.names [])) fq
  show codeAny _ _ (.compStart (.DictComp kx vx [⟨tg, iter, ifs, 0⟩] scope pos) 0 (.ref it) (.ref D) (compEnvC scope (cellsFrom (a3.heap.objs.size + 1) scope.names (cloFrom X.env.cells scope.names [])) a3.heap.objs.size X.env)) (compPost (model X.prog X.w) X.A X.xe use Fin (.ref D) a3.heap.objs.size) { a3 with heap := pushCells (a3.heap.push { cls := .type "dict", data := .dict #[] }) scope.names }
  have none3 : ∀ b ∈ fq, (upd H2 D (S.first D)) b = none := fun b hb => (fp3 b hb).1.1
  generalize hce : compEnvC scope (cellsFrom (a3.heap.objs.size + 1) scope.names (cloFrom X.env.cells scope.names [])) a3.heap.objs.size X.env = ce at inv4 pg pt pk pv ⊢
  have lce : ce.locals = a3.heap.objs.size := by subst hce; rfl
  generalize hH3 : upd H2 D (S.first D) = H3 at inv3 inv4 pg pt pk pv z0 none3 fp3
  generalize ha4 : ({ a3 with heap := pushCells (a3.heap.push { cls := .type "dict", data := .dict #[] }) scope.names } : Shared) = a4 at inv4 ⊢
  have tn4 : tn 0 a4.heap := trn.keep _ _ _ tn3 fun b _ o e => by rw [← ha4]; exact pushCells_keeps _ _ _ _ (Heap.get?_push_of_some _ e)
  have stay : ∀ {τ' : L2.St} {H' : Hp} {b' : Shared}, Inv (X.blk a3 H3 scope ce fq) [] τ' H' b' → (∀ b ∈ fq, H' b = none) → ∀ b ∈ fq, FpOk (X.blk a3 H3 scope ce fq) [] H' b := fun {τ' H' b'} i' nn b hb =>
    ⟨nn b hb, (i'.ok.exf b hb).1, i'.ok.exfs b hb, .inl hb, fun x c e => (i'.ok.exf b hb).2 x c e, fun p hp => absurd (show p ∈ ([] : List (Addr × Obj)) ++ [] from hp) (by simp)⟩
  have round : codeAny (model X.prog X.w) X.A (.compLoop (.DictComp kx vx [⟨tg, iter, ifs, 0⟩] scope pos) 0 (.ref it) (.ref D) ce) (compPost (model X.prog X.w) X.A X.xe use Fin (.ref D) a3.heap.objs.size) a4 := by
    refine compLoop_anyD (fun k b' => ∃ i H', Inv (X.blk a3 H3 scope ce fq) [] (wipe τ (own.map (·.2))) H' b' ∧ tn i b'.heap ∧ (∀ b ∈ fq, H' b = none) ∧ Z i k H') ?_ m0 ⟨0, H3, inv4, tn4, none3, z0⟩
    rintro k a5 ⟨i, H5, inv5, tn5, none5, z5⟩
    rcases turn i k H5 z5 with ⟨halt, fin⟩ | ⟨go, Nx, next, step⟩
    · have end' := trn.done (X.blk a3 H3 scope ce fq) rfl rfl rfl calm i [] a5 _ H5 (fun _ _ => False) inv5 (stay inv5 none5) tn5 halt
      refine thnF end' fun rr a6 ⟨hrr, inv6⟩ => ?_
      subst hrr
      have inv7 : Inv X pn τ H5 a6 := inv3.call' (ch := fq) inv6.os inv6.base inv6.hok inv6.bare fun b hb => ⟨(fp3 b hb).1.2.2.2.1, (fp3 b hb).1.2.1, (fp3 b hb).1.2.2.2.2.1, (fp3 b hb).1.2.2.2.2.2⟩
      have noneC : H5 a3.heap.objs.size = none := by
        have zz : H5 ce.locals = none := inv6.free
        rwa [lce] at zz
      obtain ⟨mm, hmm, _⟩ := inv6.loc
      have hmm : a6.heap.Ns ce.locals mm := hmm
      rw [lce] at hmm
      exact post D a3.heap.objs.size a6 mm H5 inv7 fin hmm (inv3.fpOk (Nat.le_refl _) noneC)
    · have item := trn.item (X.blk a3 H3 scope ce fq) rfl rfl rfl calm i [] a5 _ H5 (fun _ _ => False) inv5 (stay inv5 none5) tn5 go
      refine thnF item fun rr a6 ⟨u, hrr, h6⟩ => ?_
      subst hrr
      refine thnF h6 fun _ a7 ⟨x, H7, inv7, rx, hy, tn7, none7⟩ => ?_
      have inv7' := inv7.pinned (stay inv7 none7) (trn.obj _ _ tn7)
      refine thnF (pg.run _ a7 _ H7 x u _ inv7' rx (step x H7 hy)) fun _ a8 ⟨τ8, H8, inv8, wp8, h8⟩ => ?_
      refine thnF (pt.run _ a8 τ8 H8 _ inv8 h8) fun b a9 ⟨H9, inv9, h9⟩ => ?_
      have again : ∀ {b' : Shared} {H' : Hp}, Inv (X.blk a3 H3 scope ce fq) ([] ++ pinsAt fq a7.heap) τ8 H' b' → Nx H' → ∃ m, m < k ∧ ∃ i H', Inv (X.blk a3 H3 scope ce fq) [] (wipe τ (own.map (·.2))) H' b' ∧ tn i b'.heap ∧ (∀ b ∈ fq, H' b = none) ∧ Z i m H' := fun {b' H'} i' nx => by
        obtain ⟨m', hm, z'⟩ := next H' nx
        have pinned : ∀ b ∈ fq, ∀ o, a7.heap.get? b = some o → b'.heap.get? b = some o ∧ H' b = none := fun b hb o e =>
          let zz := i'.pin (b, o) (List.mem_append_right _ (List.mem_append_right _ (mem_pinsAt hb e)))
          ⟨zz.1, zz.2.1⟩
        have hl : (wipe τ (own.map (·.2))).length = τ8.length := by rw [← wp8, wipe_length]
        refine ⟨m', hm, i + 1, H', (i'.unpinned (pins := [])).weak hl (fun j v e => ?_), trn.keep _ _ _ tn7 fun b hb o e => (pinned b hb o e).1, fun b hb => ?_, z'⟩
        · rw [← wp8] at e
          exact (wipe_some e).1
        · obtain ⟨o, eo, _⟩ := trn.obj _ _ tn7 b hb
          exact (pinned b hb o eo).2
      cases b with
      | false =>
        simp only [Bool.false_eq_true, if_false] at h9 ⊢
        exact again inv9 h9
      | true =>
        simp only [if_true] at h9 ⊢
        refine thnF (pk.run _ a9 τ8 H9 _ inv9 h9) fun kv a10 ⟨yk, H10, inv10, rk, h10⟩ => ?_
        refine thnF (pv.run _ a10 τ8 H10 _ inv10 h10) fun vv a11 ⟨yv, H11, inv11, rv, H12, sto, nx⟩ => ?_
        exact S.store (X := X.blk a3 H3 scope ce fq) rfl rfl hu inv11 sto rk rv fun a12 inv12 => again inv12 nx
  exact codeAny_compStart_dict round (trn.self X.A 0 _ _ _ tn4 round)
theorem pe_dcS {S : Sto X.prog X.w} {kx vx tg iter : Expr} {ifs : List Expr} {scope : Scope} {own : List (Str × Nat)} {pos : Pos} {wi : TI} {g : TG} {tt : TT} {tk tv : TE} (hu : X.A.units + 10 < cLine) (calm : X.calm = true) (uniq : X.N.Nodup) (walk : PI X tg iter wi) (blk : BlkOk X.N X.env.scope scope own)
    (hg : ∀ (sh : Shared) (H : Hp) (C : Addr) (cl : List (Str × Addr)) (fq : List Addr), PG (X.blk sh H scope (compEnvC scope cl C X.env) fq) tg g) (ht : ∀ (sh : Shared) (H : Hp) (C : Addr) (cl : List (Str × Addr)) (fq : List Addr), PTs (X.blk sh H scope (compEnvC scope cl C X.env) fq) ifs tt)
    (hk : ∀ (sh : Shared) (H : Hp) (C : Addr) (cl : List (Str × Addr)) (fq : List Addr), PE (X.blk sh H scope (compEnvC scope cl C X.env) fq) kx tk)
    (hv : ∀ (sh : Shared) (H : Hp) (C : Addr) (cl : List (Str × Addr)) (fq : List Addr), PE (X.blk sh H scope (compEnvC scope cl C X.env) fq) vx tv) (fold : ∀ x, foldedSetIterable iter X.env x = pure x := by intro _; rfl) :
    PE X (.DictComp kx vx [⟨tg, iter, ifs, 0⟩] scope pos) (tDcS S wi g tt tk tv (own.map (·.2))) := by
  refine ⟨fun pn sh τ H Q inv told => ?_⟩
  rw [arm_eval_DictComp]
  refine dcS_core hu calm uniq walk blk hg ht hk hv fold inv told fun D C b' m H' inv' fin hm fpo => ⟨m, hm, fun h'' same => ?_⟩
  obtain ⟨k0, k1, k2, k3, k4, k5⟩ := fpo
  exact ⟨.ref D, H', inv'.turned (t' := b'.toks) (fun b o hb e => (same.2 b hb).trans e) k0 k1 k3 k4 k5, rfl, fin⟩
end
/-- squares and other pairs of flat things -/
def stoT (P : Program) (w : World) : Sto P w where
  first := fun _ => .dT []
  put := fun H D y z H' => ∃ kvs k b, H D = some (.dT kvs) ∧ y = .ref b ∧ H b = some (.tup (k.map kV)) ∧ kvs.length < sizeLine ∧ H' = upd H D (.dT (putK kvs k z))
  born := fun h hb => dt_empty h hb
  store := by
    intro X pn τ H H' sh A Er D y z u r R hP hw hu inv sto ry rz told
    subst hP; subst hw
    obtain ⟨kvs, k, b, eD, ey, eb, room, rfl⟩ := sto
    subst ey
    cases (show u = Value.ref b from ry)
    obtain ⟨zl, nd, xs, rel, dd⟩ := dt_of inv.hok eD
    have zx : xs.length ≤ sizeLine := by rw [← Paired.length rel]; exact zl
    have zp : (putK kvs k z).length ≤ sizeLine := by have := length_putK kvs k z; omega
    refine wpAny_dictSet_heap (knd := tupleKind (mixKind X.prog X.w)) (hsz := zx) (show A.units < cLine by omega) (key_of inv.hok eb) dd fun h' dd' same => told _ ?_
    obtain ⟨q, es, ep, hq, h2, h3, h4, _, h5⟩ := dd'
    refine d_write inv (by rw [eD]; exact True.intro) same ⟨q, hq⟩ ⟨zp, nd, _, (rel.put k eb rz).keeps fun c ys ec => ?_, q, es, ep, hq, h2, h3, h4, h5⟩
    rw [upd_ne (L2.ne_of ec eD (fun zz => nomatch zz))]; exact ec
end Y

/-! dict comprehensions in the layer -/
namespace Y
open PySem PySem.Spec PyProof.Rows L2
open NKey (toN)
namespace WP
variable {α κ β : Type}
/-- one item after another put in -/
def dcomp (pu : List (κ × β) → κ → β → List (κ × β)) (c : α → WP Bool) (fk : α → WP κ) (fv : α → WP β) : List α → List (κ × β) → WP (List (κ × β))
  | [], kvs => pure kvs
  | x :: xs, kvs => (c x).bind fun b => cond b ((fk x).bind fun k => (fv x).bind fun v => dcomp pu c fk fv xs (pu kvs k v)) (dcomp pu c fk fv xs kvs)
abbrev dc (pu : List (κ × β) → κ → β → List (κ × β)) (w : WP (List α)) (c : α → WP Bool) (fk : α → WP κ) (fv : α → WP β) : WP (List (κ × β)) := w.bind fun xs => (req (xs.length ≤ 99999) xs).bind fun xs => dcomp pu c fk fv xs []
end WP
/-- a kind of dict as the layer sees it -/
structure DKd {P : Program} {w : World} (S : Sto P w) (κ β : Type) [PyI κ] [PyI β] where
  kd : Kd (List (κ × β))
  pu : List (κ × β) → κ → β → List (κ × β)
  nil : ∀ {W : Wo} {D : Addr}, W.H D = none → kd.own ⟨upd W.H D (S.first D), W.F, W.n⟩ [D] [] (.ref D)
  obj : ∀ {W : Wo} {D : Addr} {kvs v}, kd.own W [D] kvs v → v = .ref D ∧ ∃ o, W.H D = some o ∧ ∀ xs, o ≠ .tup xs
  step : ∀ {W : Wo} {D : Addr} {kvs k b y z}, kd.own W [D] kvs (.ref D) → ¬ W.F D → Rp W k y → Rp W b z → kvs.length < 100000 → ∃ u, S.put W.H D y z (upd W.H D u) ∧ kd.own (W.set D u) [D] (pu kvs k b) (.ref D)
  len : ∀ kvs k b, (pu kvs k b).length ≤ kvs.length + 1
section
variable {P : Program} {w0 : World} {S : Sto P w0} {α β γ κ : Type} [PyI κ] [PyI β] {K : PySem.W.Frag} {e : Ef} {σ : L2.St} {W W2 : Wo} {ta tb te tc tl tk tv : TE} {t u : TT} {i j k m n : Nat} {v : V} {g : TG} {vs0 : List Nat} {wi : TI}
structure AccD (k : DKd S κ β) (e : Ef) (D : Addr) (W2 W' : Wo) (kvs : List (κ × β)) : Prop where
  g : Gw e W2 W'
  h : k.kd.own W' [D] kvs (.ref D)
  f : ¬ W'.F D
theorem AccD.go {k : DKd S κ β} {D : Addr} {W2 W' W3 : Wo} {kvs : List (κ × β)} (o : AccD k e D W2 W' kvs) (nS : ¬ e.S D) (g : Gw e W' W3) : AccD k e D W2 W3 kvs := by
  obtain ⟨_, ob, h1, _⟩ := k.obj o.h
  exact ⟨o.g.trans g, Kd.go g (fun a m => by rw [List.mem_singleton.mp m]; exact nS) o.h, fun z => (g.new D z).elim o.f (some_ne h1)⟩
theorem ew_dcX (k : DKd S κ β) {val : Wo → α → V → Prop} {w : WP (List α)} {T : α → Wo → L2.St → Prop} {c : α → WP Bool} {fk : α → WP κ} {fv : α → WP β} (h : Src e wi σ W (fun a => W.H a ≠ none) val w) (ht : Takes val g σ vs0 T) (hw : ∀ a W' s2, T a W' s2 → wipe s2 vs0 = wipe σ vs0)
    (hc : ∀ a W1 s2, Gw e W W1 → T a W1 s2 → EvT e t s2 W1 (c a)) (hk : ∀ a W1 s2, Gw e W W1 → T a W1 s2 → EvW e tk s2 W1 sI (fk a)) (hv : ∀ a W1 s2, Gw e W W1 → T a W1 s2 → EvW e tv s2 W1 sI (fv a)) : EvW e (tDcS S wi g t tk tv vs0) σ W (sN k.kd) (WP.dc k.pu w c fk fv) := fun W1 gW Q q =>
  h W1 gW _ (w.mono (fun n xs hq W2 J fp g2 hn hfp hJ => by
    subst hn
    have hz : xs.length ≤ 99999 := hq.1
    intro D hD
    have hg := g2.ok
    have nS : ¬ e.S D := fun s => hg.S D s hD
    have gW2 := gW.trans g2
    let QQ : Nat → List (κ × β) → Prop := fun n ys => ∀ v W3, Gw e W1 W3 → W3.n = n → (sN (e := e) k.kd).post W1 W3 ys v → Q v W3.H
    let Pv : Nat → Hp → Prop := fun i H => ∃ W' ys, W'.H = H ∧ AccD k e D W2 W' ys ∧ Kp fp W2 W' ∧ ys.length ≤ i ∧ (WP.dcomp k.pu c fk fv (xs.drop i) ys).run W'.n QQ
    refine ⟨fun i m H => m = xs.length - i ∧ i ≤ xs.length ∧ Pv i H, ⟨xs.length, by simp, Nat.zero_le _, ⟨upd W2.H D (S.first D), W2.F, W2.n⟩, [], rfl, ⟨Gw.alloc hg hD, k.nil hD, fun z => (hg.F D z).2 hD⟩, Kp.gw (Gw.alloc hg hD) (fun a m => (hfp a m).2.1), Nat.le_refl _, by rw [List.drop_zero]; exact hq.2⟩, ?_⟩
    rintro i m H ⟨rfl, hi, W', ys, rfl, ok, kp, hlen, hr⟩
    obtain ⟨j1, j2, j3⟩ := hJ W' ok.g.st kp
    by_cases hlt : i < xs.length
    · refine .inr ⟨j1 i hlt, Pv (i + 1), fun H' p' => ⟨xs.length - (i + 1), by omega, rfl, hlt, p'⟩, fun x H' hy => ?_⟩
      obtain ⟨e1, a, ha, va⟩ := j3 i x H' hlt hy
      subst e1
      have ed : xs.drop i = a :: xs.drop (i + 1) := by rw [List.drop_eq_getElem_cons hlt, (List.getElem?_eq_some_iff.mp ha).2]
      rw [ed] at hr
      have gWW := gW2.trans ok.g
      refine ht a x W' _ va fun s2 hs2 => ⟨hw a W' s2 hs2, ?_⟩
      refine hc a W' s2 gWW hs2 W' (Gw.refl ok.g.ok) _ ((c a).mono (fun n b hq W3 g3 hn => ?_) hr)
      subst hn
      have ok3 := ok.go nS g3
      have k3 := kp.trans (Kp.gw g3 fun a m => (hfp a m).2.1)
      cases b with
      | false => exact ⟨W3, ys, rfl, ok3, k3, by omega, hq⟩
      | true =>
        refine hk a W' s2 gWW hs2 W3 g3 _ ((fk a).mono (fun n q hq y W4 g4 hn r => ?_) hq)
        subst hn
        refine hv a W' s2 gWW hs2 W4 (g3.trans g4) _ ((fv a).mono (fun n b hq z W5 g5 hn r5 => ?_) hq)
        subst hn
        have ok5 := ok3.go nS (g4.trans g5)
        obtain ⟨_, ob, ho, nt⟩ := k.obj ok5.h
        obtain ⟨u, q1, q2⟩ := k.step ok5.h ok5.f (PyI.st g5.st r) r5 (by omega)
        refine ⟨_, q1, W5.set D u, k.pu ys q b, rfl, ⟨Gw.mut hg ok5.g hD ho nt ok5.f, q2, ok5.f⟩, (k3.trans (Kp.gw (g4.trans g5) fun a m => (hfp a m).2.1)).upd (fun b m z => (hfp b m).2.2 (z ▸ hD)), by have := k.len ys q b; omega, ?_⟩
        exact hq
    · have e2 : i = xs.length := by omega
      subst e2
      rw [List.drop_length] at hr
      have hr : QQ W'.n ys := hr
      exact .inl ⟨j2, hr _ W' (g2.trans ok.g) rfl ⟨[D], ok.h, fun b mb => by
        cases List.mem_singleton.mp mb
        exact ⟨g2.live _ hD, nS, ok.f⟩⟩⟩) q)
end
section
variable {β κ : Type} [PyI β] [PyI κ] [NKey κ] [DecidableEq κ]
theorem putQ_le (kvs : List (Sq × β)) (k : Sq) (b : β) : (putQ kvs k b).length ≤ kvs.length + 1 := by
  unfold putQ
  split
  · rw [List.length_map]; omega
  · rw [List.length_append, List.length_singleton]; omega
def dkQ (P : Program) (w : World) (β : Type) [PyI β] : DKd (stoT P w) Sq β where
  kd := kD β
  pu := putQ
  nil := fun hD => ⟨_, [], rfl, rfl, upd_same, .nil⟩
  obj := fun ⟨p, ks, h1, h2, h3, h4⟩ => by
    cases h1
    exact ⟨h2, _, h3, fun _ z => by cases z⟩
  step := by
    intro W D kvs k b y z ho hF rk rz hl
    obtain ⟨p, ks, h1, h2, h3, h4⟩ := ho
    cases h1
    obtain ⟨bk, e1, e2⟩ := rp_key rk
    have s12 := St.mut (u := .dT (putK ks (kSq k) z)) h3 (fun _ z => by cases z) hF
    refine ⟨.dT (putK ks (kSq k) z), ⟨ks, kSq k, bk, h3, e1, e2, by rw [← Paired.length h4]; exact sz_lt hl, rfl⟩, _, _, rfl, rfl, upd_same, ?_⟩
    exact put_kv (Paired.imp (fun a b h => ⟨h.1, PyI.st s12 h.2⟩) h4) k (PyI.st s12 rz)
  len := putQ_le
end
end Y

/-! a dict with nested keys that is gone through in a comprehension and changed later; two locked dicts handed back -/
namespace Y
open PySem PySem.Spec PyProof.Rows L2
open NKey (toN)
section
variable {κ κ' β' α β γ δ : Type} [PyI κ] [NKey κ] [DecidableEq κ] [PyI β] [PyI κ'] [NKey κ'] [PyI β'] {P : Program} {w : World} {K : PySem.W.Frag} {e : Ef} {σ : L2.St} {W W0 : Wo} {ta tb te td : TE} {t tz : TS} {i j : Nat} {v : V} {D : Ends} {R : Nat → γ → Prop} {fp : List Addr}
end
/-! tuples of one kind, displayed -/
section
variable {α : Type} [PyI α] {e : Ef} {σ : L2.St} {W : Wo} {ta tb tc : TE}
end
end Y
namespace Y
open PySem PySem.Spec PyProof.Rows L2
/-! x is True, x is not False -/
namespace WP
abbrev isB (w : WP Bool) (d : Bool) : WP Bool := w.bind fun c => pure (c == d)
abbrev notB (w : WP Bool) (d : Bool) : WP Bool := w.bind fun c => pure (!(c == d))
end WP
def tNotB (d : Bool) (ta : TE) : TE := fun σ H Q => ta σ H fun x H1 => ∃ c, x = .bl c ∧ Q (.bl (!(c == d))) H1
theorem isnot_blY {M : Model} {A : _} {E : _} {c d : Bool} {Q : Value → Shared → Prop} {s : Shared} (h : Q (.bool (!(c == d))) s) : wpAny M A (compareOp .IsNot (.bool c) (.bool d)) Q E s := by
  cases c <;> cases d <;> exact wpAny_pure h
theorem pc_notB {X : Cx} {a : Expr} {ta : TE} {d : Bool} {j pos'} (ha : PE X a ta) : PC X .IsNot a (.Constant (.bool d) j pos') (tNotB d ta) := by
  refine ⟨fun pins s σ H Q I h => ?_⟩
  refine thn (ha.run pins s σ H _ I h) fun v s1 ⟨x, H1, I1, r1, c, ex, q1⟩ => ?_
  subst ex
  cases (show v = Value.bool c from r1)
  exact Constant_bool (isnot_blY ⟨.bl _, H1, I1, rfl, q1⟩)
section
variable {e : Ef} {σ : L2.St} {W : Wo} {ta : TE} {w : WP Bool} {d : Bool}
theorem ew_notB (h : EvW e ta σ W sI w) : EvW e (tNotB d ta) σ W sI (WP.notB w d) := fun W1 g Q q =>
  h W1 g _ (w.mono (fun n a hq v W2 g2 hn r => by cases r; exact ⟨_, rfl, hq _ W2 g2 hn rfl⟩) q)
end
end Y

/-! for k, v in d.items(), d locked, its keys nested -/
namespace Y
open PySem PySem.Spec PyProof.Rows L2
end Y

/-! d.items() of a locked dict with nested keys in a for; such a dict or None; triples told by place; int of a bool -/
namespace Y
open PySem PySem.Spec PyProof.Rows L2
open NKey (toN)
theorem hn10 {n : Nat} {m : Nat} (h : n + 65 < m) : n + 10 < m := by omega
section
variable {κ α β γ δ s : Type} [PyI κ] [NKey κ] [DecidableEq κ] [PyI β] {P : Program} {w : World} {K : PySem.W.Frag} {e : Ef} {σ : L2.St} {W W0 : Wo} {td te : TE} {t tz tu : TS} {i n : Nat} {v : V} {D : Ends} {R : Nat → γ → Prop} {fp : List Addr}
/-! such a dict or None -/
end
/-! triples -/
instance {α β γ : Type} [Inhabited α] [Inhabited β] [Inhabited γ] : Inhabited (Tri α β γ) := ⟨⟨default, default, default⟩⟩
section
variable {α0 α1 α2 β : Type} [PyI α0] [PyI α1] [PyI α2] {e : Ef} {σ : L2.St} {W : Wo} {K : PySem.W.Frag} {ta te : TE} {i0 i1 i2 : Nat} {D : Ends} {tz : TS} {R : Nat → β → Prop} {w : WP (Tri α0 α1 α2)}
end
section
variable {e : Ef} {σ : L2.St} {W : Wo} {ta : TE}
end
/-! the rules with the program and the world told: within a comprehension's block -/
section
variable {X : Cx} {o i e f value : Expr} {pos pos' apos cpos : Pos} {td ty tv tx : TE} {P : Program} {w : World}
end
end Y

/-! reversed(list) gone through; max of the values of a dict whose keys are squares -/
namespace Y
open PySem PySem.Spec PyProof.Rows L2
open Sem (wp)
open RT
section
variable {α β γ : Type} {K : PySem.W.Frag} {e : Ef} {σ : L2.St} {W W2 : Wo} {td te : TE}
theorem src_Rev [PyI α] {w : WP (Ls α)} (h : EvW e te σ W sI w) : Src0 e (iRevA K te) σ W (fun W a x => Rp W a x) (w.bind fun x => WP.pure x.l.reverse) := fun W1 g R hm => h W1 g _ (w.mono (fun n xs hq v W2 g2 hn ⟨p, vs, e2, hF, hp, hr⟩ => by
  subst hn; subst e2
  refine ⟨p, vs, rfl, .inl ⟨SqL.of hp, hq W2 _ g2 rfl fun W' s _ => ?_⟩⟩
  have hp' := SqL.of (K := K) (s.c p _ hF hp)
  have el := Paired.length hr
  have el2 : xs.l.reverse.length = vs.length := by rw [List.length_reverse]; exact el
  refine ⟨fun i hi => ⟨by omega, vs, vs[vs.length - 1 - i]'(by omega), hp', by simp [show vs.length - 1 - i < vs.length by omega]⟩, by rw [el2]; exact Nat.le_refl _, fun i x H' hi y => ⟨y.1, ?_⟩⟩
  obtain ⟨a, ha, ra⟩ := hr.getV (y.2 vs hp')
  refine ⟨a, ?_, PyI.st s ra⟩
  rw [List.getElem?_reverse (by rw [el2] at hi; omega), el]
  exact ha) hm)
end
section
variable {X : Cx} {o : Expr} {p pos apos mpos : Pos} {td : TE}
theorem pi_rev {tg : Expr} {e : Expr} {te : TE} (hg : Gl X "reversed") (hm : X.mg "reversed" = none) (he : PE X e te) (hs : starEach [e] X.env = (false, eval e X.env) :: starEach [] X.env := by rfl) : PI X tg (.Call (.Name "reversed" p) [e] [] pos) (iRevA X.K te) := pi_revA hg hm he hs
/-- max(o.values()), a dict from tuples to ints, one at least -/
def tMaxVals (td : TE) : TE := fun σ H Q => td σ H fun x H1 => ∃ a kvs is, x = V.ref a ∧ Rd H1 a (.dT kvs) ∧ kvs.map (·.2) = is.map V.int ∧ is ≠ [] ∧ ∀ m, m ∈ is → (∀ j ∈ is, j ≤ m) → Q (.int m) H1
theorem pe_maxVals (hc : X.calm = true) (hg : Gl X "max") (hm : X.mg "max" = none) (hd : PE X o td) (hbase : attributeBase o "values" X.env (eval o X.env) = eval o X.env := by rfl) (hline : (apos.endLine == mpos.line) = true := by rfl)
    (hse : starEach [Expr.Call (.Attribute o "values" apos) [] [] mpos] X.env = [(false, eval (Expr.Call (.Attribute o "values" apos) [] [] mpos) X.env)] := by rfl) :
    PE X (.Call (.Name "max" p) [.Call (.Attribute o "values" apos) [] [] mpos] [] pos) (tMaxVals td) := by
  refine ⟨fun pins s σ H Q I h => ?_⟩
  refine wpAny_Call_Name_kw (ld_blt I hg hm (u := .builtin "max") (by first | rfl | decide +kernel) ?_ (by first | decide +kernel | decide) (by first | decide +kernel | decide))
  rw [hse]
  refine PySem.callWith_builtin1 (wpAny_Call_method0_late hbase hline (thn (hd.run pins s σ H _ I h) fun v s1 ⟨x, H1, I1, r1, a, kvs, is, ex, ha, hv, hne, q⟩ => ?_))
  subst ex
  obtain rfl : v = Value.ref a := r1
  obtain ⟨_, hsys, xs, rel, dof⟩ := dt_rd I1.hok ha
  obtain ⟨es, ep, raw, hse2, hent⟩ := dof.raw
  have raw' := raw
  obtain ⟨ob, ho, hx, hdat⟩ := raw'
  have k1 : ∀ b u, s1.heap.get? b = some u → (s1.heap.push { cls := .type "dict_values", data := .fields #[.ref a] }).get? b = some u := fun b u e => Heap.get?_push_of_some _ e
  refine ⟨"dict", "dict.values", F.plainAttrs_dict, F.slot_dict_values, F.type_dict_values, ⟨ob, ho, hx.1⟩, fun b e => ?_, Calls.callWith_builtin rfl (PySem.evalArgs_none ?_)⟩
  · cases e
    exact ⟨ob, ho, hx.2.1⟩
  refine call_meetsIn F.slot_dict_values ⟨ob, ho, hx.1⟩ F.entry_dict_values (F.args_dict_values_1 _) (meets_dict_values_raw a hsys) ⟨⟨es, ep, raw⟩, ?_⟩
  have raw1 : (s1.heap.push { cls := .type "dict_values", data := .fields #[.ref a] }).DictRaw a es ep := raw.at fun o e => k1 _ _ e
  have hlx : xs.length = is.length := by
    have e1 := congrArg List.length hv
    rw [List.length_map, List.length_map] at e1
    rw [← e1]
    exact (Paired.length rel).symm
  have hlen : 0 < es.size := by
    rw [hse2, hlx]
    exact List.length_pos_iff.mpr hne
  have hval : ∀ (i : Nat) (v : Value), (∃ hi : i < es.size, v = es[i].val) → ∃ t, v = Value.int (is.getD i 0) t := fun i v ⟨hi, hk⟩ => by
    obtain ⟨y, h1, _, h2, _⟩ := hent i hi
    obtain ⟨kv, h3, h4⟩ := Paired.getV rel h1
    have e1 : (kvs.map (·.2))[i]? = some kv.2 := by rw [List.getElem?_map, h3] <;> rfl
    rw [hv, List.getElem?_map] at e1
    obtain ⟨j, hj, e2⟩ := Option.map_eq_some_iff.mp e1
    have h5 := h4.2.2
    rw [← e2] at h5
    obtain ⟨t, e3⟩ := h5
    refine ⟨t, ?_⟩
    rw [hk, h2, e3, List.getD_eq_getElem?_getD, hj] <;> rfl
  refine call_max_walk (wpAny_pyIter_values_raw (v := s1.heap.objs.size) (d := a) ⟨_, Heap.get?_push_size _ rfl, rfl, rfl⟩ raw1 ?_)
  have hlt : a < s1.heap.objs.size := Heap.lt_size ho
  have hsz : (s1.heap.push { cls := .type "dict_values", data := .fields #[.ref a] }).objs.size = s1.heap.objs.size + 1 := Heap.size_push _ _
  refine ⟨_, _, _, _, _, _, _, rfl, Walks.rawValues (A := X.A.in1) (I.ok.hd hc) (s1.heap.push { cls := .type "dict_values", data := .fields #[.ref a] }).objs.size a (by rw [hsz]; exact Nat.ne_of_lt (Nat.lt_succ_of_lt hlt)) es ep,
    ⟨⟨_, Heap.get?_push_size _ rfl, rfl, rfl⟩, raw1.at fun o e => Heap.get?_push_of_some _ e⟩, fun b hb => ?_, hlen, CmpOf.ints_gt (fun i => is.getD i 0) hval, fun v h' tk hP hk => ?_⟩
  · show b < ((s1.heap.push _).push _).objs.size
    rw [Heap.size_push, Heap.size_push]
    rw [hsz] at hb
    rcases List.mem_cons.mp hb with e | hb
    · rw [e]
      exact Nat.lt_succ_self _
    · have e : b = a := List.mem_singleton.mp hb
      rw [e]
      exact Nat.lt_succ_of_lt (Nat.lt_succ_of_lt hlt)
  · obtain ⟨t, rfl⟩ := hval _ v hP
    obtain ⟨b1, b2⟩ := argBest_gt (fun i => is.getD i 0) (es.size - 1)
    refine ⟨.int _, H1, I1.kept (t' := tk) fun b u e => hk b u (fun hmem => ?_) (Heap.get?_push_of_some _ (k1 b u e)), ⟨t, rfl⟩, q _ ?_ fun j hj => ?_⟩
    · have e1 : b = (s1.heap.push { cls := .type "dict_values", data := .fields #[.ref a] }).objs.size := List.mem_singleton.mp hmem
      have e2 := Heap.lt_size e
      rw [e1, hsz] at e2
      exact absurd e2 (Nat.not_lt.mpr (Nat.le_succ _))
    · exact PySem.getD_mem (Nat.lt_of_le_of_lt b1 (by rw [← hlx, ← hse2]; exact Nat.sub_lt hlen Nat.one_pos))
    · obtain ⟨i, hi, rfl⟩ := mem_getD hj
      exact b2 i (by rw [← hlx, ← hse2] at hi; omega)
end
namespace WP
def vals {β : Type} (w : WP (List (Sq × β))) : WP (List β) := w.bind fun kvs => WP.pure (kvs.map (·.2))
end WP
section
variable {K : PySem.W.Frag} {e : Ef} {σ : L2.St} {W : Wo} {td : TE}
theorem kv_ints {W : Wo} : ∀ {kvs : List (Sq × Int)} {ks : List (List Key × V)}, Paired (Kv W) kvs ks → ks.map (·.2) = (kvs.map (·.2)).map V.int
  | [], [], _ => rfl
  | _ :: _, _ :: _, .cons h t => by
    have h2 : _ = V.int _ := h.2
    rw [List.map_cons, List.map_cons, List.map_cons, h2, kv_ints t]
theorem ew_maxVals {w : WP (List (Sq × Int))} (hd : EvW e td σ W (sR (kDr Int)) w) : EvW e (tMaxVals td) σ W sI (WP.maxL (WP.vals w)) := fun W1 g Q q =>
  hd W1 g _ (w.mono (fun n d hq v W2 g2 hn r2 => by
    obtain ⟨fp, ⟨p, ks, _, h2, h3, h4⟩, _⟩ := r2
    subst h2
    refine ⟨p, ks, d.map (·.2), rfl, h3, kv_ints h4, fun hn0 => ?_, fun m h5 h6 => ?_⟩
    · have h7 : 0 < (d.map (·.2)).length := hq.1
      rw [hn0] at h7
      exact absurd h7 (by decide)
    · exact hq.2 m ⟨h5, h6⟩ _ W2 g2 hn rfl) q)
end
end Y

namespace W
open PySem PySem.Spec L2 Y
def top (i : Nat) : Stmt := PySem.Challenge.pw_landandwater_k95_whole_ships_and_waters.main.body.getD i (.Pass ⟨0, 0, 0, 0⟩)
structure Glb (mg : Str → Option Value) : Prop where
  len : mg "len" = none
  range : mg "range" = none
  abs : mg "abs" = none
  int : mg "int" = none
  bool : mg "bool" = none
  sum : mg "sum" = none
  min : mg "min" = none
  max : mg "max" = none
  tuple : mg "tuple" = none
  isinstance : mg "isinstance" = none
  list : mg "list" = none
  reversed : mg "reversed" = none
  str : mg "str" = none
  c_LAND : ∃ t, mg "LAND" = some (.str "x" t)
  c_WATER : ∃ t, mg "WATER" = some (.str "." t)

section
variable {P : Program} {w : World} {K : PySem.W.Frag} {mg : Str → Option Value} {base : Heap}
abbrev s__law_take : Stmt := top 30
abbrev N__law_take : List Str := ["deal", "many", "at"]
abbrev P__law_take : List Str := ["deal", "many"]
theorem sc__law_take : FnScope N__law_take P__law_take (defScope s__law_take) := ⟨rfl, rfl, rfl, by decide +kernel, rfl, by decide +kernel, by decide +kernel⟩
theorem ok__law_take (F : At K mg "_law_take" s__law_take P__law_take) (G : Glb mg) : Has P w K mg base "_law_take" 1 P__law_take sp_take := by
  refine Has.of F sc__law_take (fun vs H Q E h => ?_) (fun f cdv A outer s H0 vs Q E hr h => ?_)
  · obtain ⟨d, W, many, rfl, _⟩ := h
    rfl
  · obtain ⟨d, W, many, rfl, rfl, hG, hlim, hpos, kk⟩ := h
    have sc := sc__law_take
    have hA := hG.ok
    have hn := hA.n
    have hp := hA.p
    have h1 := hA.l1
    have hb : (W.n : Int) ≤ 2 ^ 60 := by omega
    generalize hnn : W.n = n at *
    refine ⟨_, pss_cons (ps_set (i := 2) sc.nd rfl (Or.inl rfl) (pe_ix ix_list (pe_ix ix_list (pv 0) pe_int (fun _ _ => rfl)) pe_int (fun _ _ => rfl)))
      (pss_cons (ps_asg (pe_op op_add (pv 2) pe_int) (pg_sub (pe_ix ix_list (pv 0) pe_int (fun _ _ => rfl)) pe_int set_list))
      (pss_cons (ps_if (pt_cmpR op_lt (pv 2) (pe_callB call_len_seq (by rfl) G.len PySem.boot_len (pa_cons (pe_ix ix_list (pv 0) pe_int (fun _ _ => rfl)) pa_nil)) (nomark _))
        (pss_one (ps_ret (pe_op op_mod (pe_ix ix_list (pe_ix ix_list (pv 0) pe_int (fun _ _ => rfl)) (pv 2) (fun _ _ => rfl)) (pv 1)))) pss_nil)
      (pss_one (ps_ret (pe_op op_mod (pe_op op_fdiv (pe_op op_add (pe_op op_add (pe_op op_mul (pv 2) pe_int) (pe_op op_mul (pe_ix ix_list (pv 0) pe_int (fun _ _ => rfl)) pe_int)) (pe_op op_mul (pe_op op_mul (pv 2) (pv 2)) pe_int)) pe_int) (pv 1)))))), ?_⟩
    refine ⟨_, rfl, d.p, _, 1, .ref d.l2, rfl, rfl, SqL.of hp, rfl, d.l2, _, 0, .int (n : Int), rfl, rfl, SqL.of hn, rfl, ?_⟩
    refine ⟨_, rfl, (n : Int), 1, rfl, rfl, ?_⟩
    refine ⟨_, rfl, d.p, _, 1, .ref d.l2, rfl, rfl, SqL.of hp, rfl, d.l2, _, 0, 0, rfl, rfl, hn, rfl, ?_⟩
    have hp' : (upd W.H d.l2 (.lst [.int ((n : Int) + 1)])) d.p = some (.lst [.ref d.l1, .ref d.l2, .int d.tot]) := by rw [upd_ne hA.np]; exact hp
    have h1' : (upd W.H d.l2 (.lst [.int ((n : Int) + 1)])) d.l1 = some (.lst (d.row.map V.int)) := by rw [upd_ne hA.n1]; exact h1
    have gg := drawn hG
    rw [hnn] at gg
    have fin : ∀ x : Int, Q (.int (x % many)) (upd W.H d.l2 (.lst [.int ((n : Int) + 1)])) := fun x => kk (x % many) (Int.emod_nonneg _ (by omega)) (Int.emod_lt_of_pos _ hpos) _ ⟨upd W.H d.l2 (.lst [.int ((n : Int) + 1)]), W.F, n + 1⟩ gg rfl rfl
    refine ⟨_, rfl, _, rfl, d.p, _, 0, .ref d.l1, rfl, rfl, SqL.of hp', rfl, d.l1, _, rfl, .inl (SqL.of h1'), (n : Int), _, rfl, rfl, _, rfl, ?_⟩
    refine ite2 (fun hc => ?_) (fun hc => ?_)
    · have hlt : n < d.row.length := by
        have := of_decide_eq_true hc
        rw [List.length_map] at this
        omega
      have hx : atI (d.row.map V.int) (n : Int) = some (.int d.row[n]) := by
        refine atI_nat ?_
        rw [List.getElem?_map, List.getElem?_eq_getElem hlt]; rfl
      refine ⟨_, rfl, d.p, _, 0, .ref d.l1, rfl, rfl, SqL.of hp', rfl, _, rfl, d.l1, _, (n : Int), .int d.row[n], rfl, rfl, SqL.of h1', hx, _, rfl, d.row[n], many, rfl, rfl, hpos, ?_⟩
      exact fin _
    · have big : -(2 ^ 64 : Int) < (n : Int) ∧ (n : Int) < 2 ^ 64 := ⟨by omega, by omega⟩
      refine ⟨_, rfl, _, _, rfl, rfl, .inl big, ?_⟩
      refine ⟨_, rfl, d.p, _, 2, .int d.tot, rfl, rfl, SqL.of hp', rfl, _, _, rfl, rfl, .inr ⟨by decide, by decide⟩, _, _, rfl, rfl, ?_⟩
      refine ⟨_, rfl, _, rfl, _, _, rfl, rfl, .inl big, _, _, rfl, rfl, .inr ⟨by decide, by decide⟩, _, _, rfl, rfl, _, _, rfl, rfl, ⟨by decide, by decide⟩, _, rfl, _, many, rfl, rfl, hpos, ?_⟩
      exact fin _

abbrev s__law_deal : Stmt := top 29
abbrev N__law_deal : List Str := ["script", "row", "k", "cell", "turn", "total"]
abbrev P__law_deal : List Str := ["script"]
theorem sc__law_deal : FnScope N__law_deal P__law_deal (defScope s__law_deal) := ⟨rfl, rfl, rfl, by decide +kernel, rfl, by decide +kernel, by decide +kernel⟩
def m__law_deal (a_script : List Int) : WP Unit := (WP.row (WP.pure ([] : List Int))).bind fun a1_row => (WP.range1 (WP.min2 (WP.len (WP.pure a_script)) (WP.pure (63 : Int)))).bind fun xs2 => WP.after (WP.loop (γ := Unit) (fun c2 (y2 : (List Int)) => (WP.abs ((WP.ix (WP.pure a_script) (WP.pure c2)).bind WP.pure)).bind fun a3_cell => ((WP.ge (WP.pure a3_cell) (WP.pow (WP.pure (10 : Int)) (WP.pure (18 : Int)))).bind fun b => WP.cond b ((WP.range1 (WP.pure (40 : Int))).bind fun xs5 => WP.after (WP.loop (γ := Unit) (fun c5 (y5 : (List Int) × Int) => ((WP.gt (WP.pure y5.2) (WP.pure (0 : Int))).bind fun b => WP.cond b (((WP.mod (WP.pure y5.2) (WP.pure (1009 : Int))).bind fun a => WP.req (y5.1.length < 100000) (y5.1 ++ [a])).bind fun a7_row => (WP.fdiv (WP.pure y5.2) (WP.pure (1009 : Int))).bind fun a8_cell => (WP.pure (a7_row, a8_cell))) ((WP.pure (y5.1, y5.2)))).bind fun (y6 : (List Int) × Int) => (WP.pure (.nx (y6.1, y6.2)))) xs5 (y2, a3_cell)) (fun (z5 : (List Int) × Int) => (WP.pure (z5.1, z5.2))) (fun r => (WP.none (b := r)))) ((WP.add (WP.add (WP.mul (WP.mod (WP.pure a3_cell) (WP.pure (2147483629 : Int))) (WP.pure (48271 : Int))) (WP.mul (WP.pure c2) (WP.pure (69621 : Int)))) (WP.pure (11 : Int))).bind fun a9_cell => (WP.range1 (WP.pure (5 : Int))).bind fun xs10 => WP.after (WP.loop (γ := Unit) (fun c10 (y10 : (List Int) × Int) => (WP.mod (WP.add (WP.add (WP.mul (WP.pure y10.2) (WP.pure (16807 : Int))) (WP.pure (12345 : Int))) (WP.pure c10)) (WP.pure (2147483647 : Int))).bind fun a11_cell => ((WP.mod (WP.fdiv (WP.pure a11_cell) (WP.pure (7 : Int))) (WP.pure (1009 : Int))).bind fun a => WP.req (y10.1.length < 100000) (y10.1 ++ [a])).bind fun a12_row => (WP.pure (.nx (a12_row, a11_cell)))) xs10 (y2, a9_cell)) (fun (z10 : (List Int) × Int) => (WP.pure (z10.1, z10.2))) (fun r => (WP.none (b := r))))).bind fun (y4 : (List Int) × Int) => (WP.pure (.nx y4.1))) xs2 a1_row) (fun (z2 : (List Int)) => (WP.add (WP.sum (WP.pure z2)) (WP.len (WP.pure a_script))).bind fun a13_total => (WP.pure a13_total).bind fun _ => WP.pure ()) (fun r => (WP.pure r))
theorem ok__law_deal (LT : ∀ ns : List Int, ns.length ≤ 63 → ∀ n, (m__law_deal ns).run n fun _ _ => True) (F : At K mg "_law_deal" s__law_deal P__law_deal) (G : Glb mg)  : Has P w K mg base "_law_deal" 1 P__law_deal (sp_deal K) := by
  refine Has.of F sc__law_deal (fun vs H Q E h => ?_) (fun f cdv A outer s Hent vs Q E hr h => ?_)
  · obtain ⟨v_script, a_script, W0, rfl, _⟩ := h
    rfl
  · obtain ⟨v_script, a_script, W0, rfl, rfl, g00, h_script, hlen, kk⟩ := h
    have hm := LT a_script hlen W0.n
    have sc := sc__law_deal
    have g0 := Gw.refl g00
    unfold m__law_deal at hm
    refine ⟨_, (pss_cons (ps_set (i := 1) sc.nd rfl (Or.inl rfl) (pe_lst pa_nil))
      (pss_cons (ps_for PassesOwn.never rfl (pi_range1 rfl G.range (pa_cons (pe_callB (call_min2 rfl) (by rfl) G.min (by decide +kernel) (pa_cons (pe_callB call_len_seq (by rfl) G.len PySem.boot_len (pa_cons (pv 0) pa_nil)) (pa_cons pe_int pa_nil))) pa_nil)) (pg_name (i := 2) sc.nd rfl (Or.inl rfl))
      (pss_cons (ps_set (i := 3) sc.nd rfl (Or.inl rfl) (pe_callB call_abs (by rfl) G.abs (by decide +kernel) (pa_cons (pe_callTy call_int1 (by rfl) G.int (by decide +kernel) (pa_cons (pe_ix ix_list (pv 0) (pv 2) (fun _ _ => rfl)) pa_nil)) pa_nil)))
      (pss_one (ps_if (pt_cmpR op_ge (pv 3) (pe_op op_pow pe_int pe_int) (nomark _)) (pss_one (ps_for PassesOwn.never rfl (pi_range1 rfl G.range (pa_cons pe_int pa_nil)) (pg_name (i := 4) sc.nd rfl (Or.inl rfl))
      (pss_one (ps_if (pt_cmpR op_gt (pv 3) pe_int (nomark _)) (pss_cons (ps_expr (pe_bm PySem.F.plainAttrs_list PySem.F.slot_list_append PySem.F.type_list_append mt_append (pv 1) (pa_cons (pe_op op_mod (pv 3) pe_int) pa_nil)))
      (pss_one (ps_set (i := 3) sc.nd rfl (Or.inl rfl) (pe_op op_fdiv (pv 3) pe_int)))) pss_nil)))) (pss_cons (ps_set (i := 3) sc.nd rfl (Or.inl rfl) (pe_op op_add (pe_op op_add (pe_op op_mul (pe_op op_mod (pv 3) pe_int) pe_int) (pe_op op_mul (pv 2) pe_int)) pe_int))
      (pss_one (ps_for PassesOwn.never rfl (pi_range1 rfl G.range (pa_cons pe_int pa_nil)) (pg_name (i := 4) sc.nd rfl (Or.inl rfl))
      (pss_cons (ps_set (i := 3) sc.nd rfl (Or.inl rfl) (pe_op op_mod (pe_op op_add (pe_op op_add (pe_op op_mul (pv 3) pe_int) pe_int) (pv 4)) pe_int))
      (pss_one (ps_expr (pe_bm PySem.F.plainAttrs_list PySem.F.slot_list_append PySem.F.type_list_append mt_append (pv 1) (pa_cons (pe_op op_mod (pe_op op_fdiv (pv 3) pe_int) pe_int) pa_nil))))))))))))
      (pss_cons (ps_set (i := 5) sc.nd rfl (Or.inl rfl) (pe_op op_add (pe_callB (cr_sum rfl) (by rfl) G.sum (by decide +kernel) (pa_cons (pv 1) pa_nil)) (pe_callB call_len_seq (by rfl) G.len PySem.boot_len (pa_cons (pv 0) pa_nil))))
      (pss_one (ps_ret (pe_lst (pa_cons (pv 1) (pa_cons (pe_lst (pa_cons pe_int pa_nil)) (pa_cons (pv 5) pa_nil))))))))), ?_⟩
    refine q_asg (W := W0) (ew_lst (eas_nil (α := Int))) g0.ok hm fun a1_row v_row W1 g1 ⟨fp_row, ho0_row, hf_row⟩ hm => ?_
    have hz_row : ∀ a ∈ fp_row, W0.H a = none := fun a m => g0.live a (hf_row a m).1
    have g0 := g0.trans g1
    have ho_row : Var (kL Int) W0 W1 fp_row a1_row v_row := ⟨ho0_row, hz_row, fun b m => (hf_row b m).2.2⟩
    refine q_forR1 (W := W1) (ew_min2 (ew_lenQ rfl (sqL_g g0 h_script)) ew_int) g0.ok hm fun W2 g2 => ?_
    have ho_row := ho_row.go g00 g2
    have g0 := g0.trans g2
    refine ⟨fun y σ' W' => ∃ (v_row : V) (fp_row : List Addr) (o_k : Option V) (o_cell : Option V) (o_turn : Option V), σ' = [some (.ref v_script), some v_row, o_k, o_cell, o_turn, none] ∧ Gw ef0 W0 W' ∧ St W2 W' ∧ Var (kL Int) W0 W' fp_row y v_row, ⟨v_row, fp_row, _, _, _, rfl, g0, (St.refl _), ho_row⟩, fun c2 y2 σi s2 Wi2 R2 nx2 ht hI hm kn2 kb2 kr2 => ?_, fun z2 σi Wi2 hI hm => ?_⟩
    ·
      obtain ⟨v_row, fp_row, o_k, o_cell, o_turn, rfl, g0, sl2, ho_row⟩ := hI
      obtain ⟨v_k, rfl, h_k⟩ := ht
      refine q_asg (W := Wi2) (ew_abs (ew_int1 (ew_ixQ rfl (sqL_g g0 h_script) (ew_var (v := v_k) rfl h_k)))) g0.ok hm fun a3_cell v_cell W3 g3 h_cell hm => ?_
      have ho_row := ho_row.go g00 g3
      have h_k := PyI.st g3.st h_k
      have sl2 := sl2.trans g3.st
      have g0 := g0.trans g3
      first | refine norm_st (σ' := [some (.ref v_script), some v_row, some v_k, some v_cell, o_turn, none]) rfl ?_ | skip
      refine st_join (W := W3) (s := (List Int) × Int) (fun y σ' W' => ∃ (v_cell : V) (v_row : V) (fp_row : List Addr) (o_turn : Option V), σ' = [some (.ref v_script), some v_row, some v_k, some v_cell, o_turn, none] ∧ Gw ef0 W0 W' ∧ St W3 W' ∧ Var (kL Int) W0 W' fp_row y.1 v_row ∧ Rp W' y.2 v_cell) (et_t (ew_ge (ew_var (v := v_cell) rfl h_cell) (ew_pow ew_int ew_int))) g0.ok hm (fun y4 σj Wj4 hI hm => ?_) (fun W4 R4 g4 hm kj => ?_) (fun W4 R4 g4 hm kj => ?_)
      ·
        obtain ⟨v_cell, v_row, fp_row, o_turn, rfl, g0, sj4, ho_row, h_cell⟩ := hI
        have h_k := PyI.st sj4 h_k
        have sl2 := sl2.trans sj4
        exact kn2 y4.1 _ Wj4 ⟨v_row, fp_row, _, _, _, rfl, g0, sl2, ho_row⟩ hm
      ·
        have ho_row := ho_row.go g00 g4
        have h_k := PyI.st g4.st h_k
        have h_cell := PyI.st g4.st h_cell
        have sl2 := sl2.trans g4.st
        have g0 := g0.trans g4
        have sj4 := g4.st
        refine st_forR1 (W := W4) ew_int g0.ok hm fun W5 g5 => ?_
        have ho_row := ho_row.go g00 g5
        have h_k := PyI.st g5.st h_k
        have h_cell := PyI.st g5.st h_cell
        have sl2 := sl2.trans g5.st
        have sj4 := sj4.trans g5.st
        have g0 := g0.trans g5
        refine ⟨fun y σ' W' => ∃ (v_cell : V) (v_row : V) (fp_row : List Addr) (o_turn : Option V), σ' = [some (.ref v_script), some v_row, some v_k, some v_cell, o_turn, none] ∧ Gw ef0 W0 W' ∧ St W5 W' ∧ Var (kL Int) W0 W' fp_row y.1 v_row ∧ Rp W' y.2 v_cell, ⟨v_cell, v_row, fp_row, _, rfl, g0, (St.refl _), ho_row, h_cell⟩, fun c5 y5 σi s2 Wi5 R5 nx5 ht hI hm kn5 kb5 kr5 => ?_, fun z5 σi Wi5 hI hm => ?_⟩
        ·
          obtain ⟨v_cell, v_row, fp_row, o_turn, rfl, g0, sl5, ho_row, h_cell⟩ := hI
          have h_k := PyI.st sl5 h_k
          have sl2 := sl2.trans sl5
          have sj4 := sj4.trans sl5
          obtain ⟨v_turn, rfl, h_turn⟩ := ht
          refine st_join (W := Wi5) (s := (List Int) × Int) (fun y σ' W' => ∃ (v_cell : V) (v_row : V) (fp_row : List Addr), σ' = [some (.ref v_script), some v_row, some v_k, some v_cell, some v_turn, none] ∧ Gw ef0 W0 W' ∧ St Wi5 W' ∧ Var (kL Int) W0 W' fp_row y.1 v_row ∧ Rp W' y.2 v_cell) (et_t (ew_gt (ew_var (v := v_cell) rfl h_cell) ew_int)) g0.ok hm (fun y6 σj Wj6 hI hm => ?_) (fun W6 R6 g6 hm kj => ?_) (fun W6 R6 g6 hm kj => ?_)
          ·
            obtain ⟨v_cell, v_row, fp_row, rfl, g0, sj6, ho_row, h_cell⟩ := hI
            have h_k := PyI.st sj6 h_k
            have h_turn := PyI.st sj6 h_turn
            have sl2 := sl2.trans sj6
            have sj4 := sj4.trans sj6
            have sl5 := sl5.trans sj6
            exact kn5 (y6.1, y6.2) _ Wj6 ⟨v_cell, v_row, fp_row, _, rfl, g0, sl5, ho_row, h_cell⟩ hm
          ·
            have ho_row := ho_row.go g00 g6
            have h_k := PyI.st g6.st h_k
            have h_cell := PyI.st g6.st h_cell
            have h_turn := PyI.st g6.st h_turn
            have sl2 := sl2.trans g6.st
            have sj4 := sj4.trans g6.st
            have sl5 := sl5.trans g6.st
            have g0 := g0.trans g6
            have sj6 := g6.st
            refine q_app (W := W6) g00 g0 rfl ho_row (ew_mod (ew_var (v := v_cell) rfl h_cell) ew_int) hm fun a7_row W7_ W7 l_row el_row g7 s g02 kk ff ho_row hm => ?_
            have h_k := PyI.st g7.st h_k
            have h_cell := PyI.st g7.st h_cell
            have h_turn := PyI.st g7.st h_turn
            have sl2 := sl2.trans g7.st
            have sj4 := sj4.trans g7.st
            have sl5 := sl5.trans g7.st
            have sj6 := sj6.trans g7.st
            have g0 := g0.trans g7
            have h_k := PyI.st s h_k
            have h_cell := PyI.st s h_cell
            have h_turn := PyI.st s h_turn
            have sl2 := sl2.trans s
            have sj4 := sj4.trans s
            have sl5 := sl5.trans s
            have sj6 := sj6.trans s
            have g0 := g02
            refine st_asg (W := W7) (ew_fdiv (ew_var (v := v_cell) rfl h_cell) ew_int) g0.ok hm fun a8_cell v_cell W8 g8 h_cell hm => ?_
            have ho_row := ho_row.go g00 g8
            have h_k := PyI.st g8.st h_k
            have h_turn := PyI.st g8.st h_turn
            have sl2 := sl2.trans g8.st
            have sj4 := sj4.trans g8.st
            have sl5 := sl5.trans g8.st
            have sj6 := sj6.trans g8.st
            have g0 := g0.trans g8
            exact kj (a7_row, a8_cell) _ W8 ⟨v_cell, v_row, fp_row, rfl, g0, sj6, ho_row, h_cell⟩ hm
          ·
            have ho_row := ho_row.go g00 g6
            have h_k := PyI.st g6.st h_k
            have h_cell := PyI.st g6.st h_cell
            have h_turn := PyI.st g6.st h_turn
            have sl2 := sl2.trans g6.st
            have sj4 := sj4.trans g6.st
            have sl5 := sl5.trans g6.st
            have g0 := g0.trans g6
            have sj6 := g6.st
            refine st_next ?_
            exact kj (y5.1, y5.2) _ W6 ⟨v_cell, v_row, fp_row, rfl, g0, sj6, ho_row, h_cell⟩ hm
        ·
          obtain ⟨v_cell, v_row, fp_row, o_turn, rfl, g0, sl5, ho_row, h_cell⟩ := hI
          have h_k := PyI.st sl5 h_k
          have sl2 := sl2.trans sl5
          have sj4 := sj4.trans sl5
          exact kj (z5.1, z5.2) _ Wi5 ⟨v_cell, v_row, fp_row, _, rfl, g0, sj4, ho_row, h_cell⟩ hm
      ·
        have ho_row := ho_row.go g00 g4
        have h_k := PyI.st g4.st h_k
        have h_cell := PyI.st g4.st h_cell
        have sl2 := sl2.trans g4.st
        have g0 := g0.trans g4
        have sj4 := g4.st
        refine q_asg (W := W4) (ew_add (ew_add (ew_mul (ew_mod (ew_var (v := v_cell) rfl h_cell) ew_int) ew_int) (ew_mul (ew_var (v := v_k) rfl h_k) ew_int)) ew_int) g0.ok hm fun a9_cell v_cell W9 g9 h_cell hm => ?_
        have ho_row := ho_row.go g00 g9
        have h_k := PyI.st g9.st h_k
        have sl2 := sl2.trans g9.st
        have sj4 := sj4.trans g9.st
        have g0 := g0.trans g9
        first | refine norm_st (σ' := [some (.ref v_script), some v_row, some v_k, some v_cell, o_turn, none]) rfl ?_ | skip
        refine st_forR1 (W := W9) ew_int g0.ok hm fun W10 g10 => ?_
        have ho_row := ho_row.go g00 g10
        have h_k := PyI.st g10.st h_k
        have h_cell := PyI.st g10.st h_cell
        have sl2 := sl2.trans g10.st
        have sj4 := sj4.trans g10.st
        have g0 := g0.trans g10
        refine ⟨fun y σ' W' => ∃ (v_cell : V) (v_row : V) (fp_row : List Addr) (o_turn : Option V), σ' = [some (.ref v_script), some v_row, some v_k, some v_cell, o_turn, none] ∧ Gw ef0 W0 W' ∧ St W10 W' ∧ Var (kL Int) W0 W' fp_row y.1 v_row ∧ Rp W' y.2 v_cell, ⟨v_cell, v_row, fp_row, _, rfl, g0, (St.refl _), ho_row, h_cell⟩, fun c10 y10 σi s2 Wi10 R10 nx10 ht hI hm kn10 kb10 kr10 => ?_, fun z10 σi Wi10 hI hm => ?_⟩
        ·
          obtain ⟨v_cell, v_row, fp_row, o_turn, rfl, g0, sl10, ho_row, h_cell⟩ := hI
          have h_k := PyI.st sl10 h_k
          have sl2 := sl2.trans sl10
          have sj4 := sj4.trans sl10
          obtain ⟨v_turn, rfl, h_turn⟩ := ht
          refine q_asg (W := Wi10) (ew_mod (ew_add (ew_add (ew_mul (ew_var (v := v_cell) rfl h_cell) ew_int) ew_int) (ew_var (v := v_turn) rfl h_turn)) ew_int) g0.ok hm fun a11_cell v_cell W11 g11 h_cell hm => ?_
          have ho_row := ho_row.go g00 g11
          have h_k := PyI.st g11.st h_k
          have h_turn := PyI.st g11.st h_turn
          have sl2 := sl2.trans g11.st
          have sj4 := sj4.trans g11.st
          have sl10 := sl10.trans g11.st
          have g0 := g0.trans g11
          refine st_app (W := W11) g00 g0 rfl ho_row (ew_mod (ew_fdiv (ew_var (v := v_cell) rfl h_cell) ew_int) ew_int) hm fun a12_row W12_ W12 l_row el_row g12 s g02 kk ff ho_row hm => ?_
          have h_k := PyI.st g12.st h_k
          have h_cell := PyI.st g12.st h_cell
          have h_turn := PyI.st g12.st h_turn
          have sl2 := sl2.trans g12.st
          have sj4 := sj4.trans g12.st
          have sl10 := sl10.trans g12.st
          have g0 := g0.trans g12
          have h_k := PyI.st s h_k
          have h_cell := PyI.st s h_cell
          have h_turn := PyI.st s h_turn
          have sl2 := sl2.trans s
          have sj4 := sj4.trans s
          have sl10 := sl10.trans s
          have g0 := g02
          exact kn10 (a12_row, a11_cell) _ W12 ⟨v_cell, v_row, fp_row, _, rfl, g0, sl10, ho_row, h_cell⟩ hm
        ·
          obtain ⟨v_cell, v_row, fp_row, o_turn, rfl, g0, sl10, ho_row, h_cell⟩ := hI
          have h_k := PyI.st sl10 h_k
          have sl2 := sl2.trans sl10
          have sj4 := sj4.trans sl10
          exact kj (z10.1, z10.2) _ Wi10 ⟨v_cell, v_row, fp_row, _, rfl, g0, sj4, ho_row, h_cell⟩ hm
    ·
      obtain ⟨v_row, fp_row, o_k, o_cell, o_turn, rfl, g0, sl2, ho_row⟩ := hI
      refine q_asg (W := Wi2) (ew_add (ew_sum (ew_varR (v := v_row) rfl (Var.nS g00 ho_row) ho_row.own)) (ew_lenQ rfl (sqL_g g0 h_script))) g0.ok hm fun a13_total v_total W13 g13 h_total hm => ?_
      have ho_row := ho_row.go g00 g13
      have g0 := g0.trans g13
      first | refine norm_st (σ' := [some (.ref v_script), some v_row, o_k, o_cell, o_turn, some v_total]) rfl ?_ | skip
      exact st_retdeal g00 g0 rfl ho_row (ew_var (v := v_total) rfl h_total) hm fun t v W1 g hn nd hm => kk v W1 g hn nd
abbrev s_is_square : Stmt := top 3
abbrev N_is_square : List Str := ["chart", "square", "row", "column"]
abbrev P_is_square : List Str := ["chart", "square"]
theorem sc_is_square : FnScope N_is_square P_is_square (defScope s_is_square) := ⟨rfl, rfl, rfl, by decide +kernel, rfl, by decide +kernel, by decide +kernel⟩
def m_is_square (a_chart : (List Str)) (a_square : Sq) : WP Bool := (WP.pure a_square).bind fun a1_row_column => (WP.and (WP.chain (fun i j => decide (i ≤ j)) (fun i j => decide (i < j)) (WP.pure (0 : Int)) (WP.pure a1_row_column.1) (WP.len (WP.pure a_chart))) (WP.chain (fun i j => decide (i ≤ j)) (fun i j => decide (i < j)) (WP.pure (0 : Int)) (WP.pure a1_row_column.2) (WP.lenS (WP.ix (WP.pure a_chart) (WP.pure (0 : Int)))))).bind fun r2 => (WP.pure r2)
def sp_is_square : Sp := fun vs H Q _ => ∃ (W : Wo) (a_chart : (List Str)) (a_square : Sq) (v_chart v_square : V), vs = [v_chart, v_square] ∧ W.H = H ∧ Good ef0 W ∧ Rp W a_chart v_chart ∧ Rp W a_square v_square ∧ (m_is_square a_chart a_square).run W.n fun n r => ∀ v W', Gw ef0 W W' → W'.n = n → (sI (e := ef0) (α := Bool)).post W W' r v → Q v W'.H
theorem ev_is_square {e : Ef} {σ : L2.St} {W : Wo} {E : XK} {t0 t1 : TE} {w0 : WP (List Str)} {w1 : WP Sq} (h0 : EvW e t0 σ W sI w0) (h1 : EvW e t1 σ W sI w1) : EvW e (tCall sp_is_square [] E (tCons t0 (tCons t1 tNil))) σ W (sI (α := Bool)) (WP.b2 w0 w1 m_is_square) := ew_call2N h0 h1 fun W2 b0 b1 x0 x1 g2 r0 r1 Q q E => by
  exact ⟨W2, b0, b1, x0, x1, rfl, rfl, g2.z, r0, r1, WP.mono _ (fun n c h v W3 g3 hn p => h v W3 (Gw.up g2 g3) hn p) q⟩
theorem ok_is_square (F : At K mg "is_square" s_is_square P_is_square) (G : Glb mg)  : Has P w K mg base "is_square" 1 P_is_square sp_is_square := by
  refine Has.of F sc_is_square (fun vs H Q E h => ?_) (fun f cdv A outer s H0 vs Q E hr h => ?_)
  · obtain ⟨W0, a_chart, a_square, v_chart, v_square, rfl, _⟩ := h
    rfl
  · obtain ⟨W0, a_chart, a_square, v_chart, v_square, rfl, rfl, g00, h_chart, h_square, hm⟩ := h
    have sc := sc_is_square
    have g0 := Gw.refl g00
    unfold m_is_square at hm
    refine ⟨_, (pss_cons (ps_asg (pv 1) (pg_tup rfl (pgs_cons (pg_name (i := 2) sc.nd rfl (Or.inl rfl)) (pgs_cons (pg_name (i := 3) sc.nd rfl (Or.inl rfl)) pgs_nil))))
      (pss_one (ps_ret (pe_and (pe_chain op_le op_lt pe_int (pv 2) (pe_callB call_len_seq (by rfl) G.len PySem.boot_len (pa_cons (pv 0) pa_nil))) (pe_one (pe_chain op_le op_lt pe_int (pv 3) (pe_callB call_len_str (by rfl) G.len PySem.boot_len (pa_cons (pe_ix ix_tup (pv 0) pe_int (fun _ _ => rfl)) pa_nil)))))))), ?_⟩
    refine q_un2 (W := W0) (ew_var (v := v_square) rfl h_square) g0.ok hm fun a1_row_column v_row v_column W1 g1 h_row h_column hm => ?_
    have h_chart := PyI.st g1.st h_chart
    have h_square := PyI.st g1.st h_square
    have g0 := g0.trans g1
    first | refine norm_st (σ' := [some v_chart, some v_square, some v_row, some v_column]) rfl ?_ | skip
    refine st_ret (W := W1) (ew_andV (ew_chain (C := fun i j => decide (i ≤ j)) (C' := fun i j => decide (i < j)) ew_int (ew_var (v := v_row) rfl h_row) (ew_lenT (ew_var (v := v_chart) rfl h_chart))) (ew_chain (C := fun i j => decide (i ≤ j)) (C' := fun i j => decide (i < j)) ew_int (ew_var (v := v_column) rfl h_column) (ew_lenS (ew_ixT (ew_var (v := v_chart) rfl h_chart) ew_int)))) g0.ok hm fun r2 v_ret W2 g2 hp hm => ?_
    exact hm v_ret W2 (g0.trans g2) rfl hp
abbrev s_is_land : Stmt := top 4
abbrev N_is_land : List Str := ["chart", "square"]
abbrev P_is_land : List Str := ["chart", "square"]
theorem sc_is_land : FnScope N_is_land P_is_land (defScope s_is_land) := ⟨rfl, rfl, rfl, by decide +kernel, rfl, by decide +kernel, by decide +kernel⟩
def m_is_land (a_chart : (List Str)) (a_square : Sq) : WP Bool := (WP.and (WP.b2 (WP.pure a_chart) (WP.pure a_square) m_is_square) (WP.eq (WP.ixS (WP.ix (WP.pure a_chart) (WP.fst (WP.pure a_square))) (WP.snd (WP.pure a_square))) (WP.pure ("x" : Str)))).bind fun r1 => (WP.pure r1)
def sp_is_land : Sp := fun vs H Q _ => ∃ (W : Wo) (a_chart : (List Str)) (a_square : Sq) (v_chart v_square : V), vs = [v_chart, v_square] ∧ W.H = H ∧ Good ef0 W ∧ Rp W a_chart v_chart ∧ Rp W a_square v_square ∧ (m_is_land a_chart a_square).run W.n fun n r => ∀ v W', Gw ef0 W W' → W'.n = n → (sI (e := ef0) (α := Bool)).post W W' r v → Q v W'.H
theorem ev_is_land {e : Ef} {σ : L2.St} {W : Wo} {E : XK} {t0 t1 : TE} {w0 : WP (List Str)} {w1 : WP Sq} (h0 : EvW e t0 σ W sI w0) (h1 : EvW e t1 σ W sI w1) : EvW e (tCall sp_is_land [] E (tCons t0 (tCons t1 tNil))) σ W (sI (α := Bool)) (WP.b2 w0 w1 m_is_land) := ew_call2N h0 h1 fun W2 b0 b1 x0 x1 g2 r0 r1 Q q E => by
  exact ⟨W2, b0, b1, x0, x1, rfl, rfl, g2.z, r0, r1, WP.mono _ (fun n c h v W3 g3 hn p => h v W3 (Gw.up g2 g3) hn p) q⟩
theorem ok_is_land (F : At K mg "is_land" s_is_land P_is_land) (G : Glb mg) (H_is_square : Has P w K mg base "is_square" 1 P_is_square sp_is_square) : Has P w K mg base "is_land" 2 P_is_land sp_is_land := by
  refine Has.of F sc_is_land (fun vs H Q E h => ?_) (fun f cdv A outer s H0 vs Q E hr h => ?_)
  · obtain ⟨W0, a_chart, a_square, v_chart, v_square, rfl, _⟩ := h
    rfl
  · obtain ⟨W0, a_chart, a_square, v_chart, v_square, rfl, rfl, g00, h_chart, h_square, hm⟩ := h
    have sc := sc_is_land
    have g0 := Gw.refl g00
    unfold m_is_land at hm
    refine ⟨_, (pss_one (ps_ret (pe_and (pe_user H_is_square (hr.mono (by decide)) rfl (pa_cons (pv 0) (pa_cons (pv 1) pa_nil))) (pe_one (pe_cmpR op_eq (pe_ix ix_str (pe_ix ix_tup (pv 0) (pe_ix ix_tup (pv 1) pe_int (fun _ _ => rfl)) (fun _ _ => rfl)) (pe_ix ix_tup (pv 1) pe_int (fun _ _ => rfl)) (fun _ _ => rfl)) (pe_glob (v := .str "x") rfl G.c_LAND.choose_spec ⟨_, rfl⟩) (nomark _)))))), ?_⟩
    refine st_ret (W := W0) (ew_andV (ev_is_square (ew_var (v := v_chart) rfl h_chart) (ew_var (v := v_square) rfl h_square)) (ew_eq (ew_ixS (ew_ixT (ew_var (v := v_chart) rfl h_chart) (ew_fst (ew_var (v := v_square) rfl h_square))) (ew_snd (ew_var (v := v_square) rfl h_square))) ew_str)) g0.ok hm fun r1 v_ret W1 g1 hp hm => ?_
    exact hm v_ret W1 (g0.trans g1) rfl hp
abbrev s_squares_of : Stmt := top 5
abbrev N_squares_of : List Str := ["chart", "row", "column"]
abbrev P_squares_of : List Str := ["chart"]
theorem sc_squares_of : FnScope N_squares_of P_squares_of (defScope s_squares_of) := ⟨rfl, rfl, rfl, by decide +kernel, rfl, by decide +kernel, by decide +kernel⟩
def m_squares_of (a_chart : (List Str)) : WP (List Sq) := (WP.lc2 (WP.range1 (WP.len (WP.pure a_chart))) (fun c1 => (WP.pure true)) (fun c1 => (WP.range1 (WP.lenS (WP.ix (WP.pure a_chart) (WP.pure (0 : Int)))))) (fun c1 d1 => (WP.pure true)) (fun c1 d1 => (WP.pair (WP.pure c1) (WP.pure d1)))).bind fun r1 => (WP.pure r1)
def sp_squares_of : Sp := fun vs H Q _ => ∃ (W : Wo) (a_chart : (List Str)) (v_chart : V), vs = [v_chart] ∧ W.H = H ∧ Good ef0 W ∧ Rp W a_chart v_chart ∧ (m_squares_of a_chart).run W.n fun n r => ∀ v W', Gw ef0 W W' → W'.n = n → (sN (e := ef0) (kL Sq)).post W W' r v → Q v W'.H
theorem ev_squares_of {e : Ef} {σ : L2.St} {W : Wo} {E : XK} {t0 : TE} {w0 : WP (List Str)} (h0 : EvW e t0 σ W sI w0) : EvW e (tCall sp_squares_of [] E (tCons t0 tNil)) σ W (sN (kL Sq)) (WP.b1 w0 m_squares_of) := ew_call1N h0 fun W2 b0 x0 g2 r0 Q q E => by
  exact ⟨W2, b0, x0, rfl, rfl, g2.z, r0, WP.mono _ (fun n c h v W3 g3 hn p => h v W3 (Gw.up g2 g3) hn (sN_up g2 p)) q⟩
theorem ok_squares_of (F : At K mg "squares_of" s_squares_of P_squares_of) (G : Glb mg)  : Has P w K mg base "squares_of" 1 P_squares_of sp_squares_of := by
  refine Has.of F sc_squares_of (fun vs H Q E h => ?_) (fun f cdv A outer s H0 vs Q E hr h => ?_)
  · obtain ⟨W0, a_chart, v_chart, rfl, _⟩ := h
    rfl
  · obtain ⟨W0, a_chart, v_chart, rfl, rfl, g00, h_chart, hm⟩ := h
    have sc := sc_squares_of
    have g0 := Gw.refl g00
    unfold m_squares_of at hm
    refine ⟨_, (pss_one (ps_ret (pe_lc2 (own := [("row", 1), ("column", 2)]) (vs1 := [2]) (g := gName 1) (g1 := gName 2) (tt := tYes) (tt1 := tYes) rfl sc.nd (pi_range1 rfl G.range (pa_cons (pe_callB call_len_seq (by rfl) G.len PySem.boot_len (pa_cons (pv 0) pa_nil)) pa_nil)) (blkOk_by (N := N_squares_of) (sc := defScope s_squares_of) (by decide +kernel)) (by decide) (fun _ _ _ _ _ => (pg_name (i := 1) sc.nd rfl (Or.inl rfl))) (fun _ _ _ _ _ => pts_nil) (fun _ _ _ _ _ => (pi_range1 rfl G.range (pa_cons (pe_callB call_len_str (by rfl) G.len PySem.boot_len (pa_cons (pe_ix (ix_tupK (K := K) rfl) (pv 0) pe_int (fun _ _ => rfl)) pa_nil)) pa_nil))) (fun _ _ _ _ _ => (pg_name (i := 2) sc.nd rfl (Or.inl rfl))) (fun _ _ _ _ _ => pts_nil) (fun _ _ _ _ _ => (pe_tup (pa_cons (pv 1) (pa_cons (pv 2) pa_nil))))))), ?_⟩
    refine st_ret (W := W0) (ew_lc2 (src_R (ew_lenT (ew_var (v := v_chart) rfl h_chart))) takes_N (fun _ _ _ h => by obtain ⟨v_row, ec, h_row⟩ := h; subst ec; rfl) (fun c1 Wc s2 gc h => by obtain ⟨v_row, ec, h_row⟩ := h; subst ec; have h_chart := PyI.st gc.st h_chart; exact et_yes) (fun c1 Wc s2 gc h => by obtain ⟨v_row, ec, h_row⟩ := h; subst ec;  have h_chart := PyI.st gc.st h_chart; exact (src_R (ew_lenS (ew_ixT (ew_var (v := v_chart) rfl h_chart) ew_int)))) (fun s2 => takes_N) (fun s2 _ _ _ h => by obtain ⟨v, ec, _⟩ := h; subst ec; exact wipe1) (fun c1 Wc s2 d1 Wd s3 gc h gd sd h2 => by obtain ⟨v_row, ec, h_row⟩ := h; subst ec; obtain ⟨v_column, ed, h_column⟩ := h2; subst ed; have h_row := PyI.st sd h_row; have h_chart := PyI.st gd.st h_chart; exact et_yes) (fun c1 Wc s2 d1 Wd s3 gc h gd sd h2 => by obtain ⟨v_row, ec, h_row⟩ := h; subst ec; obtain ⟨v_column, ed, h_column⟩ := h2; subst ed; have h_row := PyI.st sd h_row; have h_chart := PyI.st gd.st h_chart; exact (ew_pair (ew_var (v := v_row) rfl h_row) (ew_var (v := v_column) rfl h_column)))) g0.ok hm fun r1 v_ret W1 g1 hp hm => ?_
    exact hm v_ret W1 (g0.trans g1) rfl ((sN (kL Sq)).back g0 hp)
abbrev s_land_squares : Stmt := top 6
abbrev N_land_squares : List Str := ["chart", "square"]
abbrev P_land_squares : List Str := ["chart"]
theorem sc_land_squares : FnScope N_land_squares P_land_squares (defScope s_land_squares) := ⟨rfl, rfl, rfl, by decide +kernel, rfl, by decide +kernel, by decide +kernel⟩
def m_land_squares (a_chart : (List Str)) : WP (List Sq) := (WP.lc (WP.b1 (WP.pure a_chart) m_squares_of) (fun c1 => (WP.b2 (WP.pure a_chart) (WP.pure c1) m_is_land)) (fun c1 => (WP.pure c1))).bind fun r1 => (WP.pure r1)
def sp_land_squares : Sp := fun vs H Q _ => ∃ (W : Wo) (a_chart : (List Str)) (v_chart : V), vs = [v_chart] ∧ W.H = H ∧ Good ef0 W ∧ Rp W a_chart v_chart ∧ (m_land_squares a_chart).run W.n fun n r => ∀ v W', Gw ef0 W W' → W'.n = n → (sN (e := ef0) (kL Sq)).post W W' r v → Q v W'.H
theorem ev_land_squares {e : Ef} {σ : L2.St} {W : Wo} {E : XK} {t0 : TE} {w0 : WP (List Str)} (h0 : EvW e t0 σ W sI w0) : EvW e (tCall sp_land_squares [] E (tCons t0 tNil)) σ W (sN (kL Sq)) (WP.b1 w0 m_land_squares) := ew_call1N h0 fun W2 b0 x0 g2 r0 Q q E => by
  exact ⟨W2, b0, x0, rfl, rfl, g2.z, r0, WP.mono _ (fun n c h v W3 g3 hn p => h v W3 (Gw.up g2 g3) hn (sN_up g2 p)) q⟩
theorem ok_land_squares (F : At K mg "land_squares" s_land_squares P_land_squares) (G : Glb mg) (H_is_land : Has P w K mg base "is_land" 2 P_is_land sp_is_land) (H_squares_of : Has P w K mg base "squares_of" 1 P_squares_of sp_squares_of) : Has P w K mg base "land_squares" 3 P_land_squares sp_land_squares := by
  refine Has.of F sc_land_squares (fun vs H Q E h => ?_) (fun f cdv A outer s H0 vs Q E hr h => ?_)
  · obtain ⟨W0, a_chart, v_chart, rfl, _⟩ := h
    rfl
  · obtain ⟨W0, a_chart, v_chart, rfl, rfl, g00, h_chart, hm⟩ := h
    have sc := sc_land_squares
    have g0 := Gw.refl g00
    unfold m_land_squares at hm
    refine ⟨_, (pss_one (ps_ret (pe_lc (own := [("square", 1)]) (g := gName 1) rfl sc.nd (pi_list (pe_user H_squares_of (hr.mono (by decide)) rfl (pa_cons (pv 0) pa_nil))) (blkOk_by (N := N_land_squares) (sc := defScope s_land_squares) (by decide +kernel)) (fun _ _ _ _ _ => (pg_name (i := 1) sc.nd rfl (Or.inl rfl))) (fun _ _ _ _ _ => (pts_one (pt_val (pe_user H_is_land (hr.mono (by decide)) rfl (pa_cons (pv 0) (pa_cons (pv 1) pa_nil)))))) (fun _ _ _ _ _ => (pv 1))))), ?_⟩
    refine st_ret (W := W0) (ew_lcL (ew_rd (ev_squares_of (ew_var (v := v_chart) rfl h_chart))) takes_N (fun _ _ _ h => by obtain ⟨v_square, ec, h_square⟩ := h; subst ec; rfl) (fun c1 Wc1 s2 gc1 h => by obtain ⟨v_square, ec, h_square⟩ := h; subst ec; have h_chart := PyI.st gc1.st h_chart; exact (et_B (ev_is_land (ew_var (v := v_chart) rfl h_chart) (ew_var (v := v_square) rfl h_square)))) (fun c1 Wc1 s2 gc1 h => by obtain ⟨v_square, ec, h_square⟩ := h; subst ec; have h_chart := PyI.st gc1.st h_chart; exact (ew_var (v := v_square) rfl h_square))) g0.ok hm fun r1 v_ret W1 g1 hp hm => ?_
    exact hm v_ret W1 (g0.trans g1) rfl ((sN (kL Sq)).back g0 hp)
abbrev s_side_neighbours : Stmt := top 7
abbrev N_side_neighbours : List Str := ["square", "row", "column"]
abbrev P_side_neighbours : List Str := ["square"]
theorem sc_side_neighbours : FnScope N_side_neighbours P_side_neighbours (defScope s_side_neighbours) := ⟨rfl, rfl, rfl, by decide +kernel, rfl, by decide +kernel, by decide +kernel⟩
def m_side_neighbours (a_square : Sq) : WP (List Sq) := (WP.pure a_square).bind fun a1_row_column => (WP.row (WP.consE (WP.pair (WP.sub (WP.pure a1_row_column.1) (WP.pure (1 : Int))) (WP.pure a1_row_column.2)) (WP.consE (WP.pair (WP.pure a1_row_column.1) (WP.sub (WP.pure a1_row_column.2) (WP.pure (1 : Int)))) (WP.consE (WP.pair (WP.pure a1_row_column.1) (WP.add (WP.pure a1_row_column.2) (WP.pure (1 : Int)))) (WP.consE (WP.pair (WP.add (WP.pure a1_row_column.1) (WP.pure (1 : Int))) (WP.pure a1_row_column.2)) (WP.pure ([] : List Sq))))))).bind fun r2 => (WP.pure r2)
def sp_side_neighbours : Sp := fun vs H Q _ => ∃ (W : Wo) (a_square : Sq) (v_square : V), vs = [v_square] ∧ W.H = H ∧ Good ef0 W ∧ Rp W a_square v_square ∧ (m_side_neighbours a_square).run W.n fun n r => ∀ v W', Gw ef0 W W' → W'.n = n → (sN (e := ef0) (kL Sq)).post W W' r v → Q v W'.H
theorem ev_side_neighbours {e : Ef} {σ : L2.St} {W : Wo} {E : XK} {t0 : TE} {w0 : WP Sq} (h0 : EvW e t0 σ W sI w0) : EvW e (tCall sp_side_neighbours [] E (tCons t0 tNil)) σ W (sN (kL Sq)) (WP.b1 w0 m_side_neighbours) := ew_call1N h0 fun W2 b0 x0 g2 r0 Q q E => by
  exact ⟨W2, b0, x0, rfl, rfl, g2.z, r0, WP.mono _ (fun n c h v W3 g3 hn p => h v W3 (Gw.up g2 g3) hn (sN_up g2 p)) q⟩
theorem ok_side_neighbours (F : At K mg "side_neighbours" s_side_neighbours P_side_neighbours) (G : Glb mg)  : Has P w K mg base "side_neighbours" 1 P_side_neighbours sp_side_neighbours := by
  refine Has.of F sc_side_neighbours (fun vs H Q E h => ?_) (fun f cdv A outer s H0 vs Q E hr h => ?_)
  · obtain ⟨W0, a_square, v_square, rfl, _⟩ := h
    rfl
  · obtain ⟨W0, a_square, v_square, rfl, rfl, g00, h_square, hm⟩ := h
    have sc := sc_side_neighbours
    have g0 := Gw.refl g00
    unfold m_side_neighbours at hm
    refine ⟨_, (pss_cons (ps_asg (pv 0) (pg_tup rfl (pgs_cons (pg_name (i := 1) sc.nd rfl (Or.inl rfl)) (pgs_cons (pg_name (i := 2) sc.nd rfl (Or.inl rfl)) pgs_nil))))
      (pss_one (ps_ret (pe_lst (pa_cons (pe_tup (pa_cons (pe_op op_sub (pv 1) pe_int) (pa_cons (pv 2) pa_nil))) (pa_cons (pe_tup (pa_cons (pv 1) (pa_cons (pe_op op_sub (pv 2) pe_int) pa_nil))) (pa_cons (pe_tup (pa_cons (pv 1) (pa_cons (pe_op op_add (pv 2) pe_int) pa_nil))) (pa_cons (pe_tup (pa_cons (pe_op op_add (pv 1) pe_int) (pa_cons (pv 2) pa_nil))) pa_nil)))))))), ?_⟩
    refine q_un2 (W := W0) (ew_var (v := v_square) rfl h_square) g0.ok hm fun a1_row_column v_row v_column W1 g1 h_row h_column hm => ?_
    have h_square := PyI.st g1.st h_square
    have g0 := g0.trans g1
    first | refine norm_st (σ' := [some v_square, some v_row, some v_column]) rfl ?_ | skip
    refine st_ret (W := W1) (ew_lst (eas_cons (ew_pair (ew_sub (ew_var (v := v_row) rfl h_row) ew_int) (ew_var (v := v_column) rfl h_column)) (eas_cons (ew_pair (ew_var (v := v_row) rfl h_row) (ew_sub (ew_var (v := v_column) rfl h_column) ew_int)) (eas_cons (ew_pair (ew_var (v := v_row) rfl h_row) (ew_add (ew_var (v := v_column) rfl h_column) ew_int)) (eas_cons (ew_pair (ew_add (ew_var (v := v_row) rfl h_row) ew_int) (ew_var (v := v_column) rfl h_column)) (eas_nil (α := Sq))))))) g0.ok hm fun r2 v_ret W2 g2 hp hm => ?_
    exact hm v_ret W2 (g0.trans g2) rfl ((sN (kL Sq)).back g0 hp)
abbrev s_chart_from : Stmt := top 8
abbrev N_chart_from : List Str := ["rows", "columns", "squares", "grid", "row", "column", "_"]
abbrev P_chart_from : List Str := ["rows", "columns", "squares"]
theorem sc_chart_from : FnScope N_chart_from P_chart_from (defScope s_chart_from) := ⟨rfl, rfl, rfl, by decide +kernel, rfl, by decide +kernel, by decide +kernel⟩
def m_chart_from (a_rows : Int) (a_columns : Int) (a_squares : (List Sq)) : WP (List Str) := (WP.lc (WP.range1 (WP.pure a_rows)) (fun c1 => (WP.pure true)) (fun c1 => (WP.rep (WP.row (WP.consE (WP.pure ("." : Str)) (WP.pure ([] : List Str)))) (WP.pure a_columns)))).bind fun a1_grid => WP.after (WP.loop (γ := (List Str)) (fun c2 (y2 : (List (List Str))) => ((WP.and (WP.chain (fun i j => decide (i ≤ j)) (fun i j => decide (i < j)) (WP.pure (0 : Int)) (WP.pure c2.1) (WP.pure a_rows)) (WP.chain (fun i j => decide (i ≤ j)) (fun i j => decide (i < j)) (WP.pure (0 : Int)) (WP.pure c2.2) (WP.pure a_columns))).bind fun b => WP.cond b ((WP.gset y2 (WP.pure ("x" : Str)) (WP.pure c2.1) (WP.pure c2.2)).bind fun a4_grid => (WP.pure a4_grid)) ((WP.pure y2))).bind fun (y3 : (List (List Str))) => (WP.pure (.nx y3))) a_squares a1_grid) (fun (z2 : (List (List Str))) => ((WP.lc (WP.pure z2) (fun c2 => (WP.pure true)) (fun c2 => (WP.join (WP.pure (Str.ofString "")) (WP.pure c2)))).bind fun xs => WP.pure (α := List _) xs).bind fun r5 => (WP.pure r5)) (fun r => (WP.pure r))
def sp_chart_from : Sp := fun vs H Q _ => ∃ (W : Wo) (a_rows : Int) (a_columns : Int) (a_squares : (List Sq)) (v_rows v_columns v_squares : V) (fp_squares : List Addr), vs = [v_rows, v_columns, v_squares] ∧ W.H = H ∧ Good ef0 W ∧ Rp W a_rows v_rows ∧ Rp W a_columns v_columns ∧ (kL Sq).own W fp_squares a_squares v_squares ∧ (∀ a ∈ fp_squares, ¬ ef0.S a) ∧ (m_chart_from a_rows a_columns a_squares).run W.n fun n r => ∀ v W', Gw ef0 W W' → W'.n = n → (sI (e := ef0) (α := (List Str))).post W W' r v → Q v W'.H
theorem ev_chart_from {e : Ef} {σ : L2.St} {W : Wo} {E : XK} {t0 t1 t2 : TE} {w0 : WP Int} {w1 : WP Int} {w2 : WP (List Sq)} (h0 : EvW e t0 σ W sI w0) (h1 : EvW e t1 σ W sI w1) (h2 : EvW e t2 σ W (sR (kL Sq)) w2) : EvW e (tCall sp_chart_from [] E (tCons t0 (tCons t1 (tCons t2 tNil)))) σ W (sI (α := (List Str))) (WP.b3 w0 w1 w2 m_chart_from) := ew_call3N h0 h1 h2 fun W2 b0 b1 b2 x0 x1 x2 g2 r0 r1 ⟨fp2, r2, s2⟩ Q q E => by
  exact ⟨W2, b0, b1, b2, x0, x1, x2, fp2, rfl, rfl, g2.z, r0, r1, r2, fun _ _ z => z, WP.mono _ (fun n c h v W3 g3 hn p => h v W3 (Gw.up g2 g3) hn p) q⟩
theorem ok_chart_from (F : At K mg "chart_from" s_chart_from P_chart_from) (G : Glb mg)  : Has P w K mg base "chart_from" 1 P_chart_from sp_chart_from := by
  refine Has.of F sc_chart_from (fun vs H Q E h => ?_) (fun f cdv A outer s H0 vs Q E hr h => ?_)
  · obtain ⟨W0, a_rows, a_columns, a_squares, v_rows, v_columns, v_squares, fp_squares, rfl, _⟩ := h
    rfl
  · obtain ⟨W0, a_rows, a_columns, a_squares, v_rows, v_columns, v_squares, fp_squares, rfl, rfl, g00, h_rows, h_columns, hb_squares, hS_squares, hm⟩ := h
    have sc := sc_chart_from
    have g0 := Gw.refl g00
    have hl_squares := (kL Sq).live hb_squares
    have hb0_squares := hb_squares
    unfold m_chart_from at hm
    refine ⟨_, (pss_cons (ps_setLc (i := 3) (own := [("_", 6)]) (g := gName 6) (tt := tYes) rfl sc.nd rfl rfl (sw_true rfl rfl rfl (by decide +kernel)) (pi_range1 rfl G.range (pa_cons (pv 0) pa_nil)) (blkOk_by (N := N_chart_from) (sc := defScope s_chart_from) (by decide +kernel)) (fun _ _ _ _ _ => (pg_name (i := 6) sc.nd rfl (Or.inl rfl))) (fun _ _ _ _ _ => pts_nil) (fun _ _ _ _ _ => (pe_op op_rep (pe_lst (pa_cons (pe_glob (v := .str ".") rfl G.c_WATER.choose_spec ⟨_, rfl⟩) pa_nil)) (pv 1))))
      (pss_cons (ps_for PassesOwn.never rfl (pi_list (pv 2)) (pg_tup rfl (pgs_cons (pg_name (i := 4) sc.nd rfl (Or.inl rfl)) (pgs_cons (pg_name (i := 5) sc.nd rfl (Or.inl rfl)) pgs_nil)))
      (pss_one (ps_if (PW.pt (pw_and (pt_chain op_le op_lt pe_int (pv 4) (pv 0)) (pw_and1 (pt_chain op_le op_lt pe_int (pv 5) (pv 1))))) (pss_one (ps_asg (pe_glob (v := .str "x") rfl G.c_LAND.choose_spec ⟨_, rfl⟩) (pg_sub (pe_ix ix_list (pv 3) (pv 4) (fun _ _ => rfl)) (pv 5) set_list))) pss_nil)))
      (pss_one (ps_ret (pe_callTy call_tuple_of (by rfl) G.tuple (by decide +kernel) (pa_cons (pe_lc (own := [("row", 4)]) (g := gName 4) (tt := tYes) rfl sc.nd (pi_list (pv 3)) (blkOk_by (N := N_chart_from) (sc := defScope s_chart_from) (by decide +kernel)) (fun _ _ _ _ _ => (pg_name (i := 4) sc.nd rfl (Or.inl rfl))) (fun _ _ _ _ _ => pts_nil) (fun _ _ _ _ _ => (pe_joinK (K := K) rfl pe_str (pv 4)))) pa_nil)))))), ?_⟩
    refine q_asg (W := W0) (ew_lcGr (src_R (ew_var (v := v_rows) rfl h_rows)) takes_N (fun _ _ _ h => by obtain ⟨v__, ec, h__⟩ := h; subst ec; rfl) (fun c1 Wc1 s2 gc1 h => by obtain ⟨v__, ec, h__⟩ := h; subst ec; have h_rows := PyI.st gc1.st h_rows; have h_columns := PyI.st gc1.st h_columns; exact et_yes) (fun c1 Wc1 s2 gc1 h => by obtain ⟨v__, ec, h__⟩ := h; subst ec; have h_rows := PyI.st gc1.st h_rows; have h_columns := PyI.st gc1.st h_columns; exact (ew_rep (ew_rd (ew_lst (eas_cons ew_str (eas_nil (α := Str))))) (ew_var (v := v_columns) rfl h_columns)))) g0.ok hm fun a1_grid v_grid W1 g1 ⟨fp_grid, ho0_grid, hf_grid⟩ hm => ?_
    have hz_grid : ∀ a ∈ fp_grid, W0.H a = none := fun a m => g0.live a (hf_grid a m).1
    have h_rows := PyI.st g1.st h_rows
    have h_columns := PyI.st g1.st h_columns
    have hb_squares := Kd.go g1 hS_squares hb_squares
    have g0 := g0.trans g1
    have ho_grid : Var (kG Str) W0 W1 fp_grid a1_grid v_grid := ⟨ho0_grid, hz_grid, fun b m => (hf_grid b m).2.2⟩
    obtain ⟨p_it2, vs_it2, ef_it2, ev_it2, hp_it2, hr_it2⟩ := own_list hb_squares
    have nS_it2 := hS_squares p_it2 (by rw [ef_it2]; exact List.mem_singleton.mpr rfl)
    have dj_it2_grid : ∀ b ∈ [p_it2], b ∉ fp_grid := fun b m z => hl_squares b (by rw [ef_it2]; exact m) (ho_grid.fr b z)
    refine q_forV (W := W1) tk_P (by rw [← ev_it2]; rfl) hp_it2 hr_it2 hm (fun y σ' W' => ∃ (v_grid : V) (fp_grid : List Addr) (o_row : Option V) (o_column : Option V), σ' = [some v_rows, some v_columns, some v_squares, some v_grid, o_row, o_column, none] ∧ Gw ef0 W0 W' ∧ St W1 W' ∧ Var (kG Str) W0 W' fp_grid y v_grid ∧ W'.H p_it2 = some (.lst vs_it2) ∧ (∀ b ∈ [p_it2], b ∉ fp_grid)) ⟨v_grid, fp_grid, _, _, rfl, g0, (St.refl _), ho_grid, hp_it2, dj_it2_grid⟩ (fun _ _ _ hI => ?_) (fun c2 y2 σi s2 Wi2 R2 nx2 ht hI hm kn2 kb2 kr2 => ?_) (fun z2 σi Wi2 hI hm => ?_)
    · obtain ⟨v_grid, fp_grid, o_row, o_column, rfl, g0, sl2, ho_grid, hp_it2, dj_it2_grid⟩ := hI
      exact ⟨sl2, hp_it2⟩
    ·
      obtain ⟨v_grid, fp_grid, o_row, o_column, rfl, g0, sl2, ho_grid, hp_it2, dj_it2_grid⟩ := hI
      have h_rows := PyI.st sl2 h_rows
      have h_columns := PyI.st sl2 h_columns
      have hb_squares := Kd.go g0 hS_squares hb0_squares
      obtain ⟨v_row, v_column, rfl, h_row, h_column⟩ := ht
      refine st_join (W := Wi2) (s := (List (List Str))) (fun y σ' W' => ∃ (v_grid : V) (fp_grid : List Addr), σ' = [some v_rows, some v_columns, some v_squares, some v_grid, some v_row, some v_column, none] ∧ Gw ef0 W0 W' ∧ St Wi2 W' ∧ Var (kG Str) W0 W' fp_grid y v_grid ∧ W'.H p_it2 = some (.lst vs_it2) ∧ (∀ b ∈ [p_it2], b ∉ fp_grid)) (et_and (et_t (ew_chain (C := fun i j => decide (i ≤ j)) (C' := fun i j => decide (i < j)) ew_int (ew_var (v := v_row) rfl h_row) (ew_var (v := v_rows) rfl h_rows))) (et_t (ew_chain (C := fun i j => decide (i ≤ j)) (C' := fun i j => decide (i < j)) ew_int (ew_var (v := v_column) rfl h_column) (ew_var (v := v_columns) rfl h_columns)))) g0.ok hm (fun y3 σj Wj3 hI hm => ?_) (fun W3 R3 g3 hm kj => ?_) (fun W3 R3 g3 hm kj => ?_)
      ·
        obtain ⟨v_grid, fp_grid, rfl, g0, sj3, ho_grid, hp_it2, dj_it2_grid⟩ := hI
        have h_rows := PyI.st sj3 h_rows
        have h_columns := PyI.st sj3 h_columns
        have hb_squares := Kd.go g0 hS_squares hb0_squares
        have h_row := PyI.st sj3 h_row
        have h_column := PyI.st sj3 h_column
        have sl2 := sl2.trans sj3
        exact kn2 y3 _ Wj3 ⟨v_grid, fp_grid, _, _, rfl, g0, sl2, ho_grid, hp_it2, dj_it2_grid⟩ hm
      ·
        have h_rows := PyI.st g3.st h_rows
        have h_columns := PyI.st g3.st h_columns
        have hb_squares := Kd.go g3 hS_squares hb_squares
        have ho_grid := ho_grid.go g00 g3
        have h_row := PyI.st g3.st h_row
        have h_column := PyI.st g3.st h_column
        have sl2 := sl2.trans g3.st
        have hp_it2 := g3.keep _ _ hp_it2 nS_it2
        have g0 := g0.trans g3
        have sj3 := g3.st
        refine st_gset (W := W3) g00 g0 rfl ho_grid ew_str (ew_var (v := v_row) rfl h_row) (ew_var (v := v_column) rfl h_column) hm fun a4_grid W4_ W4 g4 s g02 kk ff ho_grid hm => ?_
        have h_rows := PyI.st g4.st h_rows
        have h_columns := PyI.st g4.st h_columns
        have hb_squares := Kd.go g4 hS_squares hb_squares
        have h_row := PyI.st g4.st h_row
        have h_column := PyI.st g4.st h_column
        have sl2 := sl2.trans g4.st
        have sj3 := sj3.trans g4.st
        have hp_it2 := g4.keep _ _ hp_it2 nS_it2
        have g0 := g0.trans g4
        have h_rows := PyI.st s h_rows
        have h_columns := PyI.st s h_columns
        have hb_squares := Kd.st _ s (kk fp_squares _ Kp.refl fun b m z => hl_squares b m (ho_grid.fr b z)) hb_squares
        have h_row := PyI.st s h_row
        have h_column := PyI.st s h_column
        have sl2 := sl2.trans s
        have sj3 := sj3.trans s
        have hp_it2 := kk [p_it2] _ Kp.refl dj_it2_grid _ (List.mem_singleton.mpr rfl) _ hp_it2
        have g0 := g02
        exact kj a4_grid _ W4 ⟨v_grid, fp_grid, rfl, g0, sj3, ho_grid, hp_it2, dj_it2_grid⟩ hm
      ·
        have h_rows := PyI.st g3.st h_rows
        have h_columns := PyI.st g3.st h_columns
        have hb_squares := Kd.go g3 hS_squares hb_squares
        have ho_grid := ho_grid.go g00 g3
        have h_row := PyI.st g3.st h_row
        have h_column := PyI.st g3.st h_column
        have sl2 := sl2.trans g3.st
        have hp_it2 := g3.keep _ _ hp_it2 nS_it2
        have g0 := g0.trans g3
        have sj3 := g3.st
        refine st_next ?_
        exact kj y2 _ W3 ⟨v_grid, fp_grid, rfl, g0, sj3, ho_grid, hp_it2, dj_it2_grid⟩ hm
    ·
      obtain ⟨v_grid, fp_grid, o_row, o_column, rfl, g0, sl2, ho_grid, hp_it2, dj_it2_grid⟩ := hI
      have h_rows := PyI.st sl2 h_rows
      have h_columns := PyI.st sl2 h_columns
      have hb_squares := Kd.go g0 hS_squares hb0_squares
      first | refine norm_st (σ' := [some v_rows, some v_columns, some v_squares, some v_grid, o_row, o_column, none]) rfl ?_ | skip
      refine st_ret (W := Wi2) (ew_tuple (ew_rd (ew_lcG (ew_varR (v := v_grid) rfl (Var.nS g00 ho_grid) ho_grid.own) takes_R (fun _ _ _ h => by obtain ⟨v_row, fp_row, ec, hb_row, hS_row⟩ := h; subst ec; rfl) (fun c2 Wc2 s2 gc2 h => by obtain ⟨v_row, fp_row, ec, hb_row, hS_row⟩ := h; subst ec; have ho_grid := ho_grid.go g00 gc2; exact et_yes) (fun c2 Wc2 s2 gc2 h => by obtain ⟨v_row, fp_row, ec, hb_row, hS_row⟩ := h; subst ec; have ho_grid := ho_grid.go g00 gc2; exact (ew_join ew_str (ew_varR rfl hS_row hb_row)))))) g0.ok hm fun r5 v_ret W5 g5 hp hm => ?_
      exact hm v_ret W5 (g0.trans g5) rfl hp
abbrev s_under : Stmt := top 10
abbrev N_under : List Str := ["size", "place", "row", "column", "down", "right"]
abbrev P_under : List Str := ["size", "place"]
theorem sc_under : FnScope N_under P_under (defScope s_under) := ⟨rfl, rfl, rfl, by decide +kernel, rfl, by decide +kernel, by decide +kernel⟩
def m_under (a_size : Int) (a_place : Sq) : WP (List Sq) := (WP.pure a_place).bind fun a1_row_column => (WP.lc2 (WP.range1 (WP.pure a_size)) (fun c1 => (WP.pure true)) (fun c1 => (WP.range1 (WP.pure a_size))) (fun c1 d1 => (WP.pure true)) (fun c1 d1 => (WP.pair (WP.add (WP.pure a1_row_column.1) (WP.pure c1)) (WP.add (WP.pure a1_row_column.2) (WP.pure d1))))).bind fun r2 => (WP.pure r2)
def sp_under : Sp := fun vs H Q _ => ∃ (W : Wo) (a_size : Int) (a_place : Sq) (v_size v_place : V), vs = [v_size, v_place] ∧ W.H = H ∧ Good ef0 W ∧ Rp W a_size v_size ∧ Rp W a_place v_place ∧ (m_under a_size a_place).run W.n fun n r => ∀ v W', Gw ef0 W W' → W'.n = n → (sN (e := ef0) (kL Sq)).post W W' r v → Q v W'.H
theorem ev_under {e : Ef} {σ : L2.St} {W : Wo} {E : XK} {t0 t1 : TE} {w0 : WP Int} {w1 : WP Sq} (h0 : EvW e t0 σ W sI w0) (h1 : EvW e t1 σ W sI w1) : EvW e (tCall sp_under [] E (tCons t0 (tCons t1 tNil))) σ W (sN (kL Sq)) (WP.b2 w0 w1 m_under) := ew_call2N h0 h1 fun W2 b0 b1 x0 x1 g2 r0 r1 Q q E => by
  exact ⟨W2, b0, b1, x0, x1, rfl, rfl, g2.z, r0, r1, WP.mono _ (fun n c h v W3 g3 hn p => h v W3 (Gw.up g2 g3) hn (sN_up g2 p)) q⟩
theorem ok_under (F : At K mg "under" s_under P_under) (G : Glb mg)  : Has P w K mg base "under" 1 P_under sp_under := by
  refine Has.of F sc_under (fun vs H Q E h => ?_) (fun f cdv A outer s H0 vs Q E hr h => ?_)
  · obtain ⟨W0, a_size, a_place, v_size, v_place, rfl, _⟩ := h
    rfl
  · obtain ⟨W0, a_size, a_place, v_size, v_place, rfl, rfl, g00, h_size, h_place, hm⟩ := h
    have sc := sc_under
    have g0 := Gw.refl g00
    unfold m_under at hm
    refine ⟨_, (pss_cons (ps_asg (pv 1) (pg_tup rfl (pgs_cons (pg_name (i := 2) sc.nd rfl (Or.inr rfl)) (pgs_cons (pg_name (i := 3) sc.nd rfl (Or.inr rfl)) pgs_nil))))
      (pss_one (ps_ret (pe_lc2 (own := [("down", 4), ("right", 5)]) (vs1 := [5]) (g := gName 4) (g1 := gName 5) (tt := tYes) (tt1 := tYes) rfl sc.nd (pi_range1 rfl G.range (pa_cons (pv 0) pa_nil)) (blkOk_by (N := N_under) (sc := defScope s_under) (by decide +kernel)) (by decide) (fun _ _ _ _ _ => (pg_name (i := 4) sc.nd rfl (Or.inl rfl))) (fun _ _ _ _ _ => pts_nil) (fun _ _ _ _ _ => (pi_range1 rfl G.range (pa_cons (pv 0) pa_nil))) (fun _ _ _ _ _ => (pg_name (i := 5) sc.nd rfl (Or.inl rfl))) (fun _ _ _ _ _ => pts_nil) (fun _ _ _ _ _ => (pe_tup (pa_cons (pe_op op_add (pv 2) (pv 4)) (pa_cons (pe_op op_add (pv 3) (pv 5)) pa_nil)))))))), ?_⟩
    refine q_un2 (W := W0) (ew_var (v := v_place) rfl h_place) g0.ok hm fun a1_row_column v_row v_column W1 g1 h_row h_column hm => ?_
    have h_size := PyI.st g1.st h_size
    have h_place := PyI.st g1.st h_place
    have g0 := g0.trans g1
    first | refine norm_st (σ' := [some v_size, some v_place, some v_row, some v_column, none, none]) rfl ?_ | skip
    refine st_ret (W := W1) (ew_lc2 (src_R (ew_var (v := v_size) rfl h_size)) takes_N (fun _ _ _ h => by obtain ⟨v_down, ec, h_down⟩ := h; subst ec; rfl) (fun c1 Wc s2 gc h => by obtain ⟨v_down, ec, h_down⟩ := h; subst ec; have h_size := PyI.st gc.st h_size; have h_row := PyI.st gc.st h_row; have h_column := PyI.st gc.st h_column; exact et_yes) (fun c1 Wc s2 gc h => by obtain ⟨v_down, ec, h_down⟩ := h; subst ec;  have h_size := PyI.st gc.st h_size; have h_row := PyI.st gc.st h_row; have h_column := PyI.st gc.st h_column; exact (src_R (ew_var (v := v_size) rfl h_size))) (fun s2 => takes_N) (fun s2 _ _ _ h => by obtain ⟨v, ec, _⟩ := h; subst ec; exact wipe1) (fun c1 Wc s2 d1 Wd s3 gc h gd sd h2 => by obtain ⟨v_down, ec, h_down⟩ := h; subst ec; obtain ⟨v_right, ed, h_right⟩ := h2; subst ed; have h_down := PyI.st sd h_down; have h_size := PyI.st gd.st h_size; have h_row := PyI.st gd.st h_row; have h_column := PyI.st gd.st h_column; exact et_yes) (fun c1 Wc s2 d1 Wd s3 gc h gd sd h2 => by obtain ⟨v_down, ec, h_down⟩ := h; subst ec; obtain ⟨v_right, ed, h_right⟩ := h2; subst ed; have h_down := PyI.st sd h_down; have h_size := PyI.st gd.st h_size; have h_row := PyI.st gd.st h_row; have h_column := PyI.st gd.st h_column; exact (ew_pair (ew_add (ew_var (v := v_row) rfl h_row) (ew_var (v := v_down) rfl h_down)) (ew_add (ew_var (v := v_column) rfl h_column) (ew_var (v := v_right) rfl h_right))))) g0.ok hm fun r2 v_ret W2 g2 hp hm => ?_
    exact hm v_ret W2 (g0.trans g2) rfl ((sN (kL Sq)).back g0 hp)
abbrev s_can_lie : Stmt := top 11
abbrev N_can_lie : List Str := ["chart", "size", "place", "square"]
abbrev P_can_lie : List Str := ["chart", "size", "place"]
theorem sc_can_lie : FnScope N_can_lie P_can_lie (defScope s_can_lie) := ⟨rfl, rfl, rfl, by decide +kernel, rfl, by decide +kernel, by decide +kernel⟩
def m_can_lie (a_chart : (List Str)) (a_size : Int) (a_place : Sq) : WP Bool := (WP.b2 (WP.pure a_size) (WP.pure a_place) m_under).bind fun xs1 => WP.after (WP.loop (γ := Bool) (fun c1 (y1 : Unit) => (WP.b2 (WP.pure a_chart) (WP.pure c1) m_is_land).bind fun b => WP.cond b ((WP.pure false).bind fun r3 => (WP.pure (.rt r3))) ((WP.pure (.nx ())))) xs1 ()) (fun (z1 : Unit) => (WP.pure true).bind fun r4 => (WP.pure r4)) (fun r => (WP.pure r))
def sp_can_lie : Sp := fun vs H Q _ => ∃ (W : Wo) (a_chart : (List Str)) (a_size : Int) (a_place : Sq) (v_chart v_size v_place : V), vs = [v_chart, v_size, v_place] ∧ W.H = H ∧ Good ef0 W ∧ Rp W a_chart v_chart ∧ Rp W a_size v_size ∧ Rp W a_place v_place ∧ (m_can_lie a_chart a_size a_place).run W.n fun n r => ∀ v W', Gw ef0 W W' → W'.n = n → (sI (e := ef0) (α := Bool)).post W W' r v → Q v W'.H
theorem ev_can_lie {e : Ef} {σ : L2.St} {W : Wo} {E : XK} {t0 t1 t2 : TE} {w0 : WP (List Str)} {w1 : WP Int} {w2 : WP Sq} (h0 : EvW e t0 σ W sI w0) (h1 : EvW e t1 σ W sI w1) (h2 : EvW e t2 σ W sI w2) : EvW e (tCall sp_can_lie [] E (tCons t0 (tCons t1 (tCons t2 tNil)))) σ W (sI (α := Bool)) (WP.b3 w0 w1 w2 m_can_lie) := ew_call3N h0 h1 h2 fun W2 b0 b1 b2 x0 x1 x2 g2 r0 r1 r2 Q q E => by
  exact ⟨W2, b0, b1, b2, x0, x1, x2, rfl, rfl, g2.z, r0, r1, r2, WP.mono _ (fun n c h v W3 g3 hn p => h v W3 (Gw.up g2 g3) hn p) q⟩
theorem ok_can_lie (F : At K mg "can_lie" s_can_lie P_can_lie) (G : Glb mg) (H_is_land : Has P w K mg base "is_land" 2 P_is_land sp_is_land) (H_under : Has P w K mg base "under" 1 P_under sp_under) : Has P w K mg base "can_lie" 3 P_can_lie sp_can_lie := by
  refine Has.of F sc_can_lie (fun vs H Q E h => ?_) (fun f cdv A outer s H0 vs Q E hr h => ?_)
  · obtain ⟨W0, a_chart, a_size, a_place, v_chart, v_size, v_place, rfl, _⟩ := h
    rfl
  · obtain ⟨W0, a_chart, a_size, a_place, v_chart, v_size, v_place, rfl, rfl, g00, h_chart, h_size, h_place, hm⟩ := h
    have sc := sc_can_lie
    have g0 := Gw.refl g00
    unfold m_can_lie at hm
    refine ⟨_, (pss_cons (ps_for PassesOwn.never rfl (pi_list (pe_user H_under (hr.mono (by decide)) rfl (pa_cons (pv 1) (pa_cons (pv 2) pa_nil)))) (pg_name (i := 3) sc.nd rfl (Or.inl rfl))
      (pss_one (ps_if (pt_val (pe_user H_is_land (hr.mono (by decide)) rfl (pa_cons (pv 0) (pa_cons (pv 3) pa_nil)))) (pss_one (ps_ret pe_bl)) pss_nil)))
      (pss_one (ps_ret pe_bl))), ?_⟩
    refine q_forN (W := W0) tk_N (ev_under (ew_var (v := v_size) rfl h_size) (ew_var (v := v_place) rfl h_place)) g0.ok hm fun xs1 p_it1 vs_it1 W1 g1 hn_it1 hF_it1 hp_it1 hr_it1 => ?_
    have nS_it1 : ¬ ef0.S p_it1 := fun z => g0.ok.S _ z hn_it1
    have h_chart := PyI.st g1.st h_chart
    have h_size := PyI.st g1.st h_size
    have h_place := PyI.st g1.st h_place
    have g0 := g0.trans g1
    refine ⟨fun y σ' W' => ∃ (o_square : Option V), σ' = [some v_chart, some v_size, some v_place, o_square] ∧ Gw ef0 W0 W' ∧ St W1 W' ∧ W'.H p_it1 = some (.lst vs_it1), ⟨_, rfl, g0, (St.refl _), hp_it1⟩, fun _ _ _ hI => ?_, fun c1 y1 σi s2 Wi1 R1 nx1 ht hI hm kn1 kb1 kr1 => ?_, fun z1 σi Wi1 hI hm => ?_⟩
    · obtain ⟨o_square, rfl, g0, sl1, hp_it1⟩ := hI
      exact ⟨sl1, hp_it1⟩
    ·
      obtain ⟨o_square, rfl, g0, sl1, hp_it1⟩ := hI
      have h_chart := PyI.st sl1 h_chart
      have h_size := PyI.st sl1 h_size
      have h_place := PyI.st sl1 h_place
      obtain ⟨v_square, rfl, h_square⟩ := ht
      refine st_if (W := Wi1) (et_B (ev_is_land (ew_var (v := v_chart) rfl h_chart) (ew_var (v := v_square) rfl h_square))) g0.ok hm (fun W2 g2 hm => ?_) (fun W2 g2 hm => ?_)
      ·
        have h_chart := PyI.st g2.st h_chart
        have h_size := PyI.st g2.st h_size
        have h_place := PyI.st g2.st h_place
        have h_square := PyI.st g2.st h_square
        have sl1 := sl1.trans g2.st
        have hp_it1 := g2.keep _ _ hp_it1 nS_it1
        have g0 := g0.trans g2
        refine st_ret (W := W2) ew_bl g0.ok hm fun r3 v_ret W3 g3 hp hm => ?_
        have hm := kr1 _ _ hm
        exact hm v_ret W3 (g0.trans g3) rfl hp
      ·
        have h_chart := PyI.st g2.st h_chart
        have h_size := PyI.st g2.st h_size
        have h_place := PyI.st g2.st h_place
        have h_square := PyI.st g2.st h_square
        have sl1 := sl1.trans g2.st
        have hp_it1 := g2.keep _ _ hp_it1 nS_it1
        have g0 := g0.trans g2
        refine st_next ?_
        exact kn1 () _ W2 ⟨_, rfl, g0, sl1, hp_it1⟩ hm
    ·
      obtain ⟨o_square, rfl, g0, sl1, hp_it1⟩ := hI
      have h_chart := PyI.st sl1 h_chart
      have h_size := PyI.st sl1 h_size
      have h_place := PyI.st sl1 h_place
      refine st_ret (W := Wi1) ew_bl g0.ok hm fun r4 v_ret W4 g4 hp hm => ?_
      exact hm v_ret W4 (g0.trans g4) rfl hp
abbrev s_ship_places : Stmt := top 12
abbrev N_ship_places : List Str := ["chart", "size", "found", "row", "column"]
abbrev P_ship_places : List Str := ["chart", "size"]
theorem sc_ship_places : FnScope N_ship_places P_ship_places (defScope s_ship_places) := ⟨rfl, rfl, rfl, by decide +kernel, rfl, by decide +kernel, by decide +kernel⟩
def m_ship_places (a_chart : (List Str)) (a_size : Int) : WP (List Sq) := (WP.row (WP.pure ([] : List Sq))).bind fun a1_found => (WP.range2 (WP.neg (WP.pure a_size)) (WP.add (WP.len (WP.pure a_chart)) (WP.pure (1 : Int)))).bind fun xs2 => WP.after (WP.loop (γ := (List Sq)) (fun c2 (y2 : (List Sq)) => (WP.range2 (WP.neg (WP.pure a_size)) (WP.add (WP.lenS (WP.ix (WP.pure a_chart) (WP.pure (0 : Int)))) (WP.pure (1 : Int)))).bind fun xs3 => WP.after (WP.loop (γ := (List Sq)) (fun c3 (y3 : (List Sq)) => ((WP.b3 (WP.pure a_chart) (WP.pure a_size) (WP.pair (WP.pure c2) (WP.pure c3)) m_can_lie).bind fun b => WP.cond b (((WP.pair (WP.pure c2) (WP.pure c3)).bind fun a => WP.req (y3.length < 100000) (y3 ++ [a])).bind fun a5_found => (WP.pure a5_found)) ((WP.pure y3))).bind fun (y4 : (List Sq)) => (WP.pure (.nx y4))) xs3 y2) (fun (z3 : (List Sq)) => (WP.pure (.nx z3))) (fun r => (WP.pure (.rt r)))) xs2 a1_found) (fun (z2 : (List Sq)) => (WP.pure z2)) (fun r => (WP.pure r))
def sp_ship_places : Sp := fun vs H Q _ => ∃ (W : Wo) (a_chart : (List Str)) (a_size : Int) (v_chart v_size : V), vs = [v_chart, v_size] ∧ W.H = H ∧ Good ef0 W ∧ Rp W a_chart v_chart ∧ Rp W a_size v_size ∧ (m_ship_places a_chart a_size).run W.n fun n r => ∀ v W', Gw ef0 W W' → W'.n = n → (sN (e := ef0) (kL Sq)).post W W' r v → Q v W'.H
theorem ev_ship_places {e : Ef} {σ : L2.St} {W : Wo} {E : XK} {t0 t1 : TE} {w0 : WP (List Str)} {w1 : WP Int} (h0 : EvW e t0 σ W sI w0) (h1 : EvW e t1 σ W sI w1) : EvW e (tCall sp_ship_places [] E (tCons t0 (tCons t1 tNil))) σ W (sN (kL Sq)) (WP.b2 w0 w1 m_ship_places) := ew_call2N h0 h1 fun W2 b0 b1 x0 x1 g2 r0 r1 Q q E => by
  exact ⟨W2, b0, b1, x0, x1, rfl, rfl, g2.z, r0, r1, WP.mono _ (fun n c h v W3 g3 hn p => h v W3 (Gw.up g2 g3) hn (sN_up g2 p)) q⟩
theorem ok_ship_places (F : At K mg "ship_places" s_ship_places P_ship_places) (G : Glb mg) (H_can_lie : Has P w K mg base "can_lie" 3 P_can_lie sp_can_lie) : Has P w K mg base "ship_places" 4 P_ship_places sp_ship_places := by
  refine Has.of F sc_ship_places (fun vs H Q E h => ?_) (fun f cdv A outer s H0 vs Q E hr h => ?_)
  · obtain ⟨W0, a_chart, a_size, v_chart, v_size, rfl, _⟩ := h
    rfl
  · obtain ⟨W0, a_chart, a_size, v_chart, v_size, rfl, rfl, g00, h_chart, h_size, hm⟩ := h
    have sc := sc_ship_places
    have g0 := Gw.refl g00
    unfold m_ship_places at hm
    refine ⟨_, (pss_cons (ps_set (i := 2) sc.nd rfl (Or.inl rfl) (pe_lst pa_nil))
      (pss_cons (ps_for PassesOwn.never rfl (pi_range2 rfl G.range (pa_cons (pe_un un_neg (pv 1)) (pa_cons (pe_op op_add (pe_callB call_len_seq (by rfl) G.len PySem.boot_len (pa_cons (pv 0) pa_nil)) pe_int) pa_nil))) (pg_name (i := 3) sc.nd rfl (Or.inl rfl))
      (pss_one (ps_for PassesOwn.never rfl (pi_range2 rfl G.range (pa_cons (pe_un un_neg (pv 1)) (pa_cons (pe_op op_add (pe_callB call_len_str (by rfl) G.len PySem.boot_len (pa_cons (pe_ix ix_tup (pv 0) pe_int (fun _ _ => rfl)) pa_nil)) pe_int) pa_nil))) (pg_name (i := 4) sc.nd rfl (Or.inl rfl))
      (pss_one (ps_if (pt_val (pe_user H_can_lie (hr.mono (by decide)) rfl (pa_cons (pv 0) (pa_cons (pv 1) (pa_cons (pe_tup (pa_cons (pv 3) (pa_cons (pv 4) pa_nil))) pa_nil))))) (pss_one (ps_expr (pe_bm PySem.F.plainAttrs_list PySem.F.slot_list_append PySem.F.type_list_append mt_append (pv 2) (pa_cons (pe_tup (pa_cons (pv 3) (pa_cons (pv 4) pa_nil))) pa_nil)))) pss_nil)))))
      (pss_one (ps_ret (pv 2))))), ?_⟩
    refine q_asg (W := W0) (ew_lst (eas_nil (α := Sq))) g0.ok hm fun a1_found v_found W1 g1 ⟨fp_found, ho0_found, hf_found⟩ hm => ?_
    have hz_found : ∀ a ∈ fp_found, W0.H a = none := fun a m => g0.live a (hf_found a m).1
    have h_chart := PyI.st g1.st h_chart
    have h_size := PyI.st g1.st h_size
    have g0 := g0.trans g1
    have ho_found : Var (kL Sq) W0 W1 fp_found a1_found v_found := ⟨ho0_found, hz_found, fun b m => (hf_found b m).2.2⟩
    refine q_forR2 (W := W1) (ew_neg (ew_var (v := v_size) rfl h_size)) (ew_add (ew_lenT (ew_var (v := v_chart) rfl h_chart)) ew_int) g0.ok hm fun W2 g2 => ?_
    have h_chart := PyI.st g2.st h_chart
    have h_size := PyI.st g2.st h_size
    have ho_found := ho_found.go g00 g2
    have g0 := g0.trans g2
    refine ⟨fun y σ' W' => ∃ (v_found : V) (fp_found : List Addr) (o_row : Option V) (o_column : Option V), σ' = [some v_chart, some v_size, some v_found, o_row, o_column] ∧ Gw ef0 W0 W' ∧ St W2 W' ∧ Var (kL Sq) W0 W' fp_found y v_found, ⟨v_found, fp_found, _, _, rfl, g0, (St.refl _), ho_found⟩, fun c2 y2 σi s2 Wi2 R2 nx2 ht hI hm kn2 kb2 kr2 => ?_, fun z2 σi Wi2 hI hm => ?_⟩
    ·
      obtain ⟨v_found, fp_found, o_row, o_column, rfl, g0, sl2, ho_found⟩ := hI
      have h_chart := PyI.st sl2 h_chart
      have h_size := PyI.st sl2 h_size
      obtain ⟨v_row, rfl, h_row⟩ := ht
      refine st_forR2 (W := Wi2) (ew_neg (ew_var (v := v_size) rfl h_size)) (ew_add (ew_lenS (ew_ixT (ew_var (v := v_chart) rfl h_chart) ew_int)) ew_int) g0.ok hm fun W3 g3 => ?_
      have h_chart := PyI.st g3.st h_chart
      have h_size := PyI.st g3.st h_size
      have ho_found := ho_found.go g00 g3
      have h_row := PyI.st g3.st h_row
      have sl2 := sl2.trans g3.st
      have g0 := g0.trans g3
      refine ⟨fun y σ' W' => ∃ (v_found : V) (fp_found : List Addr) (o_column : Option V), σ' = [some v_chart, some v_size, some v_found, some v_row, o_column] ∧ Gw ef0 W0 W' ∧ St W3 W' ∧ Var (kL Sq) W0 W' fp_found y v_found, ⟨v_found, fp_found, _, rfl, g0, (St.refl _), ho_found⟩, fun c3 y3 σi s2 Wi3 R3 nx3 ht hI hm kn3 kb3 kr3 => ?_, fun z3 σi Wi3 hI hm => ?_⟩
      ·
        obtain ⟨v_found, fp_found, o_column, rfl, g0, sl3, ho_found⟩ := hI
        have h_chart := PyI.st sl3 h_chart
        have h_size := PyI.st sl3 h_size
        have h_row := PyI.st sl3 h_row
        have sl2 := sl2.trans sl3
        obtain ⟨v_column, rfl, h_column⟩ := ht
        refine st_join (W := Wi3) (s := (List Sq)) (fun y σ' W' => ∃ (v_found : V) (fp_found : List Addr), σ' = [some v_chart, some v_size, some v_found, some v_row, some v_column] ∧ Gw ef0 W0 W' ∧ St Wi3 W' ∧ Var (kL Sq) W0 W' fp_found y v_found) (et_B (ev_can_lie (ew_var (v := v_chart) rfl h_chart) (ew_var (v := v_size) rfl h_size) (ew_pair (ew_var (v := v_row) rfl h_row) (ew_var (v := v_column) rfl h_column)))) g0.ok hm (fun y4 σj Wj4 hI hm => ?_) (fun W4 R4 g4 hm kj => ?_) (fun W4 R4 g4 hm kj => ?_)
        ·
          obtain ⟨v_found, fp_found, rfl, g0, sj4, ho_found⟩ := hI
          have h_chart := PyI.st sj4 h_chart
          have h_size := PyI.st sj4 h_size
          have h_row := PyI.st sj4 h_row
          have h_column := PyI.st sj4 h_column
          have sl2 := sl2.trans sj4
          have sl3 := sl3.trans sj4
          exact kn3 y4 _ Wj4 ⟨v_found, fp_found, _, rfl, g0, sl3, ho_found⟩ hm
        ·
          have h_chart := PyI.st g4.st h_chart
          have h_size := PyI.st g4.st h_size
          have ho_found := ho_found.go g00 g4
          have h_row := PyI.st g4.st h_row
          have h_column := PyI.st g4.st h_column
          have sl2 := sl2.trans g4.st
          have sl3 := sl3.trans g4.st
          have g0 := g0.trans g4
          have sj4 := g4.st
          refine st_app (W := W4) g00 g0 rfl ho_found (ew_pair (ew_var (v := v_row) rfl h_row) (ew_var (v := v_column) rfl h_column)) hm fun a5_found W5_ W5 l_found el_found g5 s g02 kk ff ho_found hm => ?_
          have h_chart := PyI.st g5.st h_chart
          have h_size := PyI.st g5.st h_size
          have h_row := PyI.st g5.st h_row
          have h_column := PyI.st g5.st h_column
          have sl2 := sl2.trans g5.st
          have sl3 := sl3.trans g5.st
          have sj4 := sj4.trans g5.st
          have g0 := g0.trans g5
          have h_chart := PyI.st s h_chart
          have h_size := PyI.st s h_size
          have h_row := PyI.st s h_row
          have h_column := PyI.st s h_column
          have sl2 := sl2.trans s
          have sl3 := sl3.trans s
          have sj4 := sj4.trans s
          have g0 := g02
          exact kj a5_found _ W5 ⟨v_found, fp_found, rfl, g0, sj4, ho_found⟩ hm
        ·
          have h_chart := PyI.st g4.st h_chart
          have h_size := PyI.st g4.st h_size
          have ho_found := ho_found.go g00 g4
          have h_row := PyI.st g4.st h_row
          have h_column := PyI.st g4.st h_column
          have sl2 := sl2.trans g4.st
          have sl3 := sl3.trans g4.st
          have g0 := g0.trans g4
          have sj4 := g4.st
          refine st_next ?_
          exact kj y3 _ W4 ⟨v_found, fp_found, rfl, g0, sj4, ho_found⟩ hm
      ·
        obtain ⟨v_found, fp_found, o_column, rfl, g0, sl3, ho_found⟩ := hI
        have h_chart := PyI.st sl3 h_chart
        have h_size := PyI.st sl3 h_size
        have h_row := PyI.st sl3 h_row
        have sl2 := sl2.trans sl3
        exact kn2 z3 _ Wi3 ⟨v_found, fp_found, _, _, rfl, g0, sl2, ho_found⟩ hm
    ·
      obtain ⟨v_found, fp_found, o_row, o_column, rfl, g0, sl2, ho_found⟩ := hI
      have h_chart := PyI.st sl2 h_chart
      have h_size := PyI.st sl2 h_size
      exact ⟨_, rfl, hm _ Wi2 g0 rfl ⟨fp_found, ho_found.own, fun b m => ⟨ho_found.fr b m, Var.nS g00 ho_found b m, ho_found.nF b m⟩⟩⟩
abbrev s_free_places : Stmt := top 13
abbrev N_free_places : List Str := ["chart", "size", "place"]
abbrev P_free_places : List Str := ["chart", "size"]
theorem sc_free_places : FnScope N_free_places P_free_places (defScope s_free_places) := ⟨rfl, rfl, rfl, by decide +kernel, rfl, by decide +kernel, by decide +kernel⟩
def m_free_places (a_chart : (List Str)) (a_size : Int) : WP (List (Sq × Bool)) := (WP.dc putQ (WP.b2 (WP.pure a_chart) (WP.pure a_size) m_ship_places) (fun c1 => (WP.pure true)) (fun c1 => (WP.pure c1)) (fun c1 => (WP.pure true))).bind fun r1 => (WP.pure r1)
def sp_free_places : Sp := fun vs H Q _ => ∃ (W : Wo) (a_chart : (List Str)) (a_size : Int) (v_chart v_size : V), vs = [v_chart, v_size] ∧ W.H = H ∧ Good ef0 W ∧ Rp W a_chart v_chart ∧ Rp W a_size v_size ∧ (m_free_places a_chart a_size).run W.n fun n r => ∀ v W', Gw ef0 W W' → W'.n = n → (sN (e := ef0) (kD Bool)).post W W' r v → Q v W'.H
theorem ev_free_places {e : Ef} {σ : L2.St} {W : Wo} {E : XK} {t0 t1 : TE} {w0 : WP (List Str)} {w1 : WP Int} (h0 : EvW e t0 σ W sI w0) (h1 : EvW e t1 σ W sI w1) : EvW e (tCall sp_free_places [] E (tCons t0 (tCons t1 tNil))) σ W (sN (kD Bool)) (WP.b2 w0 w1 m_free_places) := ew_call2N h0 h1 fun W2 b0 b1 x0 x1 g2 r0 r1 Q q E => by
  exact ⟨W2, b0, b1, x0, x1, rfl, rfl, g2.z, r0, r1, WP.mono _ (fun n c h v W3 g3 hn p => h v W3 (Gw.up g2 g3) hn (sN_up g2 p)) q⟩
theorem ok_free_places (F : At K mg "free_places" s_free_places P_free_places) (G : Glb mg) (H_ship_places : Has P w K mg base "ship_places" 4 P_ship_places sp_ship_places) : Has P w K mg base "free_places" 5 P_free_places sp_free_places := by
  refine Has.of F sc_free_places (fun vs H Q E h => ?_) (fun f cdv A outer s H0 vs Q E hr h => ?_)
  · obtain ⟨W0, a_chart, a_size, v_chart, v_size, rfl, _⟩ := h
    rfl
  · obtain ⟨W0, a_chart, a_size, v_chart, v_size, rfl, rfl, g00, h_chart, h_size, hm⟩ := h
    have sc := sc_free_places
    have g0 := Gw.refl g00
    unfold m_free_places at hm
    refine ⟨_, (pss_one (ps_ret (pe_dcS (S := stoT P w) (own := [("place", 2)]) (g := gName 2) (tt := tYes) (hn10 (hu65 hr)) rfl sc.nd (pi_list (pe_user H_ship_places (hr.mono (by decide)) rfl (pa_cons (pv 0) (pa_cons (pv 1) pa_nil)))) (blkOk_by (N := N_free_places) (sc := defScope s_free_places) (by decide +kernel)) (fun _ _ _ _ _ => (pg_name (i := 2) sc.nd rfl (Or.inl rfl))) (fun _ _ _ _ _ => pts_nil) (fun _ _ _ _ _ => (pv 2)) (fun _ _ _ _ _ => pe_bl)))), ?_⟩
    refine st_ret (W := W0) (ew_dcX (dkQ P w Bool) (src_N (ev_ship_places (ew_var (v := v_chart) rfl h_chart) (ew_var (v := v_size) rfl h_size))) takes_N (fun _ _ _ h => by obtain ⟨v_place, ec, h_place⟩ := h; subst ec; rfl) (fun c1 Wc1 s2 gc1 h => by obtain ⟨v_place, ec, h_place⟩ := h; subst ec; have h_chart := PyI.st gc1.st h_chart; have h_size := PyI.st gc1.st h_size; exact et_yes) (fun c1 Wc1 s2 gc1 h => by obtain ⟨v_place, ec, h_place⟩ := h; subst ec; have h_chart := PyI.st gc1.st h_chart; have h_size := PyI.st gc1.st h_size; exact (ew_var (v := v_place) rfl h_place)) (fun c1 Wc1 s2 gc1 h => by obtain ⟨v_place, ec, h_place⟩ := h; subst ec; have h_chart := PyI.st gc1.st h_chart; have h_size := PyI.st gc1.st h_size; exact ew_bl)) g0.ok hm fun r1 v_ret W1 g1 hp hm => ?_
    exact hm v_ret W1 (g0.trans g1) rfl ((sN (kD Bool)).back g0 hp)
abbrev s_next_places : Stmt := top 14
abbrev N_next_places : List Str := ["free", "place", "other"]
abbrev P_next_places : List Str := ["free", "place"]
theorem sc_next_places : FnScope N_next_places P_next_places (defScope s_next_places) := ⟨rfl, rfl, rfl, by decide +kernel, rfl, by decide +kernel, by decide +kernel⟩
def m_next_places (a_free : (List (Sq × Bool))) (a_place : Sq) : WP (List Sq) := (WP.lc (WP.b1 (WP.pure a_place) m_side_neighbours) (fun c1 => (WP.din (WP.pure c1) (WP.pure a_free))) (fun c1 => (WP.pure c1))).bind fun r1 => (WP.pure r1)
def sp_next_places : Sp := fun vs H Q _ => ∃ (W : Wo) (a_free : (List (Sq × Bool))) (a_place : Sq) (v_free v_place : V) (fp_free : List Addr), vs = [v_free, v_place] ∧ W.H = H ∧ Good ef0 W ∧ (kDr Bool).own W fp_free a_free v_free ∧ (∀ a ∈ fp_free, ¬ ef0.S a) ∧ Rp W a_place v_place ∧ (m_next_places a_free a_place).run W.n fun n r => ∀ v W', Gw ef0 W W' → W'.n = n → (sN (e := ef0) (kL Sq)).post W W' r v → Q v W'.H
theorem ev_next_places {e : Ef} {σ : L2.St} {W : Wo} {E : XK} {t0 t1 : TE} {w0 : WP (List (Sq × Bool))} {w1 : WP Sq} (h0 : EvW e t0 σ W (sR (kDr Bool)) w0) (h1 : EvW e t1 σ W sI w1) : EvW e (tCall sp_next_places [] E (tCons t0 (tCons t1 tNil))) σ W (sN (kL Sq)) (WP.b2 w0 w1 m_next_places) := ew_call2N h0 h1 fun W2 b0 b1 x0 x1 g2 ⟨fp0, r0, s0⟩ r1 Q q E => by
  exact ⟨W2, b0, b1, x0, x1, fp0, rfl, rfl, g2.z, r0, fun _ _ z => z, r1, WP.mono _ (fun n c h v W3 g3 hn p => h v W3 (Gw.up g2 g3) hn (sN_up g2 p)) q⟩
theorem ok_next_places (F : At K mg "next_places" s_next_places P_next_places) (G : Glb mg) (H_side_neighbours : Has P w K mg base "side_neighbours" 1 P_side_neighbours sp_side_neighbours) : Has P w K mg base "next_places" 2 P_next_places sp_next_places := by
  refine Has.of F sc_next_places (fun vs H Q E h => ?_) (fun f cdv A outer s H0 vs Q E hr h => ?_)
  · obtain ⟨W0, a_free, a_place, v_free, v_place, fp_free, rfl, _⟩ := h
    rfl
  · obtain ⟨W0, a_free, a_place, v_free, v_place, fp_free, rfl, rfl, g00, hb_free, hS_free, h_place, hm⟩ := h
    have sc := sc_next_places
    have g0 := Gw.refl g00
    have hl_free := (kDr Bool).live hb_free
    have hb0_free := hb_free
    unfold m_next_places at hm
    refine ⟨_, (pss_one (ps_ret (pe_lc (own := [("other", 2)]) (g := gName 2) rfl sc.nd (pi_list (pe_user H_side_neighbours (hr.mono (by decide)) rfl (pa_cons (pv 1) pa_nil))) (blkOk_by (N := N_next_places) (sc := defScope s_next_places) (by decide +kernel)) (fun _ _ _ _ _ => (pg_name (i := 2) sc.nd rfl (Or.inl rfl))) (fun _ _ _ _ _ => (pts_one (pt_cmp (pc_din (hu_of hr) (pv 2) (pv 0))))) (fun _ _ _ _ _ => (pv 2))))), ?_⟩
    refine st_ret (W := W0) (ew_lcL (ew_rd (ev_side_neighbours (ew_var (v := v_place) rfl h_place))) takes_N (fun _ _ _ h => by obtain ⟨v_other, ec, h_other⟩ := h; subst ec; rfl) (fun c1 Wc1 s2 gc1 h => by obtain ⟨v_other, ec, h_other⟩ := h; subst ec; have hb_free := Kd.go gc1 hS_free hb_free; have h_place := PyI.st gc1.st h_place; exact (et_B (ew_din (ew_var (v := v_other) rfl h_other) (ew_varR rfl hS_free hb_free)))) (fun c1 Wc1 s2 gc1 h => by obtain ⟨v_other, ec, h_other⟩ := h; subst ec; have hb_free := Kd.go gc1 hS_free hb_free; have h_place := PyI.st gc1.st h_place; exact (ew_var (v := v_other) rfl h_other))) g0.ok hm fun r1 v_ret W1 g1 hp hm => ?_
    exact hm v_ret W1 (g0.trans g1) rfl ((sN (kL Sq)).back g0 hp)
abbrev s_reached_places : Stmt := top 15
abbrev N_reached_places : List Str := ["free", "start", "before", "queue", "at", "other"]
abbrev P_reached_places : List Str := ["free", "start"]
theorem sc_reached_places : FnScope N_reached_places P_reached_places (defScope s_reached_places) := ⟨rfl, rfl, rfl, by decide +kernel, rfl, by decide +kernel, by decide +kernel⟩
def m_reached_places (a_free : (List (Sq × Bool))) (a_start : Sq) : WP (List (Sq × (Option Sq))) := (WP.b2 (WP.pure a_start) (WP.pure (none : (Option Sq))) fun x b => WP.pure [(x, b)]).bind fun a1_before => (WP.row (WP.consE (WP.pure a_start) (WP.pure ([] : List Sq)))).bind fun a2_queue => (WP.pure (0 : Int)).bind fun a3_at => WP.after (WP.whilst (γ := (List (Sq × (Option Sq)))) (fun (y4 : (List (Sq × (Option Sq))) × (List Sq) × Int) => (WP.lt (WP.pure y4.2.2) (WP.len (WP.pure y4.2.1)))) (fun (y4 : (List (Sq × (Option Sq))) × (List Sq) × Int) => (WP.b2 (WP.pure a_free) (WP.ix (WP.pure y4.2.1) (WP.pure y4.2.2)) m_next_places).bind fun xs5 => WP.after (WP.loop (γ := (List (Sq × (Option Sq)))) (fun c5 (y5 : (List (Sq × (Option Sq))) × (List Sq)) => ((WP.not (WP.din (WP.pure c5) (WP.pure y5.1))).bind fun b => WP.cond b ((WP.b2 (WP.some' (WP.ix (WP.pure y5.2) (WP.pure y4.2.2))) (WP.pure c5) fun b q => WP.req (y5.1.length < 100000) (putQ y5.1 q b)).bind fun a7_before => ((WP.pure c5).bind fun a => WP.req (y5.2.length < 100000) (y5.2 ++ [a])).bind fun a8_queue => (WP.pure (a7_before, a8_queue))) ((WP.pure (y5.1, y5.2)))).bind fun (y6 : (List (Sq × (Option Sq))) × (List Sq)) => (WP.pure (.nx (y6.1, y6.2)))) xs5 (y4.1, y4.2.1)) (fun (z5 : (List (Sq × (Option Sq))) × (List Sq)) => (WP.add (WP.pure y4.2.2) (WP.pure (1 : Int))).bind fun a9_at => (WP.pure (.nx (z5.1, z5.2, a9_at)))) (fun r => (WP.pure (.rt r)))) (a1_before, a2_queue, a3_at)) (fun (z4 : (List (Sq × (Option Sq))) × (List Sq) × Int) => (WP.pure z4.1)) (fun r => (WP.pure r))
def sp_reached_places : Sp := fun vs H Q _ => ∃ (W : Wo) (a_free : (List (Sq × Bool))) (a_start : Sq) (v_free v_start : V) (fp_free : List Addr), vs = [v_free, v_start] ∧ W.H = H ∧ Good ef0 W ∧ (kDr Bool).own W fp_free a_free v_free ∧ (∀ a ∈ fp_free, ¬ ef0.S a) ∧ Rp W a_start v_start ∧ (m_reached_places a_free a_start).run W.n fun n r => ∀ v W', Gw ef0 W W' → W'.n = n → (sN (e := ef0) (kD (Option Sq))).post W W' r v → Q v W'.H
theorem ev_reached_places {e : Ef} {σ : L2.St} {W : Wo} {E : XK} {t0 t1 : TE} {w0 : WP (List (Sq × Bool))} {w1 : WP Sq} (h0 : EvW e t0 σ W (sR (kDr Bool)) w0) (h1 : EvW e t1 σ W sI w1) : EvW e (tCall sp_reached_places [] E (tCons t0 (tCons t1 tNil))) σ W (sN (kD (Option Sq))) (WP.b2 w0 w1 m_reached_places) := ew_call2N h0 h1 fun W2 b0 b1 x0 x1 g2 ⟨fp0, r0, s0⟩ r1 Q q E => by
  exact ⟨W2, b0, b1, x0, x1, fp0, rfl, rfl, g2.z, r0, fun _ _ z => z, r1, WP.mono _ (fun n c h v W3 g3 hn p => h v W3 (Gw.up g2 g3) hn (sN_up g2 p)) q⟩
theorem ok_reached_places (F : At K mg "reached_places" s_reached_places P_reached_places) (G : Glb mg) (H_next_places : Has P w K mg base "next_places" 2 P_next_places sp_next_places) : Has P w K mg base "reached_places" 3 P_reached_places sp_reached_places := by
  refine Has.of F sc_reached_places (fun vs H Q E h => ?_) (fun f cdv A outer s H0 vs Q E hr h => ?_)
  · obtain ⟨W0, a_free, a_start, v_free, v_start, fp_free, rfl, _⟩ := h
    rfl
  · obtain ⟨W0, a_free, a_start, v_free, v_start, fp_free, rfl, rfl, g00, hb_free, hS_free, h_start, hm⟩ := h
    have sc := sc_reached_places
    have g0 := Gw.refl g00
    have hl_free := (kDr Bool).live hb_free
    have hb0_free := hb_free
    unfold m_reached_places at hm
    refine ⟨_, (pss_cons (ps_set (i := 2) sc.nd rfl (Or.inl rfl) (pe_disp1T (hu_of hr) (pv 1) pe_non))
      (pss_cons (ps_set (i := 3) sc.nd rfl (Or.inl rfl) (pe_lst (pa_cons (pv 1) pa_nil)))
      (pss_cons (ps_set (i := 4) sc.nd rfl (Or.inl rfl) pe_int)
      (pss_cons (ps_while PassesOwn.never (pt_cmpR op_lt (pv 4) (pe_callB call_len_seq (by rfl) G.len PySem.boot_len (pa_cons (pv 3) pa_nil)) (nomark _))
      (pss_cons (ps_for PassesOwn.never rfl (pi_list (pe_user H_next_places (hr.mono (by decide)) rfl (pa_cons (pv 0) (pa_cons (pe_ix ix_list (pv 3) (pv 4) (fun _ _ => rfl)) pa_nil)))) (pg_name (i := 5) sc.nd rfl (Or.inl rfl))
      (pss_one (ps_if (pt_cmp (pc_dnotin (hu_of hr) (pv 5) (pv 2))) (pss_cons (ps_dput (hu_of hr) (pv 2) (pv 5) (pe_ix ix_list (pv 3) (pv 4) (fun _ _ => rfl)) rfl)
      (pss_one (ps_expr (pe_bm PySem.F.plainAttrs_list PySem.F.slot_list_append PySem.F.type_list_append mt_append (pv 3) (pa_cons (pv 5) pa_nil))))) pss_nil)))
      (pss_one (ps_set (i := 4) sc.nd rfl (Or.inl rfl) (pe_op op_add (pv 4) pe_int)))))
      (pss_one (ps_ret (pv 2))))))), ?_⟩
    refine q_asg (W := W0) (ew_disp1 (ew_var (v := v_start) rfl h_start) (ew_nonO (α := Sq))) g0.ok hm fun a1_before v_before W1 g1 ⟨fp_before, ho0_before, hf_before⟩ hm => ?_
    have hz_before : ∀ a ∈ fp_before, W0.H a = none := fun a m => g0.live a (hf_before a m).1
    have hb_free := Kd.go g1 hS_free hb_free
    have h_start := PyI.st g1.st h_start
    have g0 := g0.trans g1
    have ho_before : Var (kD (Option Sq)) W0 W1 fp_before a1_before v_before := ⟨ho0_before, hz_before, fun b m => (hf_before b m).2.2⟩
    first | refine norm_st (σ' := [some v_free, some v_start, some v_before, none, none, none]) rfl ?_ | skip
    refine q_asg (W := W1) (ew_lst (eas_cons (ew_var (v := v_start) rfl h_start) (eas_nil (α := Sq)))) g0.ok hm fun a2_queue v_queue W2 g2 ⟨fp_queue, ho0_queue, hf_queue⟩ hm => ?_
    have dj_before_queue : ∀ b ∈ fp_before, b ∉ fp_queue := fun b m z => (kD (Option Sq)).live ho_before.own b m (hf_queue b z).1
    have hz_queue : ∀ a ∈ fp_queue, W0.H a = none := fun a m => g0.live a (hf_queue a m).1
    have hb_free := Kd.go g2 hS_free hb_free
    have h_start := PyI.st g2.st h_start
    have ho_before := ho_before.go g00 g2
    have g0 := g0.trans g2
    have ho_queue : Var (kL Sq) W0 W2 fp_queue a2_queue v_queue := ⟨ho0_queue, hz_queue, fun b m => (hf_queue b m).2.2⟩
    refine q_asg (W := W2) ew_int g0.ok hm fun a3_at v_at W3 g3 h_at hm => ?_
    have hb_free := Kd.go g3 hS_free hb_free
    have h_start := PyI.st g3.st h_start
    have ho_before := ho_before.go g00 g3
    have ho_queue := ho_queue.go g00 g3
    have g0 := g0.trans g3
    first | refine norm_st (σ' := [some v_free, some v_start, some v_before, some v_queue, some v_at, none]) rfl ?_ | skip
    refine q_while (W := W3) g0.ok hm (fun y σ' W' => ∃ (v_at : V) (v_before : V) (fp_before : List Addr) (v_queue : V) (fp_queue : List Addr) (o_other : Option V), σ' = [some v_free, some v_start, some v_before, some v_queue, some v_at, o_other] ∧ Gw ef0 W0 W' ∧ St W3 W' ∧ Var (kD (Option Sq)) W0 W' fp_before y.1 v_before ∧ Var (kL Sq) W0 W' fp_queue y.2.1 v_queue ∧ Rp W' y.2.2 v_at ∧ (∀ b ∈ fp_before, b ∉ fp_queue)) ⟨v_at, v_before, fp_before, v_queue, fp_queue, _, rfl, g0, (St.refl _), ho_before, ho_queue, h_at, dj_before_queue⟩ (fun y4 σi Wi4 hI => ?_) (fun z4 σi Wi4 hI hm => ?_)
    ·
      obtain ⟨v_at, v_before, fp_before, v_queue, fp_queue, o_other, rfl, g0, sl4, ho_before, ho_queue, h_at, dj_before_queue⟩ := hI
      have hb_free := Kd.go g0 hS_free hb0_free
      have h_start := PyI.st sl4 h_start
      refine ⟨g0.ok, (et_t (ew_lt (ew_var (v := v_at) rfl h_at) (ew_lenL (ew_varR (v := v_queue) rfl (Var.nS g00 ho_queue) ho_queue.own)))), fun W4 g4 => ?_⟩
      have hb_free := Kd.go g4 hS_free hb_free
      have h_start := PyI.st g4.st h_start
      have ho_before := ho_before.go g00 g4
      have ho_queue := ho_queue.go g00 g4
      have h_at := PyI.st g4.st h_at
      have sl4 := sl4.trans g4.st
      have g0 := g0.trans g4
      refine ⟨fun R4 nx4 hm kn4 kb4 kr4 => ?_, ⟨v_at, v_before, fp_before, v_queue, fp_queue, _, rfl, g0, sl4, ho_before, ho_queue, h_at, dj_before_queue⟩⟩
      refine q_forN (W := W4) tk_N (ev_next_places (ew_varR rfl hS_free hb_free) (ew_ixL (ew_varR (v := v_queue) rfl (Var.nS g00 ho_queue) ho_queue.own) (ew_var (v := v_at) rfl h_at))) g0.ok hm fun xs5 p_it5 vs_it5 W5 g5 hn_it5 hF_it5 hp_it5 hr_it5 => ?_
      have dj_it5_before : ∀ b ∈ [p_it5], b ∉ fp_before := fun b m z => by cases mem_one m; exact (kD (Option Sq)).live ho_before.own _ z hn_it5
      have dj_it5_queue : ∀ b ∈ [p_it5], b ∉ fp_queue := fun b m z => by cases mem_one m; exact (kL Sq).live ho_queue.own _ z hn_it5
      have nS_it5 : ¬ ef0.S p_it5 := fun z => g0.ok.S _ z hn_it5
      have hb_free := Kd.go g5 hS_free hb_free
      have h_start := PyI.st g5.st h_start
      have ho_before := ho_before.go g00 g5
      have ho_queue := ho_queue.go g00 g5
      have h_at := PyI.st g5.st h_at
      have sl4 := sl4.trans g5.st
      have g0 := g0.trans g5
      refine ⟨fun y σ' W' => ∃ (v_before : V) (fp_before : List Addr) (v_queue : V) (fp_queue : List Addr) (o_other : Option V), σ' = [some v_free, some v_start, some v_before, some v_queue, some v_at, o_other] ∧ Gw ef0 W0 W' ∧ St W5 W' ∧ Var (kD (Option Sq)) W0 W' fp_before y.1 v_before ∧ Var (kL Sq) W0 W' fp_queue y.2 v_queue ∧ W'.H p_it5 = some (.lst vs_it5) ∧ (∀ b ∈ fp_before, b ∉ fp_queue) ∧ (∀ b ∈ [p_it5], b ∉ fp_before) ∧ (∀ b ∈ [p_it5], b ∉ fp_queue), ⟨v_before, fp_before, v_queue, fp_queue, _, rfl, g0, (St.refl _), ho_before, ho_queue, hp_it5, dj_before_queue, dj_it5_before, dj_it5_queue⟩, fun _ _ _ hI => ?_, fun c5 y5 σi s2 Wi5 R5 nx5 ht hI hm kn5 kb5 kr5 => ?_, fun z5 σi Wi5 hI hm => ?_⟩
      · obtain ⟨v_before, fp_before, v_queue, fp_queue, o_other, rfl, g0, sl5, ho_before, ho_queue, hp_it5, dj_before_queue, dj_it5_before, dj_it5_queue⟩ := hI
        exact ⟨sl5, hp_it5⟩
      ·
        obtain ⟨v_before, fp_before, v_queue, fp_queue, o_other, rfl, g0, sl5, ho_before, ho_queue, hp_it5, dj_before_queue, dj_it5_before, dj_it5_queue⟩ := hI
        have hb_free := Kd.go g0 hS_free hb0_free
        have h_start := PyI.st sl5 h_start
        have h_at := PyI.st sl5 h_at
        have sl4 := sl4.trans sl5
        obtain ⟨v_other, rfl, h_other⟩ := ht
        refine st_join (W := Wi5) (s := (List (Sq × (Option Sq))) × (List Sq)) (fun y σ' W' => ∃ (v_before : V) (fp_before : List Addr) (v_queue : V) (fp_queue : List Addr), σ' = [some v_free, some v_start, some v_before, some v_queue, some v_at, some v_other] ∧ Gw ef0 W0 W' ∧ St Wi5 W' ∧ Var (kD (Option Sq)) W0 W' fp_before y.1 v_before ∧ Var (kL Sq) W0 W' fp_queue y.2 v_queue ∧ W'.H p_it5 = some (.lst vs_it5) ∧ (∀ b ∈ fp_before, b ∉ fp_queue) ∧ (∀ b ∈ [p_it5], b ∉ fp_before) ∧ (∀ b ∈ [p_it5], b ∉ fp_queue)) (et_B (ew_dnotin (ew_var (v := v_other) rfl h_other) (ew_dr (ew_varR (v := v_before) rfl (Var.nS g00 ho_before) ho_before.own)))) g0.ok hm (fun y6 σj Wj6 hI hm => ?_) (fun W6 R6 g6 hm kj => ?_) (fun W6 R6 g6 hm kj => ?_)
        ·
          obtain ⟨v_before, fp_before, v_queue, fp_queue, rfl, g0, sj6, ho_before, ho_queue, hp_it5, dj_before_queue, dj_it5_before, dj_it5_queue⟩ := hI
          have hb_free := Kd.go g0 hS_free hb0_free
          have h_start := PyI.st sj6 h_start
          have h_at := PyI.st sj6 h_at
          have h_other := PyI.st sj6 h_other
          have sl4 := sl4.trans sj6
          have sl5 := sl5.trans sj6
          exact kn5 (y6.1, y6.2) _ Wj6 ⟨v_before, fp_before, v_queue, fp_queue, _, rfl, g0, sl5, ho_before, ho_queue, hp_it5, dj_before_queue, dj_it5_before, dj_it5_queue⟩ hm
        ·
          have hb_free := Kd.go g6 hS_free hb_free
          have h_start := PyI.st g6.st h_start
          have ho_before := ho_before.go g00 g6
          have ho_queue := ho_queue.go g00 g6
          have h_at := PyI.st g6.st h_at
          have h_other := PyI.st g6.st h_other
          have sl4 := sl4.trans g6.st
          have sl5 := sl5.trans g6.st
          have hp_it5 := g6.keep _ _ hp_it5 nS_it5
          have g0 := g0.trans g6
          have sj6 := g6.st
          refine q_dput (W := W6) g00 g0 rfl ho_before (ew_some' (ew_ixL (ew_varR (v := v_queue) rfl (Var.nS g00 ho_queue) ho_queue.own) (ew_var (v := v_at) rfl h_at))) (ew_var (v := v_other) rfl h_other) hm fun a7_before W7_ W7 l_before el_before g7 s g02 kk ff ho_before hm => ?_
          have hb_free := Kd.go g7 hS_free hb_free
          have h_start := PyI.st g7.st h_start
          have ho_queue := ho_queue.go g00 g7
          have h_at := PyI.st g7.st h_at
          have h_other := PyI.st g7.st h_other
          have sl4 := sl4.trans g7.st
          have sl5 := sl5.trans g7.st
          have sj6 := sj6.trans g7.st
          have hp_it5 := g7.keep _ _ hp_it5 nS_it5
          have g0 := g0.trans g7
          have hb_free := Kd.st _ s (kk fp_free _ Kp.refl fun b m z => hl_free b m (ho_before.fr b z)) hb_free
          have h_start := PyI.st s h_start
          have ho_queue := ho_queue.kept s kk ff (fun b m z => dj_before_queue b z m)
          have h_at := PyI.st s h_at
          have h_other := PyI.st s h_other
          have sl4 := sl4.trans s
          have sl5 := sl5.trans s
          have sj6 := sj6.trans s
          have hp_it5 := kk [p_it5] _ Kp.refl dj_it5_before _ (List.mem_singleton.mpr rfl) _ hp_it5
          have g0 := g02
          refine st_app (W := W7) g00 g0 rfl ho_queue (ew_var (v := v_other) rfl h_other) hm fun a8_queue W8_ W8 l_queue el_queue g8 s g02 kk ff ho_queue hm => ?_
          have hb_free := Kd.go g8 hS_free hb_free
          have h_start := PyI.st g8.st h_start
          have ho_before := ho_before.go g00 g8
          have h_at := PyI.st g8.st h_at
          have h_other := PyI.st g8.st h_other
          have sl4 := sl4.trans g8.st
          have sl5 := sl5.trans g8.st
          have sj6 := sj6.trans g8.st
          have hp_it5 := g8.keep _ _ hp_it5 nS_it5
          have g0 := g0.trans g8
          have hb_free := Kd.st _ s (kk fp_free _ Kp.refl fun b m z => hl_free b m (ho_queue.fr b z)) hb_free
          have h_start := PyI.st s h_start
          have ho_before := ho_before.kept s kk ff dj_before_queue
          have h_at := PyI.st s h_at
          have h_other := PyI.st s h_other
          have sl4 := sl4.trans s
          have sl5 := sl5.trans s
          have sj6 := sj6.trans s
          have hp_it5 := kk [p_it5] _ Kp.refl dj_it5_queue _ (List.mem_singleton.mpr rfl) _ hp_it5
          have g0 := g02
          exact kj (a7_before, a8_queue) _ W8 ⟨v_before, fp_before, v_queue, fp_queue, rfl, g0, sj6, ho_before, ho_queue, hp_it5, dj_before_queue, dj_it5_before, dj_it5_queue⟩ hm
        ·
          have hb_free := Kd.go g6 hS_free hb_free
          have h_start := PyI.st g6.st h_start
          have ho_before := ho_before.go g00 g6
          have ho_queue := ho_queue.go g00 g6
          have h_at := PyI.st g6.st h_at
          have h_other := PyI.st g6.st h_other
          have sl4 := sl4.trans g6.st
          have sl5 := sl5.trans g6.st
          have hp_it5 := g6.keep _ _ hp_it5 nS_it5
          have g0 := g0.trans g6
          have sj6 := g6.st
          refine st_next ?_
          exact kj (y5.1, y5.2) _ W6 ⟨v_before, fp_before, v_queue, fp_queue, rfl, g0, sj6, ho_before, ho_queue, hp_it5, dj_before_queue, dj_it5_before, dj_it5_queue⟩ hm
      ·
        obtain ⟨v_before, fp_before, v_queue, fp_queue, o_other, rfl, g0, sl5, ho_before, ho_queue, hp_it5, dj_before_queue, dj_it5_before, dj_it5_queue⟩ := hI
        have hb_free := Kd.go g0 hS_free hb0_free
        have h_start := PyI.st sl5 h_start
        have h_at := PyI.st sl5 h_at
        have sl4 := sl4.trans sl5
        refine st_asg (W := Wi5) (ew_add (ew_var (v := v_at) rfl h_at) ew_int) g0.ok hm fun a9_at v_at W9 g9 h_at hm => ?_
        have hb_free := Kd.go g9 hS_free hb_free
        have h_start := PyI.st g9.st h_start
        have ho_before := ho_before.go g00 g9
        have ho_queue := ho_queue.go g00 g9
        have sl4 := sl4.trans g9.st
        have g0 := g0.trans g9
        exact kn4 (z5.1, z5.2, a9_at) _ W9 ⟨v_at, v_before, fp_before, v_queue, fp_queue, _, rfl, g0, sl4, ho_before, ho_queue, h_at, dj_before_queue⟩ hm
    ·
      obtain ⟨v_at, v_before, fp_before, v_queue, fp_queue, o_other, rfl, g0, sl4, ho_before, ho_queue, h_at, dj_before_queue⟩ := hI
      have hb_free := Kd.go g0 hS_free hb0_free
      have h_start := PyI.st sl4 h_start
      first | refine norm_st (σ' := [some v_free, some v_start, some v_before, some v_queue, some v_at, o_other]) rfl ?_ | skip
      exact ⟨_, rfl, hm _ Wi4 g0 rfl ⟨fp_before, ho_before.own, fun b m => ⟨ho_before.fr b m, Var.nS g00 ho_before b m, ho_before.nF b m⟩⟩⟩
abbrev s_voyage : Stmt := top 16
abbrev N_voyage : List Str := ["chart", "size", "a", "b", "before", "way"]
abbrev P_voyage : List Str := ["chart", "size", "a", "b"]
theorem sc_voyage : FnScope N_voyage P_voyage (defScope s_voyage) := ⟨rfl, rfl, rfl, by decide +kernel, rfl, by decide +kernel, by decide +kernel⟩
def m_voyage (a_chart : (List Str)) (a_size : Int) (a_a : Sq) (a_b : Sq) : WP (Option (Ls Sq)) := (WP.b2 (WP.b2 (WP.pure a_chart) (WP.pure a_size) m_free_places) (WP.pure a_a) m_reached_places).bind fun a1_before => (WP.not (WP.din (WP.pure a_b) (WP.pure a1_before))).bind fun b => WP.cond b ((WP.pure (none : (Option (Ls Sq)))).bind fun r3 => (WP.pure r3)) ((WP.row (WP.consE (WP.pure a_b) (WP.pure ([] : List Sq)))).bind fun a4_way => WP.after (WP.whilst (γ := (Option (Ls Sq))) (fun (y5 : (List Sq)) => (WP.notN (WP.dget (WP.pure a1_before) (WP.ix (WP.pure y5) (WP.neg (WP.pure (1 : Int))))))) (fun (y5 : (List Sq)) => ((WP.the (WP.dget (WP.pure a1_before) (WP.ix (WP.pure y5) (WP.neg (WP.pure (1 : Int)))))).bind fun a => WP.req (y5.length < 100000) (y5 ++ [a])).bind fun a6_way => (WP.pure (.nx a6_way))) a4_way) (fun (z5 : (List Sq)) => (WP.some' (((WP.pure z5).bind fun xs => WP.pure xs.reverse).bind fun xs => WP.pure (⟨xs⟩ : (Ls Sq)))).bind fun r7 => (WP.pure r7)) (fun r => (WP.pure r)))
def sp_voyage : Sp := fun vs H Q _ => ∃ (W : Wo) (a_chart : (List Str)) (a_size : Int) (a_a : Sq) (a_b : Sq) (v_chart v_size v_a v_b : V), vs = [v_chart, v_size, v_a, v_b] ∧ W.H = H ∧ Good ef0 W ∧ Rp W a_chart v_chart ∧ Rp W a_size v_size ∧ Rp W a_a v_a ∧ Rp W a_b v_b ∧ (m_voyage a_chart a_size a_a a_b).run W.n fun n r => ∀ v W', Gw ef0 W W' → W'.n = n → (sI (e := ef0) (α := (Option (Ls Sq)))).post W W' r v → Q v W'.H
theorem ev_voyage {e : Ef} {σ : L2.St} {W : Wo} {E : XK} {t0 t1 t2 t3 : TE} {w0 : WP (List Str)} {w1 : WP Int} {w2 : WP Sq} {w3 : WP Sq} (h0 : EvW e t0 σ W sI w0) (h1 : EvW e t1 σ W sI w1) (h2 : EvW e t2 σ W sI w2) (h3 : EvW e t3 σ W sI w3) : EvW e (tCall sp_voyage [] E (tCons t0 (tCons t1 (tCons t2 (tCons t3 tNil))))) σ W (sI (α := (Option (Ls Sq)))) (WP.b4 w0 w1 w2 w3 m_voyage) := ew_call4N h0 h1 h2 h3 fun W2 b0 b1 b2 b3 x0 x1 x2 x3 g2 r0 r1 r2 r3 Q q E => by
  exact ⟨W2, b0, b1, b2, b3, x0, x1, x2, x3, rfl, rfl, g2.z, r0, r1, r2, r3, WP.mono _ (fun n c h v W3 g3 hn p => h v W3 (Gw.up g2 g3) hn p) q⟩
theorem ok_voyage (F : At K mg "voyage" s_voyage P_voyage) (G : Glb mg) (H_free_places : Has P w K mg base "free_places" 5 P_free_places sp_free_places) (H_reached_places : Has P w K mg base "reached_places" 3 P_reached_places sp_reached_places) : Has P w K mg base "voyage" 6 P_voyage sp_voyage := by
  refine Has.of F sc_voyage (fun vs H Q E h => ?_) (fun f cdv A outer s H0 vs Q E hr h => ?_)
  · obtain ⟨W0, a_chart, a_size, a_a, a_b, v_chart, v_size, v_a, v_b, rfl, _⟩ := h
    rfl
  · obtain ⟨W0, a_chart, a_size, a_a, a_b, v_chart, v_size, v_a, v_b, rfl, rfl, g00, h_chart, h_size, h_a, h_b, hm⟩ := h
    have sc := sc_voyage
    have g0 := Gw.refl g00
    unfold m_voyage at hm
    refine ⟨_, (pss_cons (ps_set (i := 4) sc.nd rfl (Or.inl rfl) (pe_user H_reached_places (hr.mono (by decide)) rfl (pa_cons (pe_user H_free_places (hr.mono (by decide)) rfl (pa_cons (pv 0) (pa_cons (pv 1) pa_nil))) (pa_cons (pv 2) pa_nil))))
      (pss_cons (ps_if (pt_cmp (pc_dnotin (hu_of hr) (pv 3) (pv 4))) (pss_one (ps_ret pe_non)) pss_nil)
      (pss_cons (ps_set (i := 5) sc.nd rfl (Or.inl rfl) (pe_lst (pa_cons (pv 3) pa_nil)))
      (pss_cons (ps_while PassesOwn.never (pt_cmp (pc_notN (pe_dget (hu_of hr) (pv 4) (pe_ix ix_list (pv 5) (pe_un un_neg pe_int) (fun _ _ => rfl)) (fun _ _ => rfl))))
      (pss_one (ps_expr (pe_bm PySem.F.plainAttrs_list PySem.F.slot_list_append PySem.F.type_list_append mt_append (pv 5) (pa_cons (pe_dget (hu_of hr) (pv 4) (pe_ix ix_list (pv 5) (pe_un un_neg pe_int) (fun _ _ => rfl)) (fun _ _ => rfl)) pa_nil)))))
      (pss_one (ps_ret (pe_revL (pv 5)))))))), ?_⟩
    refine q_asg (W := W0) (ev_reached_places (ew_dr (ew_rd (ev_free_places (ew_var (v := v_chart) rfl h_chart) (ew_var (v := v_size) rfl h_size)))) (ew_var (v := v_a) rfl h_a)) g0.ok hm fun a1_before v_before W1 g1 ⟨fp_before, ho0_before, hf_before⟩ hm => ?_
    have hz_before : ∀ a ∈ fp_before, W0.H a = none := fun a m => g0.live a (hf_before a m).1
    have h_chart := PyI.st g1.st h_chart
    have h_size := PyI.st g1.st h_size
    have h_a := PyI.st g1.st h_a
    have h_b := PyI.st g1.st h_b
    have g0 := g0.trans g1
    have ho_before : Var (kD (Option Sq)) W0 W1 fp_before a1_before v_before := ⟨ho0_before, hz_before, fun b m => (hf_before b m).2.2⟩
    refine q_if (W := W1) (et_B (ew_dnotin (ew_var (v := v_b) rfl h_b) (ew_dr (ew_varR (v := v_before) rfl (Var.nS g00 ho_before) ho_before.own)))) g0.ok hm (fun W2 g2 hm => ?_) (fun W2 g2 hm => ?_)
    ·
      have h_chart := PyI.st g2.st h_chart
      have h_size := PyI.st g2.st h_size
      have h_a := PyI.st g2.st h_a
      have h_b := PyI.st g2.st h_b
      have ho_before := ho_before.go g00 g2
      have g0 := g0.trans g2
      refine st_ret (W := W2) (ew_nonO (α := (Ls Sq))) g0.ok hm fun r3 v_ret W3 g3 hp hm => ?_
      exact hm v_ret W3 (g0.trans g3) rfl hp
    ·
      have h_chart := PyI.st g2.st h_chart
      have h_size := PyI.st g2.st h_size
      have h_a := PyI.st g2.st h_a
      have h_b := PyI.st g2.st h_b
      have ho_before := ho_before.go g00 g2
      have g0 := g0.trans g2
      refine st_next ?_
      refine q_asg (W := W2) (ew_lst (eas_cons (ew_var (v := v_b) rfl h_b) (eas_nil (α := Sq)))) g0.ok hm fun a4_way v_way W4 g4 ⟨fp_way, ho0_way, hf_way⟩ hm => ?_
      have dj_before_way : ∀ b ∈ fp_before, b ∉ fp_way := fun b m z => (kD (Option Sq)).live ho_before.own b m (hf_way b z).1
      have hz_way : ∀ a ∈ fp_way, W0.H a = none := fun a m => g0.live a (hf_way a m).1
      have h_chart := PyI.st g4.st h_chart
      have h_size := PyI.st g4.st h_size
      have h_a := PyI.st g4.st h_a
      have h_b := PyI.st g4.st h_b
      have ho_before := ho_before.go g00 g4
      have g0 := g0.trans g4
      have ho_way : Var (kL Sq) W0 W4 fp_way a4_way v_way := ⟨ho0_way, hz_way, fun b m => (hf_way b m).2.2⟩
      first | refine norm_st (σ' := [some v_chart, some v_size, some v_a, some v_b, some v_before, some v_way]) rfl ?_ | skip
      refine q_while (W := W4) g0.ok hm (fun y σ' W' => ∃ (v_way : V) (fp_way : List Addr), σ' = [some v_chart, some v_size, some v_a, some v_b, some v_before, some v_way] ∧ Gw ef0 W0 W' ∧ St W4 W' ∧ Var (kL Sq) W0 W' fp_way y v_way ∧ Var (kD (Option Sq)) W0 W' fp_before a1_before v_before ∧ (∀ b ∈ fp_before, b ∉ fp_way)) ⟨v_way, fp_way, rfl, g0, (St.refl _), ho_way, ho_before, dj_before_way⟩ (fun y5 σi Wi5 hI => ?_) (fun z5 σi Wi5 hI hm => ?_)
      ·
        obtain ⟨v_way, fp_way, rfl, g0, sl5, ho_way, ho_before, dj_before_way⟩ := hI
        have h_chart := PyI.st sl5 h_chart
        have h_size := PyI.st sl5 h_size
        have h_a := PyI.st sl5 h_a
        have h_b := PyI.st sl5 h_b
        refine ⟨g0.ok, (et_B (ew_notN (ew_dget (ew_dr (ew_varR (v := v_before) rfl (Var.nS g00 ho_before) ho_before.own)) (ew_ixL (ew_varR (v := v_way) rfl (Var.nS g00 ho_way) ho_way.own) (ew_neg ew_int))))), fun W5 g5 => ?_⟩
        have h_chart := PyI.st g5.st h_chart
        have h_size := PyI.st g5.st h_size
        have h_a := PyI.st g5.st h_a
        have h_b := PyI.st g5.st h_b
        have ho_before := ho_before.go g00 g5
        have ho_way := ho_way.go g00 g5
        have sl5 := sl5.trans g5.st
        have g0 := g0.trans g5
        refine ⟨fun R5 nx5 hm kn5 kb5 kr5 => ?_, ⟨v_way, fp_way, rfl, g0, sl5, ho_way, ho_before, dj_before_way⟩⟩
        refine st_app (W := W5) g00 g0 rfl ho_way (ew_the (ew_dget (ew_dr (ew_varR (v := v_before) rfl (Var.nS g00 ho_before) ho_before.own)) (ew_ixL (ew_varR (v := v_way) rfl (Var.nS g00 ho_way) ho_way.own) (ew_neg ew_int)))) hm fun a6_way W6_ W6 l_way el_way g6 s g02 kk ff ho_way hm => ?_
        have h_chart := PyI.st g6.st h_chart
        have h_size := PyI.st g6.st h_size
        have h_a := PyI.st g6.st h_a
        have h_b := PyI.st g6.st h_b
        have ho_before := ho_before.go g00 g6
        have sl5 := sl5.trans g6.st
        have g0 := g0.trans g6
        have h_chart := PyI.st s h_chart
        have h_size := PyI.st s h_size
        have h_a := PyI.st s h_a
        have h_b := PyI.st s h_b
        have ho_before := ho_before.kept s kk ff dj_before_way
        have sl5 := sl5.trans s
        have g0 := g02
        exact kn5 a6_way _ W6 ⟨v_way, fp_way, rfl, g0, sl5, ho_way, ho_before, dj_before_way⟩ hm
      ·
        obtain ⟨v_way, fp_way, rfl, g0, sl5, ho_way, ho_before, dj_before_way⟩ := hI
        have h_chart := PyI.st sl5 h_chart
        have h_size := PyI.st sl5 h_size
        have h_a := PyI.st sl5 h_a
        have h_b := PyI.st sl5 h_b
        refine st_ret (W := Wi5) (ew_some' (ew_frz (ew_revL (ew_varR (v := v_way) rfl (Var.nS g00 ho_way) ho_way.own)))) g0.ok hm fun r7 v_ret W7 g7 hp hm => ?_
        exact hm v_ret W7 (g0.trans g7) rfl hp
abbrev s_blocking_paper : Stmt := top 17
abbrev N_blocking_paper : List Str := ["chart", "size", "a", "b", "before"]
abbrev P_blocking_paper : List Str := ["chart", "size", "a", "b"]
theorem sc_blocking_paper : FnScope N_blocking_paper P_blocking_paper (defScope s_blocking_paper) := ⟨rfl, rfl, rfl, by decide +kernel, rfl, by decide +kernel, by decide +kernel⟩
def m_blocking_paper (a_chart : (List Str)) (a_size : Int) (a_a : Sq) (a_b : Sq) : WP (Option (Ls Sq)) := (WP.b2 (WP.b2 (WP.pure a_chart) (WP.pure a_size) m_free_places) (WP.pure a_a) m_reached_places).bind fun a1_before => (WP.din (WP.pure a_b) (WP.pure a1_before)).bind fun b => WP.cond b ((WP.pure (none : (Option (Ls Sq)))).bind fun r3 => (WP.pure r3)) ((WP.some' ((WP.keys (WP.pure a1_before)).bind fun xs => WP.pure (⟨xs⟩ : (Ls Sq)))).bind fun r4 => (WP.pure r4))
def sp_blocking_paper : Sp := fun vs H Q _ => ∃ (W : Wo) (a_chart : (List Str)) (a_size : Int) (a_a : Sq) (a_b : Sq) (v_chart v_size v_a v_b : V), vs = [v_chart, v_size, v_a, v_b] ∧ W.H = H ∧ Good ef0 W ∧ Rp W a_chart v_chart ∧ Rp W a_size v_size ∧ Rp W a_a v_a ∧ Rp W a_b v_b ∧ (m_blocking_paper a_chart a_size a_a a_b).run W.n fun n r => ∀ v W', Gw ef0 W W' → W'.n = n → (sI (e := ef0) (α := (Option (Ls Sq)))).post W W' r v → Q v W'.H
theorem ev_blocking_paper {e : Ef} {σ : L2.St} {W : Wo} {E : XK} {t0 t1 t2 t3 : TE} {w0 : WP (List Str)} {w1 : WP Int} {w2 : WP Sq} {w3 : WP Sq} (h0 : EvW e t0 σ W sI w0) (h1 : EvW e t1 σ W sI w1) (h2 : EvW e t2 σ W sI w2) (h3 : EvW e t3 σ W sI w3) : EvW e (tCall sp_blocking_paper [] E (tCons t0 (tCons t1 (tCons t2 (tCons t3 tNil))))) σ W (sI (α := (Option (Ls Sq)))) (WP.b4 w0 w1 w2 w3 m_blocking_paper) := ew_call4N h0 h1 h2 h3 fun W2 b0 b1 b2 b3 x0 x1 x2 x3 g2 r0 r1 r2 r3 Q q E => by
  exact ⟨W2, b0, b1, b2, b3, x0, x1, x2, x3, rfl, rfl, g2.z, r0, r1, r2, r3, WP.mono _ (fun n c h v W3 g3 hn p => h v W3 (Gw.up g2 g3) hn p) q⟩
theorem ok_blocking_paper (F : At K mg "blocking_paper" s_blocking_paper P_blocking_paper) (G : Glb mg) (H_free_places : Has P w K mg base "free_places" 5 P_free_places sp_free_places) (H_reached_places : Has P w K mg base "reached_places" 3 P_reached_places sp_reached_places) : Has P w K mg base "blocking_paper" 6 P_blocking_paper sp_blocking_paper := by
  refine Has.of F sc_blocking_paper (fun vs H Q E h => ?_) (fun f cdv A outer s H0 vs Q E hr h => ?_)
  · obtain ⟨W0, a_chart, a_size, a_a, a_b, v_chart, v_size, v_a, v_b, rfl, _⟩ := h
    rfl
  · obtain ⟨W0, a_chart, a_size, a_a, a_b, v_chart, v_size, v_a, v_b, rfl, rfl, g00, h_chart, h_size, h_a, h_b, hm⟩ := h
    have sc := sc_blocking_paper
    have g0 := Gw.refl g00
    unfold m_blocking_paper at hm
    refine ⟨_, (pss_cons (ps_set (i := 4) sc.nd rfl (Or.inl rfl) (pe_user H_reached_places (hr.mono (by decide)) rfl (pa_cons (pe_user H_free_places (hr.mono (by decide)) rfl (pa_cons (pv 0) (pa_cons (pv 1) pa_nil))) (pa_cons (pv 2) pa_nil))))
      (pss_cons (ps_if (pt_cmp (pc_din (hu_of hr) (pv 3) (pv 4))) (pss_one (ps_ret pe_non)) pss_nil)
      (pss_one (ps_ret (pe_callTy (call_list_dT rfl) (by rfl) G.list (by decide +kernel) (pa_cons (pv 4) pa_nil)))))), ?_⟩
    refine q_asg (W := W0) (ev_reached_places (ew_dr (ew_rd (ev_free_places (ew_var (v := v_chart) rfl h_chart) (ew_var (v := v_size) rfl h_size)))) (ew_var (v := v_a) rfl h_a)) g0.ok hm fun a1_before v_before W1 g1 ⟨fp_before, ho0_before, hf_before⟩ hm => ?_
    have hz_before : ∀ a ∈ fp_before, W0.H a = none := fun a m => g0.live a (hf_before a m).1
    have h_chart := PyI.st g1.st h_chart
    have h_size := PyI.st g1.st h_size
    have h_a := PyI.st g1.st h_a
    have h_b := PyI.st g1.st h_b
    have g0 := g0.trans g1
    have ho_before : Var (kD (Option Sq)) W0 W1 fp_before a1_before v_before := ⟨ho0_before, hz_before, fun b m => (hf_before b m).2.2⟩
    refine q_if (W := W1) (et_B (ew_din (ew_var (v := v_b) rfl h_b) (ew_dr (ew_varR (v := v_before) rfl (Var.nS g00 ho_before) ho_before.own)))) g0.ok hm (fun W2 g2 hm => ?_) (fun W2 g2 hm => ?_)
    ·
      have h_chart := PyI.st g2.st h_chart
      have h_size := PyI.st g2.st h_size
      have h_a := PyI.st g2.st h_a
      have h_b := PyI.st g2.st h_b
      have ho_before := ho_before.go g00 g2
      have g0 := g0.trans g2
      refine st_ret (W := W2) (ew_nonO (α := (Ls Sq))) g0.ok hm fun r3 v_ret W3 g3 hp hm => ?_
      exact hm v_ret W3 (g0.trans g3) rfl hp
    ·
      have h_chart := PyI.st g2.st h_chart
      have h_size := PyI.st g2.st h_size
      have h_a := PyI.st g2.st h_a
      have h_b := PyI.st g2.st h_b
      have ho_before := ho_before.go g00 g2
      have g0 := g0.trans g2
      refine st_next ?_
      refine st_ret (W := W2) (ew_some' (ew_frz (ew_keys (ew_dr (ew_varR (v := v_before) rfl (Var.nS g00 ho_before) ho_before.own))))) g0.ok hm fun r4 v_ret W4 g4 hp hm => ?_
      exact hm v_ret W4 (g0.trans g4) rfl hp
abbrev s_swept : Stmt := top 18
abbrev N_swept : List Str := ["chart", "size", "wet", "place", "square", "dry"]
abbrev P_swept : List Str := ["chart", "size"]
theorem sc_swept : FnScope N_swept P_swept (defScope s_swept) := ⟨rfl, rfl, rfl, by decide +kernel, rfl, by decide +kernel, by decide +kernel⟩
def m_swept (a_chart : (List Str)) (a_size : Int) : WP (List Str) := (WP.pure ([] : (List (Sq × Bool)))).bind fun a1_wet => (WP.b2 (WP.pure a_chart) (WP.pure a_size) m_ship_places).bind fun xs2 => WP.after (WP.loop (γ := (List Str)) (fun c2 (y2 : (List (Sq × Bool))) => (WP.b2 (WP.pure a_size) (WP.pure c2) m_under).bind fun xs3 => WP.after (WP.loop (γ := (List Str)) (fun c3 (y3 : (List (Sq × Bool))) => (WP.b2 (WP.pure true) (WP.pure c3) fun b q => WP.req (y3.length < 100000) (putQ y3 q b)).bind fun a4_wet => (WP.pure (.nx a4_wet))) xs3 y2) (fun (z3 : (List (Sq × Bool))) => (WP.pure (.nx z3))) (fun r => (WP.pure (.rt r)))) xs2 a1_wet) (fun (z2 : (List (Sq × Bool))) => (WP.lc (WP.b1 (WP.pure a_chart) m_squares_of) (fun c1 => (WP.not (WP.din (WP.pure c1) (WP.pure z2)))) (fun c1 => (WP.pure c1))).bind fun a5_dry => (WP.b3 (WP.len (WP.pure a_chart)) (WP.lenS (WP.ix (WP.pure a_chart) (WP.pure (0 : Int)))) (WP.pure a5_dry) m_chart_from).bind fun r6 => (WP.pure r6)) (fun r => (WP.pure r))
def sp_swept : Sp := fun vs H Q _ => ∃ (W : Wo) (a_chart : (List Str)) (a_size : Int) (v_chart v_size : V), vs = [v_chart, v_size] ∧ W.H = H ∧ Good ef0 W ∧ Rp W a_chart v_chart ∧ Rp W a_size v_size ∧ (m_swept a_chart a_size).run W.n fun n r => ∀ v W', Gw ef0 W W' → W'.n = n → (sI (e := ef0) (α := (List Str))).post W W' r v → Q v W'.H
theorem ev_swept {e : Ef} {σ : L2.St} {W : Wo} {E : XK} {t0 t1 : TE} {w0 : WP (List Str)} {w1 : WP Int} (h0 : EvW e t0 σ W sI w0) (h1 : EvW e t1 σ W sI w1) : EvW e (tCall sp_swept [] E (tCons t0 (tCons t1 tNil))) σ W (sI (α := (List Str))) (WP.b2 w0 w1 m_swept) := ew_call2N h0 h1 fun W2 b0 b1 x0 x1 g2 r0 r1 Q q E => by
  exact ⟨W2, b0, b1, x0, x1, rfl, rfl, g2.z, r0, r1, WP.mono _ (fun n c h v W3 g3 hn p => h v W3 (Gw.up g2 g3) hn p) q⟩
theorem ok_swept (F : At K mg "swept" s_swept P_swept) (G : Glb mg) (H_chart_from : Has P w K mg base "chart_from" 1 P_chart_from sp_chart_from) (H_ship_places : Has P w K mg base "ship_places" 4 P_ship_places sp_ship_places) (H_squares_of : Has P w K mg base "squares_of" 1 P_squares_of sp_squares_of) (H_under : Has P w K mg base "under" 1 P_under sp_under) : Has P w K mg base "swept" 5 P_swept sp_swept := by
  refine Has.of F sc_swept (fun vs H Q E h => ?_) (fun f cdv A outer s H0 vs Q E hr h => ?_)
  · obtain ⟨W0, a_chart, a_size, v_chart, v_size, rfl, _⟩ := h
    rfl
  · obtain ⟨W0, a_chart, a_size, v_chart, v_size, rfl, rfl, g00, h_chart, h_size, hm⟩ := h
    have sc := sc_swept
    have g0 := Gw.refl g00
    unfold m_swept at hm
    refine ⟨_, (pss_cons (ps_set (i := 2) sc.nd rfl (Or.inr rfl) pe_dnewT)
      (pss_cons (ps_for PassesOwn.never rfl (pi_list (pe_user H_ship_places (hr.mono (by decide)) rfl (pa_cons (pv 0) (pa_cons (pv 1) pa_nil)))) (pg_name (i := 3) sc.nd rfl (Or.inl rfl))
      (pss_one (ps_for PassesOwn.never rfl (pi_list (pe_user H_under (hr.mono (by decide)) rfl (pa_cons (pv 1) (pa_cons (pv 3) pa_nil)))) (pg_name (i := 4) sc.nd rfl (Or.inl rfl))
      (pss_one (ps_dput (hu_of hr) (pv 2) (pv 4) pe_bl rfl)))))
      (pss_cons (ps_setLc (i := 5) (own := [("square", 4)]) (g := gName 4) rfl sc.nd rfl rfl (sw_true rfl rfl rfl (by decide +kernel)) (pi_list (pe_user H_squares_of (hr.mono (by decide)) rfl (pa_cons (pv 0) pa_nil))) (blkOk_by (N := N_swept) (sc := defScope s_swept) (by decide +kernel)) (fun _ _ _ _ _ => (pg_name (i := 4) sc.nd rfl (Or.inl rfl))) (fun _ _ _ _ _ => (pts_one (pt_cmp (pc_dnotin (hu_of hr) (pv 4) (pv 2))))) (fun _ _ _ _ _ => (pv 4)))
      (pss_one (ps_ret (pe_user H_chart_from (hr.mono (by decide)) rfl (pa_cons (pe_callB call_len_seq (by rfl) G.len PySem.boot_len (pa_cons (pv 0) pa_nil)) (pa_cons (pe_callB call_len_str (by rfl) G.len PySem.boot_len (pa_cons (pe_ix ix_tup (pv 0) pe_int (fun _ _ => rfl)) pa_nil)) (pa_cons (pv 5) pa_nil))))))))), ?_⟩
    refine q_asg (W := W0) (ew_dnew (β := Bool)) g0.ok hm fun a1_wet v_wet W1 g1 ⟨fp_wet, ho0_wet, hf_wet⟩ hm => ?_
    have hz_wet : ∀ a ∈ fp_wet, W0.H a = none := fun a m => g0.live a (hf_wet a m).1
    have h_chart := PyI.st g1.st h_chart
    have h_size := PyI.st g1.st h_size
    have g0 := g0.trans g1
    have ho_wet : Var (kD Bool) W0 W1 fp_wet a1_wet v_wet := ⟨ho0_wet, hz_wet, fun b m => (hf_wet b m).2.2⟩
    first | refine norm_st (σ' := [some v_chart, some v_size, some v_wet, none, none, none]) rfl ?_ | skip
    refine q_forN (W := W1) tk_N (ev_ship_places (ew_var (v := v_chart) rfl h_chart) (ew_var (v := v_size) rfl h_size)) g0.ok hm fun xs2 p_it2 vs_it2 W2 g2 hn_it2 hF_it2 hp_it2 hr_it2 => ?_
    have dj_it2_wet : ∀ b ∈ [p_it2], b ∉ fp_wet := fun b m z => by cases mem_one m; exact (kD Bool).live ho_wet.own _ z hn_it2
    have nS_it2 : ¬ ef0.S p_it2 := fun z => g0.ok.S _ z hn_it2
    have h_chart := PyI.st g2.st h_chart
    have h_size := PyI.st g2.st h_size
    have ho_wet := ho_wet.go g00 g2
    have g0 := g0.trans g2
    refine ⟨fun y σ' W' => ∃ (v_wet : V) (fp_wet : List Addr) (o_place : Option V) (o_square : Option V), σ' = [some v_chart, some v_size, some v_wet, o_place, o_square, none] ∧ Gw ef0 W0 W' ∧ St W2 W' ∧ Var (kD Bool) W0 W' fp_wet y v_wet ∧ W'.H p_it2 = some (.lst vs_it2) ∧ (∀ b ∈ [p_it2], b ∉ fp_wet), ⟨v_wet, fp_wet, _, _, rfl, g0, (St.refl _), ho_wet, hp_it2, dj_it2_wet⟩, fun _ _ _ hI => ?_, fun c2 y2 σi s2 Wi2 R2 nx2 ht hI hm kn2 kb2 kr2 => ?_, fun z2 σi Wi2 hI hm => ?_⟩
    · obtain ⟨v_wet, fp_wet, o_place, o_square, rfl, g0, sl2, ho_wet, hp_it2, dj_it2_wet⟩ := hI
      exact ⟨sl2, hp_it2⟩
    ·
      obtain ⟨v_wet, fp_wet, o_place, o_square, rfl, g0, sl2, ho_wet, hp_it2, dj_it2_wet⟩ := hI
      have h_chart := PyI.st sl2 h_chart
      have h_size := PyI.st sl2 h_size
      obtain ⟨v_place, rfl, h_place⟩ := ht
      refine st_forN (W := Wi2) tk_N (ev_under (ew_var (v := v_size) rfl h_size) (ew_var (v := v_place) rfl h_place)) g0.ok hm fun xs3 p_it3 vs_it3 W3 g3 hn_it3 hF_it3 hp_it3 hr_it3 => ?_
      have dj_it3_wet : ∀ b ∈ [p_it3], b ∉ fp_wet := fun b m z => by cases mem_one m; exact (kD Bool).live ho_wet.own _ z hn_it3
      have nS_it3 : ¬ ef0.S p_it3 := fun z => g0.ok.S _ z hn_it3
      have h_chart := PyI.st g3.st h_chart
      have h_size := PyI.st g3.st h_size
      have ho_wet := ho_wet.go g00 g3
      have h_place := PyI.st g3.st h_place
      have sl2 := sl2.trans g3.st
      have hp_it2 := g3.keep _ _ hp_it2 nS_it2
      have g0 := g0.trans g3
      refine ⟨fun y σ' W' => ∃ (v_wet : V) (fp_wet : List Addr) (o_square : Option V), σ' = [some v_chart, some v_size, some v_wet, some v_place, o_square, none] ∧ Gw ef0 W0 W' ∧ St W3 W' ∧ Var (kD Bool) W0 W' fp_wet y v_wet ∧ W'.H p_it2 = some (.lst vs_it2) ∧ W'.H p_it3 = some (.lst vs_it3) ∧ (∀ b ∈ [p_it2], b ∉ fp_wet) ∧ (∀ b ∈ [p_it3], b ∉ fp_wet), ⟨v_wet, fp_wet, _, rfl, g0, (St.refl _), ho_wet, hp_it2, hp_it3, dj_it2_wet, dj_it3_wet⟩, fun _ _ _ hI => ?_, fun c3 y3 σi s2 Wi3 R3 nx3 ht hI hm kn3 kb3 kr3 => ?_, fun z3 σi Wi3 hI hm => ?_⟩
      · obtain ⟨v_wet, fp_wet, o_square, rfl, g0, sl3, ho_wet, hp_it2, hp_it3, dj_it2_wet, dj_it3_wet⟩ := hI
        exact ⟨sl3, hp_it3⟩
      ·
        obtain ⟨v_wet, fp_wet, o_square, rfl, g0, sl3, ho_wet, hp_it2, hp_it3, dj_it2_wet, dj_it3_wet⟩ := hI
        have h_chart := PyI.st sl3 h_chart
        have h_size := PyI.st sl3 h_size
        have h_place := PyI.st sl3 h_place
        have sl2 := sl2.trans sl3
        obtain ⟨v_square, rfl, h_square⟩ := ht
        refine st_dput (W := Wi3) g00 g0 rfl ho_wet ew_bl (ew_var (v := v_square) rfl h_square) hm fun a4_wet W4_ W4 l_wet el_wet g4 s g02 kk ff ho_wet hm => ?_
        have h_chart := PyI.st g4.st h_chart
        have h_size := PyI.st g4.st h_size
        have h_place := PyI.st g4.st h_place
        have h_square := PyI.st g4.st h_square
        have sl2 := sl2.trans g4.st
        have sl3 := sl3.trans g4.st
        have hp_it2 := g4.keep _ _ hp_it2 nS_it2
        have hp_it3 := g4.keep _ _ hp_it3 nS_it3
        have g0 := g0.trans g4
        have h_chart := PyI.st s h_chart
        have h_size := PyI.st s h_size
        have h_place := PyI.st s h_place
        have h_square := PyI.st s h_square
        have sl2 := sl2.trans s
        have sl3 := sl3.trans s
        have hp_it2 := kk [p_it2] _ Kp.refl dj_it2_wet _ (List.mem_singleton.mpr rfl) _ hp_it2
        have hp_it3 := kk [p_it3] _ Kp.refl dj_it3_wet _ (List.mem_singleton.mpr rfl) _ hp_it3
        have g0 := g02
        exact kn3 a4_wet _ W4 ⟨v_wet, fp_wet, _, rfl, g0, sl3, ho_wet, hp_it2, hp_it3, dj_it2_wet, dj_it3_wet⟩ hm
      ·
        obtain ⟨v_wet, fp_wet, o_square, rfl, g0, sl3, ho_wet, hp_it2, hp_it3, dj_it2_wet, dj_it3_wet⟩ := hI
        have h_chart := PyI.st sl3 h_chart
        have h_size := PyI.st sl3 h_size
        have h_place := PyI.st sl3 h_place
        have sl2 := sl2.trans sl3
        exact kn2 z3 _ Wi3 ⟨v_wet, fp_wet, _, _, rfl, g0, sl2, ho_wet, hp_it2, dj_it2_wet⟩ hm
    ·
      obtain ⟨v_wet, fp_wet, o_place, o_square, rfl, g0, sl2, ho_wet, hp_it2, dj_it2_wet⟩ := hI
      have h_chart := PyI.st sl2 h_chart
      have h_size := PyI.st sl2 h_size
      refine q_asg (W := Wi2) (ew_lcL (ew_rd (ev_squares_of (ew_var (v := v_chart) rfl h_chart))) takes_N (fun _ _ _ h => by obtain ⟨v_square, ec, h_square⟩ := h; subst ec; rfl) (fun c1 Wc1 s2 gc1 h => by obtain ⟨v_square, ec, h_square⟩ := h; subst ec; have h_chart := PyI.st gc1.st h_chart; have ho_wet := ho_wet.go g00 gc1; exact (et_B (ew_dnotin (ew_var (v := v_square) rfl h_square) (ew_dr (ew_varR (v := v_wet) rfl (Var.nS g00 ho_wet) ho_wet.own))))) (fun c1 Wc1 s2 gc1 h => by obtain ⟨v_square, ec, h_square⟩ := h; subst ec; have h_chart := PyI.st gc1.st h_chart; have ho_wet := ho_wet.go g00 gc1; exact (ew_var (v := v_square) rfl h_square))) g0.ok hm fun a5_dry v_dry W5 g5 ⟨fp_dry, ho0_dry, hf_dry⟩ hm => ?_
      have dj_wet_dry : ∀ b ∈ fp_wet, b ∉ fp_dry := fun b m z => (kD Bool).live ho_wet.own b m (hf_dry b z).1
      have hz_dry : ∀ a ∈ fp_dry, W0.H a = none := fun a m => g0.live a (hf_dry a m).1
      have h_chart := PyI.st g5.st h_chart
      have h_size := PyI.st g5.st h_size
      have ho_wet := ho_wet.go g00 g5
      have g0 := g0.trans g5
      have ho_dry : Var (kL Sq) W0 W5 fp_dry a5_dry v_dry := ⟨ho0_dry, hz_dry, fun b m => (hf_dry b m).2.2⟩
      first | refine norm_st (σ' := [some v_chart, some v_size, some v_wet, o_place, o_square, some v_dry]) rfl ?_ | skip
      refine st_ret (W := W5) (ev_chart_from (ew_lenT (ew_var (v := v_chart) rfl h_chart)) (ew_lenS (ew_ixT (ew_var (v := v_chart) rfl h_chart) ew_int)) (ew_varR (v := v_dry) rfl (Var.nS g00 ho_dry) ho_dry.own)) g0.ok hm fun r6 v_ret W6 g6 hp hm => ?_
      exact hm v_ret W6 (g0.trans g6) rfl hp
abbrev s_sizes_of : Stmt := top 20
abbrev N_sizes_of : List Str := ["chart", "sizes", "row", "column", "size", "beside", "other"]
abbrev P_sizes_of : List Str := ["chart"]
theorem sc_sizes_of : FnScope N_sizes_of P_sizes_of (defScope s_sizes_of) := ⟨rfl, rfl, rfl, by decide +kernel, rfl, by decide +kernel, by decide +kernel⟩
def m_sizes_of (a_chart : (List Str)) : WP (List (Sq × Int)) := (WP.pure ([] : (List (Sq × Int)))).bind fun a1_sizes => (((WP.b1 (WP.pure a_chart) m_squares_of).bind fun xs => WP.pure (⟨xs⟩ : (Ls Sq))).bind fun x => WP.pure x.l.reverse).bind fun xs2 => WP.after (WP.loop (γ := (List (Sq × Int))) (fun c2 (y2 : (List (Sq × Int))) => (WP.pure (0 : Int)).bind fun a3_size => ((WP.b2 (WP.pure a_chart) (WP.pair (WP.pure c2.1) (WP.pure c2.2)) m_is_land).bind fun b => WP.cond b ((WP.row (WP.consE (WP.pair (WP.add (WP.pure c2.1) (WP.pure (1 : Int))) (WP.pure c2.2)) (WP.consE (WP.pair (WP.pure c2.1) (WP.add (WP.pure c2.2) (WP.pure (1 : Int)))) (WP.consE (WP.pair (WP.add (WP.pure c2.1) (WP.pure (1 : Int))) (WP.add (WP.pure c2.2) (WP.pure (1 : Int)))) (WP.pure ([] : List Sq)))))).bind fun a6_beside => (WP.add (WP.pure (1 : Int)) (WP.minL (WP.lc (WP.pure a6_beside) (fun c1 => (WP.pure true)) (fun c1 => (WP.look2 (WP.pure y2) (WP.pure c1) (WP.pure (0 : Int))))))).bind fun a7_size => (WP.pure a7_size)) ((WP.pure a3_size))).bind fun (y4 : Int) => (WP.b2 (WP.pure y4) (WP.pair (WP.pure c2.1) (WP.pure c2.2)) fun b q => WP.req (y2.length < 100000) (putQ y2 q b)).bind fun a5_sizes => (WP.pure (.nx a5_sizes))) xs2 a1_sizes) (fun (z2 : (List (Sq × Int))) => (WP.pure z2)) (fun r => (WP.pure r))
def sp_sizes_of : Sp := fun vs H Q _ => ∃ (W : Wo) (a_chart : (List Str)) (v_chart : V), vs = [v_chart] ∧ W.H = H ∧ Good ef0 W ∧ Rp W a_chart v_chart ∧ (m_sizes_of a_chart).run W.n fun n r => ∀ v W', Gw ef0 W W' → W'.n = n → (sN (e := ef0) (kD Int)).post W W' r v → Q v W'.H
theorem ev_sizes_of {e : Ef} {σ : L2.St} {W : Wo} {E : XK} {t0 : TE} {w0 : WP (List Str)} (h0 : EvW e t0 σ W sI w0) : EvW e (tCall sp_sizes_of [] E (tCons t0 tNil)) σ W (sN (kD Int)) (WP.b1 w0 m_sizes_of) := ew_call1N h0 fun W2 b0 x0 g2 r0 Q q E => by
  exact ⟨W2, b0, x0, rfl, rfl, g2.z, r0, WP.mono _ (fun n c h v W3 g3 hn p => h v W3 (Gw.up g2 g3) hn (sN_up g2 p)) q⟩
theorem ok_sizes_of (F : At K mg "sizes_of" s_sizes_of P_sizes_of) (G : Glb mg) (H_is_land : Has P w K mg base "is_land" 2 P_is_land sp_is_land) (H_squares_of : Has P w K mg base "squares_of" 1 P_squares_of sp_squares_of) : Has P w K mg base "sizes_of" 3 P_sizes_of sp_sizes_of := by
  refine Has.of F sc_sizes_of (fun vs H Q E h => ?_) (fun f cdv A outer s H0 vs Q E hr h => ?_)
  · obtain ⟨W0, a_chart, v_chart, rfl, _⟩ := h
    rfl
  · obtain ⟨W0, a_chart, v_chart, rfl, rfl, g00, h_chart, hm⟩ := h
    have sc := sc_sizes_of
    have g0 := Gw.refl g00
    unfold m_sizes_of at hm
    refine ⟨_, (pss_cons (ps_set (i := 1) sc.nd rfl (Or.inr rfl) pe_dnewT)
      (pss_cons (ps_for PassesOwn.never rfl (pi_rev rfl G.reversed (pe_user H_squares_of (hr.mono (by decide)) rfl (pa_cons (pv 0) pa_nil))) (pg_tup rfl (pgs_cons (pg_name (i := 2) sc.nd rfl (Or.inl rfl)) (pgs_cons (pg_name (i := 3) sc.nd rfl (Or.inl rfl)) pgs_nil)))
      (pss_cons (ps_set (i := 4) sc.nd rfl (Or.inl rfl) pe_int)
      (pss_cons (ps_if (pt_val (pe_user H_is_land (hr.mono (by decide)) rfl (pa_cons (pv 0) (pa_cons (pe_tup (pa_cons (pv 2) (pa_cons (pv 3) pa_nil))) pa_nil)))) (pss_cons (ps_set (i := 5) sc.nd rfl (Or.inl rfl) (pe_lst (pa_cons (pe_tup (pa_cons (pe_op op_add (pv 2) pe_int) (pa_cons (pv 3) pa_nil))) (pa_cons (pe_tup (pa_cons (pv 2) (pa_cons (pe_op op_add (pv 3) pe_int) pa_nil))) (pa_cons (pe_tup (pa_cons (pe_op op_add (pv 2) pe_int) (pa_cons (pe_op op_add (pv 3) pe_int) pa_nil))) pa_nil)))))
      (pss_one (ps_set (i := 4) sc.nd rfl (Or.inl rfl) (pe_op op_add pe_int (pe_callB (cr_min rfl) (by rfl) G.min (by decide +kernel) (pa_cons (pe_lc (own := [("other", 6)]) (g := gName 6) (tt := tYes) rfl sc.nd (pi_list (pv 5)) (blkOk_by (N := N_sizes_of) (sc := defScope s_sizes_of) (by decide +kernel)) (fun _ _ _ _ _ => (pg_name (i := 6) sc.nd rfl (Or.inl rfl))) (fun _ _ _ _ _ => pts_nil) (fun _ _ _ _ _ => (pe_dget2 (hu_of hr) (pv 1) (pv 6) pe_int ⟨rfl, rfl, rfl, rfl⟩))) pa_nil)))))) pss_nil)
      (pss_one (ps_dput (hu_of hr) (pv 1) (pe_tup (pa_cons (pv 2) (pa_cons (pv 3) pa_nil))) (pv 4) rfl)))))
      (pss_one (ps_ret (pv 1))))), ?_⟩
    refine q_asg (W := W0) (ew_dnew (β := Int)) g0.ok hm fun a1_sizes v_sizes W1 g1 ⟨fp_sizes, ho0_sizes, hf_sizes⟩ hm => ?_
    have hz_sizes : ∀ a ∈ fp_sizes, W0.H a = none := fun a m => g0.live a (hf_sizes a m).1
    have h_chart := PyI.st g1.st h_chart
    have g0 := g0.trans g1
    have ho_sizes : Var (kD Int) W0 W1 fp_sizes a1_sizes v_sizes := ⟨ho0_sizes, hz_sizes, fun b m => (hf_sizes b m).2.2⟩
    refine q_for0 (W := W1) tk_P (src_Rev (ew_frz (ev_squares_of (ew_var (v := v_chart) rfl h_chart)))) g0.ok hm fun xs2 W2 g2 => ?_
    have h_chart := PyI.st g2.st h_chart
    have ho_sizes := ho_sizes.go g00 g2
    have g0 := g0.trans g2
    refine ⟨fun y σ' W' => ∃ (v_sizes : V) (fp_sizes : List Addr) (o_row : Option V) (o_column : Option V) (o_size : Option V) (o_beside : Option V), σ' = [some v_chart, some v_sizes, o_row, o_column, o_size, o_beside, none] ∧ Gw ef0 W0 W' ∧ St W2 W' ∧ Var (kD Int) W0 W' fp_sizes y v_sizes, ⟨v_sizes, fp_sizes, _, _, _, _, rfl, g0, (St.refl _), ho_sizes⟩, fun _ _ _ hI => ?_, fun c2 y2 σi s2 Wi2 R2 nx2 ht hI hm kn2 kb2 kr2 => ?_, fun z2 σi Wi2 hI hm => ?_⟩
    · obtain ⟨v_sizes, fp_sizes, o_row, o_column, o_size, o_beside, rfl, g0, sl2, ho_sizes⟩ := hI
      exact sl2
    ·
      obtain ⟨v_sizes, fp_sizes, o_row, o_column, o_size, o_beside, rfl, g0, sl2, ho_sizes⟩ := hI
      have h_chart := PyI.st sl2 h_chart
      obtain ⟨v_row, v_column, rfl, h_row, h_column⟩ := ht
      refine q_asg (W := Wi2) ew_int g0.ok hm fun a3_size v_size W3 g3 h_size hm => ?_
      have h_chart := PyI.st g3.st h_chart
      have ho_sizes := ho_sizes.go g00 g3
      have h_row := PyI.st g3.st h_row
      have h_column := PyI.st g3.st h_column
      have sl2 := sl2.trans g3.st
      have g0 := g0.trans g3
      first | refine norm_st (σ' := [some v_chart, some v_sizes, some v_row, some v_column, some v_size, o_beside, none]) rfl ?_ | skip
      refine q_join (W := W3) (s := Int) (fun y σ' W' => ∃ (v_size : V) (o_beside : Option V), σ' = [some v_chart, some v_sizes, some v_row, some v_column, some v_size, o_beside, none] ∧ Gw ef0 W0 W' ∧ St W3 W' ∧ Rp W' y v_size ∧ Var (kD Int) W0 W' fp_sizes y2 v_sizes) (et_B (ev_is_land (ew_var (v := v_chart) rfl h_chart) (ew_pair (ew_var (v := v_row) rfl h_row) (ew_var (v := v_column) rfl h_column)))) g0.ok hm (fun y4 σj Wj4 hI hm => ?_) (fun W4 R4 g4 hm kj => ?_) (fun W4 R4 g4 hm kj => ?_)
      ·
        obtain ⟨v_size, o_beside, rfl, g0, sj4, h_size, ho_sizes⟩ := hI
        have h_chart := PyI.st sj4 h_chart
        have h_row := PyI.st sj4 h_row
        have h_column := PyI.st sj4 h_column
        have sl2 := sl2.trans sj4
        refine st_dput (W := Wj4) g00 g0 rfl ho_sizes (ew_var (v := v_size) rfl h_size) (ew_pair (ew_var (v := v_row) rfl h_row) (ew_var (v := v_column) rfl h_column)) hm fun a5_sizes W5_ W5 l_sizes el_sizes g5 s g02 kk ff ho_sizes hm => ?_
        have h_chart := PyI.st g5.st h_chart
        have h_row := PyI.st g5.st h_row
        have h_column := PyI.st g5.st h_column
        have h_size := PyI.st g5.st h_size
        have sl2 := sl2.trans g5.st
        have g0 := g0.trans g5
        have h_chart := PyI.st s h_chart
        have h_row := PyI.st s h_row
        have h_column := PyI.st s h_column
        have h_size := PyI.st s h_size
        have sl2 := sl2.trans s
        have g0 := g02
        exact kn2 a5_sizes _ W5 ⟨v_sizes, fp_sizes, _, _, _, _, rfl, g0, sl2, ho_sizes⟩ hm
      ·
        have h_chart := PyI.st g4.st h_chart
        have ho_sizes := ho_sizes.go g00 g4
        have h_row := PyI.st g4.st h_row
        have h_column := PyI.st g4.st h_column
        have h_size := PyI.st g4.st h_size
        have sl2 := sl2.trans g4.st
        have g0 := g0.trans g4
        have sj4 := g4.st
        refine q_asg (W := W4) (ew_lst (eas_cons (ew_pair (ew_add (ew_var (v := v_row) rfl h_row) ew_int) (ew_var (v := v_column) rfl h_column)) (eas_cons (ew_pair (ew_var (v := v_row) rfl h_row) (ew_add (ew_var (v := v_column) rfl h_column) ew_int)) (eas_cons (ew_pair (ew_add (ew_var (v := v_row) rfl h_row) ew_int) (ew_add (ew_var (v := v_column) rfl h_column) ew_int)) (eas_nil (α := Sq)))))) g0.ok hm fun a6_beside v_beside W6 g6 ⟨fp_beside, ho0_beside, hf_beside⟩ hm => ?_
        have dj_sizes_beside : ∀ b ∈ fp_sizes, b ∉ fp_beside := fun b m z => (kD Int).live ho_sizes.own b m (hf_beside b z).1
        have hz_beside : ∀ a ∈ fp_beside, W0.H a = none := fun a m => g0.live a (hf_beside a m).1
        have h_chart := PyI.st g6.st h_chart
        have ho_sizes := ho_sizes.go g00 g6
        have h_row := PyI.st g6.st h_row
        have h_column := PyI.st g6.st h_column
        have h_size := PyI.st g6.st h_size
        have sl2 := sl2.trans g6.st
        have sj4 := sj4.trans g6.st
        have g0 := g0.trans g6
        have ho_beside : Var (kL Sq) W0 W6 fp_beside a6_beside v_beside := ⟨ho0_beside, hz_beside, fun b m => (hf_beside b m).2.2⟩
        first | refine norm_st (σ' := [some v_chart, some v_sizes, some v_row, some v_column, some v_size, some v_beside, none]) rfl ?_ | skip
        refine st_asg (W := W6) (ew_add ew_int (ew_minL (ew_rd (ew_lcL (ew_varR (v := v_beside) rfl (Var.nS g00 ho_beside) ho_beside.own) takes_N (fun _ _ _ h => by obtain ⟨v_other, ec, h_other⟩ := h; subst ec; rfl) (fun c1 Wc1 s2 gc1 h => by obtain ⟨v_other, ec, h_other⟩ := h; subst ec; have ho_sizes := ho_sizes.go g00 gc1; have ho_beside := ho_beside.go g00 gc1; exact et_yes) (fun c1 Wc1 s2 gc1 h => by obtain ⟨v_other, ec, h_other⟩ := h; subst ec; have ho_sizes := ho_sizes.go g00 gc1; have ho_beside := ho_beside.go g00 gc1; exact (ew_look2 (ew_dr (ew_varR (v := v_sizes) rfl (Var.nS g00 ho_sizes) ho_sizes.own)) (ew_var (v := v_other) rfl h_other) ew_int)))))) g0.ok hm fun a7_size v_size W7 g7 h_size hm => ?_
        have h_chart := PyI.st g7.st h_chart
        have ho_sizes := ho_sizes.go g00 g7
        have h_row := PyI.st g7.st h_row
        have h_column := PyI.st g7.st h_column
        have ho_beside := ho_beside.go g00 g7
        have sl2 := sl2.trans g7.st
        have sj4 := sj4.trans g7.st
        have g0 := g0.trans g7
        exact kj a7_size _ W7 ⟨v_size, _, rfl, g0, sj4, h_size, ho_sizes⟩ hm
      ·
        have h_chart := PyI.st g4.st h_chart
        have ho_sizes := ho_sizes.go g00 g4
        have h_row := PyI.st g4.st h_row
        have h_column := PyI.st g4.st h_column
        have h_size := PyI.st g4.st h_size
        have sl2 := sl2.trans g4.st
        have g0 := g0.trans g4
        have sj4 := g4.st
        refine st_next ?_
        exact kj a3_size _ W4 ⟨v_size, _, rfl, g0, sj4, h_size, ho_sizes⟩ hm
    ·
      obtain ⟨v_sizes, fp_sizes, o_row, o_column, o_size, o_beside, rfl, g0, sl2, ho_sizes⟩ := hI
      have h_chart := PyI.st sl2 h_chart
      exact ⟨_, rfl, hm _ Wi2 g0 rfl ⟨fp_sizes, ho_sizes.own, fun b m => ⟨ho_sizes.fr b m, Var.nS g00 ho_sizes b m, ho_sizes.nF b m⟩⟩⟩
abbrev s_largest_square : Stmt := top 21
abbrev N_largest_square : List Str := ["chart"]
abbrev P_largest_square : List Str := ["chart"]
theorem sc_largest_square : FnScope N_largest_square P_largest_square (defScope s_largest_square) := ⟨rfl, rfl, rfl, by decide +kernel, rfl, by decide +kernel, by decide +kernel⟩
def m_largest_square (a_chart : (List Str)) : WP Int := (WP.maxL (WP.vals (WP.b1 (WP.pure a_chart) m_sizes_of))).bind fun r1 => (WP.pure r1)
def sp_largest_square : Sp := fun vs H Q _ => ∃ (W : Wo) (a_chart : (List Str)) (v_chart : V), vs = [v_chart] ∧ W.H = H ∧ Good ef0 W ∧ Rp W a_chart v_chart ∧ (m_largest_square a_chart).run W.n fun n r => ∀ v W', Gw ef0 W W' → W'.n = n → (sI (e := ef0) (α := Int)).post W W' r v → Q v W'.H
theorem ev_largest_square {e : Ef} {σ : L2.St} {W : Wo} {E : XK} {t0 : TE} {w0 : WP (List Str)} (h0 : EvW e t0 σ W sI w0) : EvW e (tCall sp_largest_square [] E (tCons t0 tNil)) σ W (sI (α := Int)) (WP.b1 w0 m_largest_square) := ew_call1N h0 fun W2 b0 x0 g2 r0 Q q E => by
  exact ⟨W2, b0, x0, rfl, rfl, g2.z, r0, WP.mono _ (fun n c h v W3 g3 hn p => h v W3 (Gw.up g2 g3) hn p) q⟩
theorem ok_largest_square (F : At K mg "largest_square" s_largest_square P_largest_square) (G : Glb mg) (H_sizes_of : Has P w K mg base "sizes_of" 3 P_sizes_of sp_sizes_of) : Has P w K mg base "largest_square" 4 P_largest_square sp_largest_square := by
  refine Has.of F sc_largest_square (fun vs H Q E h => ?_) (fun f cdv A outer s H0 vs Q E hr h => ?_)
  · obtain ⟨W0, a_chart, v_chart, rfl, _⟩ := h
    rfl
  · obtain ⟨W0, a_chart, v_chart, rfl, rfl, g00, h_chart, hm⟩ := h
    have sc := sc_largest_square
    have g0 := Gw.refl g00
    unfold m_largest_square at hm
    refine ⟨_, (pss_one (ps_ret (pe_maxVals rfl rfl G.max (pe_user H_sizes_of (hr.mono (by decide)) rfl (pa_cons (pv 0) pa_nil))))), ?_⟩
    refine st_ret (W := W0) (ew_maxVals (ew_dr (ew_rd (ev_sizes_of (ew_var (v := v_chart) rfl h_chart))))) g0.ok hm fun r1 v_ret W1 g1 hp hm => ?_
    exact hm v_ret W1 (g0.trans g1) rfl hp
abbrev s_largest_places : Stmt := top 22
abbrev N_largest_places : List Str := ["chart", "sizes", "most", "square"]
abbrev P_largest_places : List Str := ["chart"]
theorem sc_largest_places : FnScope N_largest_places P_largest_places (defScope s_largest_places) := ⟨rfl, rfl, rfl, by decide +kernel, rfl, by decide +kernel, by decide +kernel⟩
def m_largest_places (a_chart : (List Str)) : WP (List Sq) := (WP.b1 (WP.pure a_chart) m_sizes_of).bind fun a1_sizes => (WP.maxL (WP.vals (WP.pure a1_sizes))).bind fun a2_most => (WP.eq (WP.pure a2_most) (WP.pure (0 : Int))).bind fun b => WP.cond b ((WP.row (WP.pure ([] : List Sq))).bind fun r4 => (WP.pure r4)) ((WP.lc (WP.b1 (WP.pure a_chart) m_squares_of) (fun c1 => (WP.eq (WP.dget (WP.pure a1_sizes) (WP.pure c1)) (WP.pure a2_most))) (fun c1 => (WP.pure c1))).bind fun r5 => (WP.pure r5))
def sp_largest_places : Sp := fun vs H Q _ => ∃ (W : Wo) (a_chart : (List Str)) (v_chart : V), vs = [v_chart] ∧ W.H = H ∧ Good ef0 W ∧ Rp W a_chart v_chart ∧ (m_largest_places a_chart).run W.n fun n r => ∀ v W', Gw ef0 W W' → W'.n = n → (sN (e := ef0) (kL Sq)).post W W' r v → Q v W'.H
theorem ev_largest_places {e : Ef} {σ : L2.St} {W : Wo} {E : XK} {t0 : TE} {w0 : WP (List Str)} (h0 : EvW e t0 σ W sI w0) : EvW e (tCall sp_largest_places [] E (tCons t0 tNil)) σ W (sN (kL Sq)) (WP.b1 w0 m_largest_places) := ew_call1N h0 fun W2 b0 x0 g2 r0 Q q E => by
  exact ⟨W2, b0, x0, rfl, rfl, g2.z, r0, WP.mono _ (fun n c h v W3 g3 hn p => h v W3 (Gw.up g2 g3) hn (sN_up g2 p)) q⟩
theorem ok_largest_places (F : At K mg "largest_places" s_largest_places P_largest_places) (G : Glb mg) (H_sizes_of : Has P w K mg base "sizes_of" 3 P_sizes_of sp_sizes_of) (H_squares_of : Has P w K mg base "squares_of" 1 P_squares_of sp_squares_of) : Has P w K mg base "largest_places" 4 P_largest_places sp_largest_places := by
  refine Has.of F sc_largest_places (fun vs H Q E h => ?_) (fun f cdv A outer s H0 vs Q E hr h => ?_)
  · obtain ⟨W0, a_chart, v_chart, rfl, _⟩ := h
    rfl
  · obtain ⟨W0, a_chart, v_chart, rfl, rfl, g00, h_chart, hm⟩ := h
    have sc := sc_largest_places
    have g0 := Gw.refl g00
    unfold m_largest_places at hm
    refine ⟨_, (pss_cons (ps_set (i := 1) sc.nd rfl (Or.inr rfl) (pe_user H_sizes_of (hr.mono (by decide)) rfl (pa_cons (pv 0) pa_nil)))
      (pss_cons (ps_set (i := 2) sc.nd rfl (Or.inr rfl) (pe_maxVals rfl rfl G.max (pv 1)))
      (pss_cons (ps_if (pt_cmpR op_eq (pv 2) pe_int (nomark _)) (pss_one (ps_ret (pe_lst pa_nil))) pss_nil)
      (pss_one (ps_ret (pe_lc (own := [("square", 3)]) (g := gName 3) rfl sc.nd (pi_list (pe_user H_squares_of (hr.mono (by decide)) rfl (pa_cons (pv 0) pa_nil))) (blkOk_by (N := N_largest_places) (sc := defScope s_largest_places) (by decide +kernel)) (fun _ _ _ _ _ => (pg_name (i := 3) sc.nd rfl (Or.inl rfl))) (fun _ _ _ _ _ => (pts_one (pt_cmpR op_eq (pe_dget (hu_of hr) (pv 1) (pv 3) (fun _ _ => rfl)) (pv 2) (nomark _)))) (fun _ _ _ _ _ => (pv 3)))))))), ?_⟩
    refine q_asg (W := W0) (ev_sizes_of (ew_var (v := v_chart) rfl h_chart)) g0.ok hm fun a1_sizes v_sizes W1 g1 ⟨fp_sizes, ho0_sizes, hf_sizes⟩ hm => ?_
    have hz_sizes : ∀ a ∈ fp_sizes, W0.H a = none := fun a m => g0.live a (hf_sizes a m).1
    have h_chart := PyI.st g1.st h_chart
    have g0 := g0.trans g1
    have ho_sizes : Var (kD Int) W0 W1 fp_sizes a1_sizes v_sizes := ⟨ho0_sizes, hz_sizes, fun b m => (hf_sizes b m).2.2⟩
    first | refine norm_st (σ' := [some v_chart, some v_sizes, none, none]) rfl ?_ | skip
    refine q_asg (W := W1) (ew_maxVals (ew_dr (ew_varR (v := v_sizes) rfl (Var.nS g00 ho_sizes) ho_sizes.own))) g0.ok hm fun a2_most v_most W2 g2 h_most hm => ?_
    have h_chart := PyI.st g2.st h_chart
    have ho_sizes := ho_sizes.go g00 g2
    have g0 := g0.trans g2
    refine q_if (W := W2) (et_t (ew_eq (ew_var (v := v_most) rfl h_most) ew_int)) g0.ok hm (fun W3 g3 hm => ?_) (fun W3 g3 hm => ?_)
    ·
      have h_chart := PyI.st g3.st h_chart
      have ho_sizes := ho_sizes.go g00 g3
      have h_most := PyI.st g3.st h_most
      have g0 := g0.trans g3
      first | refine st_ret (W := W3) (ew_lst (eas_nil (α := Sq))) g0.ok hm fun r4 v_ret W4 g4 hp hm => ?_ | refine st_ret (σ := []) (ew_lst (eas_nil (α := Sq))) g0.ok hm fun r4 v_ret W4 g4 hp hm => ?_
      exact hm v_ret W4 (g0.trans g4) rfl ((sN (kL Sq)).back g0 hp)
    ·
      have h_chart := PyI.st g3.st h_chart
      have ho_sizes := ho_sizes.go g00 g3
      have h_most := PyI.st g3.st h_most
      have g0 := g0.trans g3
      refine st_next ?_
      refine st_ret (W := W3) (ew_lcL (ew_rd (ev_squares_of (ew_var (v := v_chart) rfl h_chart))) takes_N (fun _ _ _ h => by obtain ⟨v_square, ec, h_square⟩ := h; subst ec; rfl) (fun c1 Wc1 s2 gc1 h => by obtain ⟨v_square, ec, h_square⟩ := h; subst ec; have h_chart := PyI.st gc1.st h_chart; have ho_sizes := ho_sizes.go g00 gc1; have h_most := PyI.st gc1.st h_most; exact (et_t (ew_eq (ew_dget (ew_dr (ew_varR (v := v_sizes) rfl (Var.nS g00 ho_sizes) ho_sizes.own)) (ew_var (v := v_square) rfl h_square)) (ew_var (v := v_most) rfl h_most)))) (fun c1 Wc1 s2 gc1 h => by obtain ⟨v_square, ec, h_square⟩ := h; subst ec; have h_chart := PyI.st gc1.st h_chart; have ho_sizes := ho_sizes.go g00 gc1; have h_most := PyI.st gc1.st h_most; exact (ew_var (v := v_square) rfl h_square))) g0.ok hm fun r5 v_ret W5 g5 hp hm => ?_
      exact hm v_ret W5 (g0.trans g5) rfl ((sN (kL Sq)).back g0 hp)
abbrev s_size_of : Stmt := top 24
abbrev N_size_of : List Str := ["chart"]
abbrev P_size_of : List Str := ["chart"]
theorem sc_size_of : FnScope N_size_of P_size_of (defScope s_size_of) := ⟨rfl, rfl, rfl, by decide +kernel, rfl, by decide +kernel, by decide +kernel⟩
def m_size_of (a_chart : (List Str)) : WP Sq := (WP.pair (WP.len (WP.pure a_chart)) (WP.lenS (WP.ix (WP.pure a_chart) (WP.pure (0 : Int))))).bind fun r1 => (WP.pure r1)
def sp_size_of : Sp := fun vs H Q _ => ∃ (W : Wo) (a_chart : (List Str)) (v_chart : V), vs = [v_chart] ∧ W.H = H ∧ Good ef0 W ∧ Rp W a_chart v_chart ∧ (m_size_of a_chart).run W.n fun n r => ∀ v W', Gw ef0 W W' → W'.n = n → (sI (e := ef0) (α := Sq)).post W W' r v → Q v W'.H
theorem ev_size_of {e : Ef} {σ : L2.St} {W : Wo} {E : XK} {t0 : TE} {w0 : WP (List Str)} (h0 : EvW e t0 σ W sI w0) : EvW e (tCall sp_size_of [] E (tCons t0 tNil)) σ W (sI (α := Sq)) (WP.b1 w0 m_size_of) := ew_call1N h0 fun W2 b0 x0 g2 r0 Q q E => by
  exact ⟨W2, b0, x0, rfl, rfl, g2.z, r0, WP.mono _ (fun n c h v W3 g3 hn p => h v W3 (Gw.up g2 g3) hn p) q⟩
theorem ok_size_of (F : At K mg "size_of" s_size_of P_size_of) (G : Glb mg)  : Has P w K mg base "size_of" 1 P_size_of sp_size_of := by
  refine Has.of F sc_size_of (fun vs H Q E h => ?_) (fun f cdv A outer s H0 vs Q E hr h => ?_)
  · obtain ⟨W0, a_chart, v_chart, rfl, _⟩ := h
    rfl
  · obtain ⟨W0, a_chart, v_chart, rfl, rfl, g00, h_chart, hm⟩ := h
    have sc := sc_size_of
    have g0 := Gw.refl g00
    unfold m_size_of at hm
    refine ⟨_, (pss_one (ps_ret (pe_tup (pa_cons (pe_callB call_len_seq (by rfl) G.len PySem.boot_len (pa_cons (pv 0) pa_nil)) (pa_cons (pe_callB call_len_str (by rfl) G.len PySem.boot_len (pa_cons (pe_ix ix_tup (pv 0) pe_int (fun _ _ => rfl)) pa_nil)) pa_nil))))), ?_⟩
    refine st_ret (W := W0) (ew_pair (ew_lenT (ew_var (v := v_chart) rfl h_chart)) (ew_lenS (ew_ixT (ew_var (v := v_chart) rfl h_chart) ew_int))) g0.ok hm fun r1 v_ret W1 g1 hp hm => ?_
    exact hm v_ret W1 (g0.trans g1) rfl hp
abbrev s_reverse : Stmt := top 25
abbrev N_reverse : List Str := ["chart", "rows", "columns", "square"]
abbrev P_reverse : List Str := ["chart"]
theorem sc_reverse : FnScope N_reverse P_reverse (defScope s_reverse) := ⟨rfl, rfl, rfl, by decide +kernel, rfl, by decide +kernel, by decide +kernel⟩
def m_reverse (a_chart : (List Str)) : WP (List Str) := (WP.b1 (WP.pure a_chart) m_size_of).bind fun a1_rows_columns => (WP.b3 (WP.pure a1_rows_columns.1) (WP.pure a1_rows_columns.2) (WP.lc (WP.b1 (WP.pure a_chart) m_squares_of) (fun c1 => (WP.not (WP.b2 (WP.pure a_chart) (WP.pure c1) m_is_land))) (fun c1 => (WP.pure c1))) m_chart_from).bind fun r2 => (WP.pure r2)
def sp_reverse : Sp := fun vs H Q _ => ∃ (W : Wo) (a_chart : (List Str)) (v_chart : V), vs = [v_chart] ∧ W.H = H ∧ Good ef0 W ∧ Rp W a_chart v_chart ∧ (m_reverse a_chart).run W.n fun n r => ∀ v W', Gw ef0 W W' → W'.n = n → (sI (e := ef0) (α := (List Str))).post W W' r v → Q v W'.H
theorem ev_reverse {e : Ef} {σ : L2.St} {W : Wo} {E : XK} {t0 : TE} {w0 : WP (List Str)} (h0 : EvW e t0 σ W sI w0) : EvW e (tCall sp_reverse [] E (tCons t0 tNil)) σ W (sI (α := (List Str))) (WP.b1 w0 m_reverse) := ew_call1N h0 fun W2 b0 x0 g2 r0 Q q E => by
  exact ⟨W2, b0, x0, rfl, rfl, g2.z, r0, WP.mono _ (fun n c h v W3 g3 hn p => h v W3 (Gw.up g2 g3) hn p) q⟩
theorem ok_reverse (F : At K mg "reverse" s_reverse P_reverse) (G : Glb mg) (H_chart_from : Has P w K mg base "chart_from" 1 P_chart_from sp_chart_from) (H_is_land : Has P w K mg base "is_land" 2 P_is_land sp_is_land) (H_size_of : Has P w K mg base "size_of" 1 P_size_of sp_size_of) (H_squares_of : Has P w K mg base "squares_of" 1 P_squares_of sp_squares_of) : Has P w K mg base "reverse" 3 P_reverse sp_reverse := by
  refine Has.of F sc_reverse (fun vs H Q E h => ?_) (fun f cdv A outer s H0 vs Q E hr h => ?_)
  · obtain ⟨W0, a_chart, v_chart, rfl, _⟩ := h
    rfl
  · obtain ⟨W0, a_chart, v_chart, rfl, rfl, g00, h_chart, hm⟩ := h
    have sc := sc_reverse
    have g0 := Gw.refl g00
    unfold m_reverse at hm
    refine ⟨_, (pss_cons (ps_asg (pe_user H_size_of (hr.mono (by decide)) rfl (pa_cons (pv 0) pa_nil)) (pg_tup rfl (pgs_cons (pg_name (i := 1) sc.nd rfl (Or.inl rfl)) (pgs_cons (pg_name (i := 2) sc.nd rfl (Or.inl rfl)) pgs_nil))))
      (pss_one (ps_ret (pe_user H_chart_from (hr.mono (by decide)) rfl (pa_cons (pv 1) (pa_cons (pv 2) (pa_cons (pe_lc (own := [("square", 3)]) (g := gName 3) rfl sc.nd (pi_list (pe_user H_squares_of (hr.mono (by decide)) rfl (pa_cons (pv 0) pa_nil))) (blkOk_by (N := N_reverse) (sc := defScope s_reverse) (by decide +kernel)) (fun _ _ _ _ _ => (pg_name (i := 3) sc.nd rfl (Or.inl rfl))) (fun _ _ _ _ _ => (pts_one (pt_not (pt_val (pe_user H_is_land (hr.mono (by decide)) rfl (pa_cons (pv 0) (pa_cons (pv 3) pa_nil))))))) (fun _ _ _ _ _ => (pv 3))) pa_nil))))))), ?_⟩
    refine q_un2 (W := W0) (ev_size_of (ew_var (v := v_chart) rfl h_chart)) g0.ok hm fun a1_rows_columns v_rows v_columns W1 g1 h_rows h_columns hm => ?_
    have h_chart := PyI.st g1.st h_chart
    have g0 := g0.trans g1
    first | refine norm_st (σ' := [some v_chart, some v_rows, some v_columns, none]) rfl ?_ | skip
    refine st_ret (W := W1) (ev_chart_from (ew_var (v := v_rows) rfl h_rows) (ew_var (v := v_columns) rfl h_columns) (ew_rd (ew_lcL (ew_rd (ev_squares_of (ew_var (v := v_chart) rfl h_chart))) takes_N (fun _ _ _ h => by obtain ⟨v_square, ec, h_square⟩ := h; subst ec; rfl) (fun c1 Wc1 s2 gc1 h => by obtain ⟨v_square, ec, h_square⟩ := h; subst ec; have h_chart := PyI.st gc1.st h_chart; exact (et_not (et_B (ev_is_land (ew_var (v := v_chart) rfl h_chart) (ew_var (v := v_square) rfl h_square))))) (fun c1 Wc1 s2 gc1 h => by obtain ⟨v_square, ec, h_square⟩ := h; subst ec; have h_chart := PyI.st gc1.st h_chart; exact (ew_var (v := v_square) rfl h_square))))) g0.ok hm fun r2 v_ret W2 g2 hp hm => ?_
    exact hm v_ret W2 (g0.trans g2) rfl hp
abbrev s_is_within : Stmt := top 26
abbrev N_is_within : List Str := ["chart", "other", "square"]
abbrev P_is_within : List Str := ["chart", "other"]
theorem sc_is_within : FnScope N_is_within P_is_within (defScope s_is_within) := ⟨rfl, rfl, rfl, by decide +kernel, rfl, by decide +kernel, by decide +kernel⟩
def m_is_within (a_chart : (List Str)) (a_other : (List Str)) : WP Bool := (WP.eq (WP.len (WP.lc (WP.b1 (WP.pure a_chart) m_land_squares) (fun c1 => (WP.not (WP.b2 (WP.pure a_other) (WP.pure c1) m_is_land))) (fun c1 => (WP.pure c1)))) (WP.pure (0 : Int))).bind fun r1 => (WP.pure r1)
def sp_is_within : Sp := fun vs H Q _ => ∃ (W : Wo) (a_chart : (List Str)) (a_other : (List Str)) (v_chart v_other : V), vs = [v_chart, v_other] ∧ W.H = H ∧ Good ef0 W ∧ Rp W a_chart v_chart ∧ Rp W a_other v_other ∧ (m_is_within a_chart a_other).run W.n fun n r => ∀ v W', Gw ef0 W W' → W'.n = n → (sI (e := ef0) (α := Bool)).post W W' r v → Q v W'.H
theorem ev_is_within {e : Ef} {σ : L2.St} {W : Wo} {E : XK} {t0 t1 : TE} {w0 : WP (List Str)} {w1 : WP (List Str)} (h0 : EvW e t0 σ W sI w0) (h1 : EvW e t1 σ W sI w1) : EvW e (tCall sp_is_within [] E (tCons t0 (tCons t1 tNil))) σ W (sI (α := Bool)) (WP.b2 w0 w1 m_is_within) := ew_call2N h0 h1 fun W2 b0 b1 x0 x1 g2 r0 r1 Q q E => by
  exact ⟨W2, b0, b1, x0, x1, rfl, rfl, g2.z, r0, r1, WP.mono _ (fun n c h v W3 g3 hn p => h v W3 (Gw.up g2 g3) hn p) q⟩
theorem ok_is_within (F : At K mg "is_within" s_is_within P_is_within) (G : Glb mg) (H_is_land : Has P w K mg base "is_land" 2 P_is_land sp_is_land) (H_land_squares : Has P w K mg base "land_squares" 3 P_land_squares sp_land_squares) : Has P w K mg base "is_within" 4 P_is_within sp_is_within := by
  refine Has.of F sc_is_within (fun vs H Q E h => ?_) (fun f cdv A outer s H0 vs Q E hr h => ?_)
  · obtain ⟨W0, a_chart, a_other, v_chart, v_other, rfl, _⟩ := h
    rfl
  · obtain ⟨W0, a_chart, a_other, v_chart, v_other, rfl, rfl, g00, h_chart, h_other, hm⟩ := h
    have sc := sc_is_within
    have g0 := Gw.refl g00
    unfold m_is_within at hm
    refine ⟨_, (pss_one (ps_ret (pe_cmpR op_eq (pe_callB call_len_seq (by rfl) G.len PySem.boot_len (pa_cons (pe_lc (own := [("square", 2)]) (g := gName 2) rfl sc.nd (pi_list (pe_user H_land_squares (hr.mono (by decide)) rfl (pa_cons (pv 0) pa_nil))) (blkOk_by (N := N_is_within) (sc := defScope s_is_within) (by decide +kernel)) (fun _ _ _ _ _ => (pg_name (i := 2) sc.nd rfl (Or.inl rfl))) (fun _ _ _ _ _ => (pts_one (pt_not (pt_val (pe_user H_is_land (hr.mono (by decide)) rfl (pa_cons (pv 1) (pa_cons (pv 2) pa_nil))))))) (fun _ _ _ _ _ => (pv 2))) pa_nil)) pe_int (nomark _)))), ?_⟩
    refine st_ret (W := W0) (ew_eq (ew_lenL (ew_rd (ew_lcL (ew_rd (ev_land_squares (ew_var (v := v_chart) rfl h_chart))) takes_N (fun _ _ _ h => by obtain ⟨v_square, ec, h_square⟩ := h; subst ec; rfl) (fun c1 Wc1 s2 gc1 h => by obtain ⟨v_square, ec, h_square⟩ := h; subst ec; have h_chart := PyI.st gc1.st h_chart; have h_other := PyI.st gc1.st h_other; exact (et_not (et_B (ev_is_land (ew_var (v := v_other) rfl h_other) (ew_var (v := v_square) rfl h_square))))) (fun c1 Wc1 s2 gc1 h => by obtain ⟨v_square, ec, h_square⟩ := h; subst ec; have h_chart := PyI.st gc1.st h_chart; have h_other := PyI.st gc1.st h_other; exact (ew_var (v := v_square) rfl h_square))))) ew_int) g0.ok hm fun r1 v_ret W1 g1 hp hm => ?_
    exact hm v_ret W1 (g0.trans g1) rfl hp
abbrev s_window : Stmt := top 27
abbrev N_window : List Str := ["chart", "top", "left", "rows", "columns", "row", "column"]
abbrev P_window : List Str := ["chart", "top", "left", "rows", "columns"]
theorem sc_window : FnScope N_window P_window (defScope s_window) := ⟨rfl, rfl, rfl, by decide +kernel, rfl, by decide +kernel, by decide +kernel⟩
def m_window (a_chart : (List Str)) (a_top : Int) (a_left : Int) (a_rows : Int) (a_columns : Int) : WP (List Str) := (WP.b3 (WP.pure a_rows) (WP.pure a_columns) (WP.lc (WP.b1 (WP.pure a_chart) m_land_squares) (fun c1 => (WP.pure true)) (fun c1 => (WP.pair (WP.sub (WP.pure c1.1) (WP.pure a_top)) (WP.sub (WP.pure c1.2) (WP.pure a_left))))) m_chart_from).bind fun r1 => (WP.pure r1)
def sp_window : Sp := fun vs H Q _ => ∃ (W : Wo) (a_chart : (List Str)) (a_top : Int) (a_left : Int) (a_rows : Int) (a_columns : Int) (v_chart v_top v_left v_rows v_columns : V), vs = [v_chart, v_top, v_left, v_rows, v_columns] ∧ W.H = H ∧ Good ef0 W ∧ Rp W a_chart v_chart ∧ Rp W a_top v_top ∧ Rp W a_left v_left ∧ Rp W a_rows v_rows ∧ Rp W a_columns v_columns ∧ (m_window a_chart a_top a_left a_rows a_columns).run W.n fun n r => ∀ v W', Gw ef0 W W' → W'.n = n → (sI (e := ef0) (α := (List Str))).post W W' r v → Q v W'.H
theorem ev_window {e : Ef} {σ : L2.St} {W : Wo} {E : XK} {t0 t1 t2 t3 t4 : TE} {w0 : WP (List Str)} {w1 : WP Int} {w2 : WP Int} {w3 : WP Int} {w4 : WP Int} (h0 : EvW e t0 σ W sI w0) (h1 : EvW e t1 σ W sI w1) (h2 : EvW e t2 σ W sI w2) (h3 : EvW e t3 σ W sI w3) (h4 : EvW e t4 σ W sI w4) : EvW e (tCall sp_window [] E (tCons t0 (tCons t1 (tCons t2 (tCons t3 (tCons t4 tNil)))))) σ W (sI (α := (List Str))) (WP.b5 w0 w1 w2 w3 w4 m_window) := ew_call5N h0 h1 h2 h3 h4 fun W2 b0 b1 b2 b3 b4 x0 x1 x2 x3 x4 g2 r0 r1 r2 r3 r4 Q q E => by
  exact ⟨W2, b0, b1, b2, b3, b4, x0, x1, x2, x3, x4, rfl, rfl, g2.z, r0, r1, r2, r3, r4, WP.mono _ (fun n c h v W3 g3 hn p => h v W3 (Gw.up g2 g3) hn p) q⟩
theorem ok_window (F : At K mg "window" s_window P_window) (G : Glb mg) (H_chart_from : Has P w K mg base "chart_from" 1 P_chart_from sp_chart_from) (H_land_squares : Has P w K mg base "land_squares" 3 P_land_squares sp_land_squares) : Has P w K mg base "window" 4 P_window sp_window := by
  refine Has.of F sc_window (fun vs H Q E h => ?_) (fun f cdv A outer s H0 vs Q E hr h => ?_)
  · obtain ⟨W0, a_chart, a_top, a_left, a_rows, a_columns, v_chart, v_top, v_left, v_rows, v_columns, rfl, _⟩ := h
    rfl
  · obtain ⟨W0, a_chart, a_top, a_left, a_rows, a_columns, v_chart, v_top, v_left, v_rows, v_columns, rfl, rfl, g00, h_chart, h_top, h_left, h_rows, h_columns, hm⟩ := h
    have sc := sc_window
    have g0 := Gw.refl g00
    unfold m_window at hm
    refine ⟨_, (pss_one (ps_ret (pe_user H_chart_from (hr.mono (by decide)) rfl (pa_cons (pv 3) (pa_cons (pv 4) (pa_cons (pe_lc (own := [("row", 5), ("column", 6)]) (g := gTup K 2 (gCons (gName 5) (gCons (gName 6) gNil))) (tt := tYes) rfl sc.nd (pi_list (pe_user H_land_squares (hr.mono (by decide)) rfl (pa_cons (pv 0) pa_nil))) (blkOk_by (N := N_window) (sc := defScope s_window) (by decide +kernel)) (fun _ _ _ _ _ => (pg_tup rfl (pgs_cons (pg_name (i := 5) sc.nd rfl (Or.inl rfl)) (pgs_cons (pg_name (i := 6) sc.nd rfl (Or.inl rfl)) pgs_nil)))) (fun _ _ _ _ _ => pts_nil) (fun _ _ _ _ _ => (pe_tup (pa_cons (pe_op op_sub (pv 5) (pv 1)) (pa_cons (pe_op op_sub (pv 6) (pv 2)) pa_nil))))) pa_nil)))))), ?_⟩
    refine st_ret (W := W0) (ev_chart_from (ew_var (v := v_rows) rfl h_rows) (ew_var (v := v_columns) rfl h_columns) (ew_rd (ew_lcL (ew_rd (ev_land_squares (ew_var (v := v_chart) rfl h_chart))) takes_P (fun _ _ _ h => by obtain ⟨v_row, v_column, ec, h_row, h_column⟩ := h; subst ec; rfl) (fun c1 Wc1 s2 gc1 h => by obtain ⟨v_row, v_column, ec, h_row, h_column⟩ := h; subst ec; have h_chart := PyI.st gc1.st h_chart; have h_top := PyI.st gc1.st h_top; have h_left := PyI.st gc1.st h_left; exact et_yes) (fun c1 Wc1 s2 gc1 h => by obtain ⟨v_row, v_column, ec, h_row, h_column⟩ := h; subst ec; have h_chart := PyI.st gc1.st h_chart; have h_top := PyI.st gc1.st h_top; have h_left := PyI.st gc1.st h_left; exact (ew_pair (ew_sub (ew_var (v := v_row) rfl h_row) (ew_var (v := v_top) rfl h_top)) (ew_sub (ew_var (v := v_column) rfl h_column) (ew_var (v := v_left) rfl h_left))))))) g0.ok hm fun r1 v_ret W1 g1 hp hm => ?_
    exact hm v_ret W1 (g0.trans g1) rfl hp
abbrev s__law_same : Stmt := top 31
abbrev N__law_same : List Str := ["a", "b", "k"]
abbrev P__law_same : List Str := ["a", "b"]
theorem sc__law_same : FnScope N__law_same P__law_same (defScope s__law_same) := ⟨rfl, rfl, rfl, by decide +kernel, rfl, by decide +kernel, by decide +kernel⟩
def m__law_same : Nat → PyData → PyData → WP Bool
  | 0, _, _ => WP.none (b := ())
  | fu + 1, a_a, a_b => (WP.or ((WP.pure a_b).bind fun d => WP.pure (isB "tuple" d)) ((WP.pure a_b).bind fun d => WP.pure (isB "list" d))).bind fun b => WP.cond b ((WP.or (WP.and ((WP.pure a_b).bind fun d => WP.pure (isB "tuple" d)) (WP.not ((WP.pure a_a).bind fun d => WP.pure (isB "tuple" d)))) (WP.and ((WP.pure a_b).bind fun d => WP.pure (isB "list" d)) (WP.not ((WP.pure a_a).bind fun d => WP.pure (isB "list" d))))).bind fun b => WP.cond b ((WP.pure false).bind fun r3 => (WP.pure r3)) ((WP.ne (WP.lenU (WP.pure a_a)) (WP.lenU (WP.pure a_b))).bind fun b => WP.cond b ((WP.pure false).bind fun r5 => (WP.pure r5)) ((WP.range1 (WP.lenU (WP.pure a_b))).bind fun xs6 => WP.after (WP.loop (γ := Bool) (fun c6 (y6 : Unit) => (WP.not (WP.b2 (WP.ixU (WP.pure a_a) (WP.pure c6)) (WP.ixU (WP.pure a_b) (WP.pure c6)) (m__law_same fu))).bind fun b => WP.cond b ((WP.pure false).bind fun r8 => (WP.pure (.rt r8))) ((WP.pure (.nx ())))) xs6 ()) (fun (z6 : Unit) => (WP.pure true).bind fun r9 => (WP.pure r9)) (fun r => (WP.pure r))))) ((WP.or ((WP.pure a_a).bind fun d => WP.pure (isB "bool" d)) ((WP.pure a_b).bind fun d => WP.pure (isB "bool" d))).bind fun b => WP.cond b ((WP.and ((WP.pure a_a).bind fun d => WP.pure (isB "bool" d)) (WP.and ((WP.pure a_b).bind fun d => WP.pure (isB "bool" d)) (WP.eqD (WP.pure a_a) (WP.pure a_b)))).bind fun r11 => (WP.pure r11)) (((WP.pure a_b).bind fun d => WP.pure (isB "int" d)).bind fun b => WP.cond b ((WP.and ((WP.pure a_a).bind fun d => WP.pure (isB "int" d)) (WP.eqD (WP.pure a_a) (WP.pure a_b))).bind fun r13 => (WP.pure r13)) (((WP.pure a_b).bind fun d => WP.pure (isB "str" d)).bind fun b => WP.cond b ((WP.and ((WP.pure a_a).bind fun d => WP.pure (isB "str" d)) (WP.eqD (WP.pure a_a) (WP.pure a_b))).bind fun r15 => (WP.pure r15)) ((WP.and ((WP.pure a_a).bind fun d => WP.pure (isNonD d)) ((WP.pure a_b).bind fun d => WP.pure (isNonD d))).bind fun r16 => (WP.pure r16)))))
def sp__law_same (fu : Nat) : Sp := fun vs H Q _ => ∃ (W : Wo) (a_a : PyData) (a_b : PyData) (v_a v_b : V), vs = [v_a, v_b] ∧ W.H = H ∧ Good ef0 W ∧ Rp W a_a v_a ∧ Rp W a_b v_b ∧ (m__law_same fu a_a a_b).run W.n fun n r => ∀ v W', Gw ef0 W W' → W'.n = n → (sI (e := ef0) (α := Bool)).post W W' r v → Q v W'.H
theorem ev__law_same {fu : Nat} {e : Ef} {σ : L2.St} {W : Wo} {E : XK} {t0 t1 : TE} {w0 : WP PyData} {w1 : WP PyData} (h0 : EvW e t0 σ W sI w0) (h1 : EvW e t1 σ W sI w1) : EvW e (tCall (sp__law_same fu) [] E (tCons t0 (tCons t1 tNil))) σ W (sI (α := Bool)) (WP.b2 w0 w1 (m__law_same fu)) := ew_call2N h0 h1 fun W2 b0 b1 x0 x1 g2 r0 r1 Q q E => by
  exact ⟨W2, b0, b1, x0, x1, rfl, rfl, g2.z, r0, r1, WP.mono _ (fun n c h v W3 g3 hn p => h v W3 (Gw.up g2 g3) hn p) q⟩
theorem ok__law_same (F : At K mg "_law_same" s__law_same P__law_same) (G : Glb mg)  : ∀ fu : Nat, Has P w K mg base "_law_same" (1 + fu) P__law_same (sp__law_same fu)
  | 0 => by
    refine Has.of F sc__law_same (fun vs H Q E h => ?_) (fun f cdv A outer s H0 vs Q E hr h => ?_)
    · obtain ⟨W0, a_a, a_b, v_a, v_b, rfl, _⟩ := h
      rfl
    · obtain ⟨W0, a_a, a_b, v_a, v_b, rfl, rfl, g00, h_a, h_b, hm⟩ := h
      exact ⟨_, pss_dead, (show False from hm)⟩
  | fu + 1 => by
    have H__law_same := ok__law_same F G fu
    refine Has.of F sc__law_same (fun vs H Q E h => ?_) (fun f cdv A outer s H0 vs Q E hr h => ?_)
    · obtain ⟨W0, a_a, a_b, v_a, v_b, rfl, _⟩ := h
      rfl
    · obtain ⟨W0, a_a, a_b, v_a, v_b, rfl, rfl, g00, h_a, h_b, hm⟩ := h
      have sc := sc__law_same
      have g0 := Gw.refl g00
      rw [m__law_same] at hm
      refine ⟨_, (pss_cons (ps_if (PW.pt (pw_or (pt_val (pe_callB call_isi (by rfl) G.isinstance (by decide +kernel) (pa_cons (pv 1) (pa_cons (pe_bltn (v := .ty "tuple") (u := .type "tuple") rfl G.tuple (by decide +kernel) rfl) pa_nil)))) (pw_or1 (pt_val (pe_callB call_isi (by rfl) G.isinstance (by decide +kernel) (pa_cons (pv 1) (pa_cons (pe_bltn (v := .ty "list") (u := .type "list") rfl G.list (by decide +kernel) rfl) pa_nil))))))) (pss_cons (ps_if (PW.pt (pw_or (PW.pt (pw_and (pt_val (pe_callB call_isi (by rfl) G.isinstance (by decide +kernel) (pa_cons (pv 1) (pa_cons (pe_bltn (v := .ty "tuple") (u := .type "tuple") rfl G.tuple (by decide +kernel) rfl) pa_nil)))) (pw_and1 (pt_not (pt_val (pe_callB call_isi (by rfl) G.isinstance (by decide +kernel) (pa_cons (pv 0) (pa_cons (pe_bltn (v := .ty "tuple") (u := .type "tuple") rfl G.tuple (by decide +kernel) rfl) pa_nil)))))))) (pw_or1 (PW.pt (pw_and (pt_val (pe_callB call_isi (by rfl) G.isinstance (by decide +kernel) (pa_cons (pv 1) (pa_cons (pe_bltn (v := .ty "list") (u := .type "list") rfl G.list (by decide +kernel) rfl) pa_nil)))) (pw_and1 (pt_not (pt_val (pe_callB call_isi (by rfl) G.isinstance (by decide +kernel) (pa_cons (pv 0) (pa_cons (pe_bltn (v := .ty "list") (u := .type "list") rfl G.list (by decide +kernel) rfl) pa_nil))))))))))) (pss_one (ps_ret pe_bl)) pss_nil)
        (pss_cons (ps_if (pt_cmpR op_ne (pe_callB call_len_seq (by rfl) G.len PySem.boot_len (pa_cons (pv 0) pa_nil)) (pe_callB call_len_seq (by rfl) G.len PySem.boot_len (pa_cons (pv 1) pa_nil)) (nomark _)) (pss_one (ps_ret pe_bl)) pss_nil)
        (pss_cons (ps_for PassesOwn.never rfl (pi_range1 rfl G.range (pa_cons (pe_callB call_len_seq (by rfl) G.len PySem.boot_len (pa_cons (pv 1) pa_nil)) pa_nil)) (pg_name (i := 2) sc.nd rfl (Or.inl rfl))
        (pss_one (ps_if (pt_not (pt_val (pe_user H__law_same (hr.mono (by first | omega | exact Nat.le_refl _ | (simp only [Nat.add_eq]; omega))) rfl (pa_cons (pe_ix ix_seq (pv 0) (pv 2) (fun _ _ => rfl)) (pa_cons (pe_ix ix_seq (pv 1) (pv 2) (fun _ _ => rfl)) pa_nil))))) (pss_one (ps_ret pe_bl)) pss_nil)))
        (pss_one (ps_ret pe_bl))))) pss_nil)
        (pss_cons (ps_if (PW.pt (pw_or (pt_val (pe_callB call_isi (by rfl) G.isinstance (by decide +kernel) (pa_cons (pv 0) (pa_cons (pe_bltn (v := .ty "bool") (u := .type "bool") rfl G.bool (by decide +kernel) rfl) pa_nil)))) (pw_or1 (pt_val (pe_callB call_isi (by rfl) G.isinstance (by decide +kernel) (pa_cons (pv 1) (pa_cons (pe_bltn (v := .ty "bool") (u := .type "bool") rfl G.bool (by decide +kernel) rfl) pa_nil))))))) (pss_one (ps_ret (pe_and (pe_callB call_isi (by rfl) G.isinstance (by decide +kernel) (pa_cons (pv 0) (pa_cons (pe_bltn (v := .ty "bool") (u := .type "bool") rfl G.bool (by decide +kernel) rfl) pa_nil))) (pe_and (pe_callB call_isi (by rfl) G.isinstance (by decide +kernel) (pa_cons (pv 1) (pa_cons (pe_bltn (v := .ty "bool") (u := .type "bool") rfl G.bool (by decide +kernel) rfl) pa_nil))) (pe_one (pe_cmpR (op_eqD hr.units) (pv 0) (pv 1) (nomark _))))))) pss_nil)
        (pss_cons (ps_if (pt_val (pe_callB call_isi (by rfl) G.isinstance (by decide +kernel) (pa_cons (pv 1) (pa_cons (pe_bltn (v := .ty "int") (u := .type "int") rfl G.int (by decide +kernel) rfl) pa_nil)))) (pss_one (ps_ret (pe_and (pe_callB call_isi (by rfl) G.isinstance (by decide +kernel) (pa_cons (pv 0) (pa_cons (pe_bltn (v := .ty "int") (u := .type "int") rfl G.int (by decide +kernel) rfl) pa_nil))) (pe_one (pe_cmpR (op_eqD hr.units) (pv 0) (pv 1) (nomark _)))))) pss_nil)
        (pss_cons (ps_if (pt_val (pe_callB call_isi (by rfl) G.isinstance (by decide +kernel) (pa_cons (pv 1) (pa_cons (pe_bltn (v := .ty "str") (u := .type "str") rfl G.str (by decide +kernel) rfl) pa_nil)))) (pss_one (ps_ret (pe_and (pe_callB call_isi (by rfl) G.isinstance (by decide +kernel) (pa_cons (pv 0) (pa_cons (pe_bltn (v := .ty "str") (u := .type "str") rfl G.str (by decide +kernel) rfl) pa_nil))) (pe_one (pe_cmpR (op_eqD hr.units) (pv 0) (pv 1) (nomark _)))))) pss_nil)
        (pss_one (ps_ret (pe_and (pe_cmp (pc_isN (pv 0))) (pe_one (pe_cmp (pc_isN (pv 1))))))))))), ?_⟩
      refine q_if (W := W0) (et_or (et_B (ew_isiU "tuple" (kB (by decide +kernel)) (ew_var (v := v_b) rfl h_b))) (et_B (ew_isiU "list" (kB (by decide +kernel)) (ew_var (v := v_b) rfl h_b)))) g0.ok hm (fun W1 g1 hm => ?_) (fun W1 g1 hm => ?_)
      ·
        have h_a := PyI.st g1.st h_a
        have h_b := PyI.st g1.st h_b
        have g0 := g0.trans g1
        refine q_if (W := W1) (et_or (et_and (et_B (ew_isiU "tuple" (kB (by decide +kernel)) (ew_var (v := v_b) rfl h_b))) (et_not (et_B (ew_isiU "tuple" (kB (by decide +kernel)) (ew_var (v := v_a) rfl h_a))))) (et_and (et_B (ew_isiU "list" (kB (by decide +kernel)) (ew_var (v := v_b) rfl h_b))) (et_not (et_B (ew_isiU "list" (kB (by decide +kernel)) (ew_var (v := v_a) rfl h_a)))))) g0.ok hm (fun W2 g2 hm => ?_) (fun W2 g2 hm => ?_)
        ·
          have h_a := PyI.st g2.st h_a
          have h_b := PyI.st g2.st h_b
          have g0 := g0.trans g2
          refine st_ret (W := W2) ew_bl g0.ok hm fun r3 v_ret W3 g3 hp hm => ?_
          exact hm v_ret W3 (g0.trans g3) rfl hp
        ·
          have h_a := PyI.st g2.st h_a
          have h_b := PyI.st g2.st h_b
          have g0 := g0.trans g2
          refine st_next ?_
          refine q_if (W := W2) (et_t (ew_ne (ew_lenU (ew_var (v := v_a) rfl h_a)) (ew_lenU (ew_var (v := v_b) rfl h_b)))) g0.ok hm (fun W4 g4 hm => ?_) (fun W4 g4 hm => ?_)
          ·
            have h_a := PyI.st g4.st h_a
            have h_b := PyI.st g4.st h_b
            have g0 := g0.trans g4
            refine st_ret (W := W4) ew_bl g0.ok hm fun r5 v_ret W5 g5 hp hm => ?_
            exact hm v_ret W5 (g0.trans g5) rfl hp
          ·
            have h_a := PyI.st g4.st h_a
            have h_b := PyI.st g4.st h_b
            have g0 := g0.trans g4
            refine st_next ?_
            refine q_forR1 (W := W4) (ew_lenU (ew_var (v := v_b) rfl h_b)) g0.ok hm fun W6 g6 => ?_
            have h_a := PyI.st g6.st h_a
            have h_b := PyI.st g6.st h_b
            have g0 := g0.trans g6
            refine ⟨fun y σ' W' => ∃ (o_k : Option V), σ' = [some v_a, some v_b, o_k] ∧ Gw ef0 W0 W' ∧ St W6 W', ⟨_, rfl, g0, (St.refl _)⟩, fun c6 y6 σi s2 Wi6 R6 nx6 ht hI hm kn6 kb6 kr6 => ?_, fun z6 σi Wi6 hI hm => ?_⟩
            ·
              obtain ⟨o_k, rfl, g0, sl6⟩ := hI
              have h_a := PyI.st sl6 h_a
              have h_b := PyI.st sl6 h_b
              obtain ⟨v_k, rfl, h_k⟩ := ht
              refine st_if (W := Wi6) (et_not (et_B (ev__law_same (ew_ixU (ew_var (v := v_a) rfl h_a) (ew_var (v := v_k) rfl h_k)) (ew_ixU (ew_var (v := v_b) rfl h_b) (ew_var (v := v_k) rfl h_k))))) g0.ok hm (fun W7 g7 hm => ?_) (fun W7 g7 hm => ?_)
              ·
                have h_a := PyI.st g7.st h_a
                have h_b := PyI.st g7.st h_b
                have h_k := PyI.st g7.st h_k
                have sl6 := sl6.trans g7.st
                have g0 := g0.trans g7
                refine st_ret (W := W7) ew_bl g0.ok hm fun r8 v_ret W8 g8 hp hm => ?_
                have hm := kr6 _ _ hm
                exact hm v_ret W8 (g0.trans g8) rfl hp
              ·
                have h_a := PyI.st g7.st h_a
                have h_b := PyI.st g7.st h_b
                have h_k := PyI.st g7.st h_k
                have sl6 := sl6.trans g7.st
                have g0 := g0.trans g7
                refine st_next ?_
                exact kn6 () _ W7 ⟨_, rfl, g0, sl6⟩ hm
            ·
              obtain ⟨o_k, rfl, g0, sl6⟩ := hI
              have h_a := PyI.st sl6 h_a
              have h_b := PyI.st sl6 h_b
              refine st_ret (W := Wi6) ew_bl g0.ok hm fun r9 v_ret W9 g9 hp hm => ?_
              exact hm v_ret W9 (g0.trans g9) rfl hp
      ·
        have h_a := PyI.st g1.st h_a
        have h_b := PyI.st g1.st h_b
        have g0 := g0.trans g1
        refine st_next ?_
        refine q_if (W := W1) (et_or (et_B (ew_isiU "bool" (kB (by decide +kernel)) (ew_var (v := v_a) rfl h_a))) (et_B (ew_isiU "bool" (kB (by decide +kernel)) (ew_var (v := v_b) rfl h_b)))) g0.ok hm (fun W10 g10 hm => ?_) (fun W10 g10 hm => ?_)
        ·
          have h_a := PyI.st g10.st h_a
          have h_b := PyI.st g10.st h_b
          have g0 := g0.trans g10
          refine st_ret (W := W10) (ew_andV (ew_isiU "bool" (kB (by decide +kernel)) (ew_var (v := v_a) rfl h_a)) (ew_andV (ew_isiU "bool" (kB (by decide +kernel)) (ew_var (v := v_b) rfl h_b)) (ew_eqD (ew_var (v := v_a) rfl h_a) (ew_var (v := v_b) rfl h_b)))) g0.ok hm fun r11 v_ret W11 g11 hp hm => ?_
          exact hm v_ret W11 (g0.trans g11) rfl hp
        ·
          have h_a := PyI.st g10.st h_a
          have h_b := PyI.st g10.st h_b
          have g0 := g0.trans g10
          refine st_next ?_
          refine q_if (W := W10) (et_B (ew_isiU "int" (kB (by decide +kernel)) (ew_var (v := v_b) rfl h_b))) g0.ok hm (fun W12 g12 hm => ?_) (fun W12 g12 hm => ?_)
          ·
            have h_a := PyI.st g12.st h_a
            have h_b := PyI.st g12.st h_b
            have g0 := g0.trans g12
            refine st_ret (W := W12) (ew_andV (ew_isiU "int" (kB (by decide +kernel)) (ew_var (v := v_a) rfl h_a)) (ew_eqD (ew_var (v := v_a) rfl h_a) (ew_var (v := v_b) rfl h_b))) g0.ok hm fun r13 v_ret W13 g13 hp hm => ?_
            exact hm v_ret W13 (g0.trans g13) rfl hp
          ·
            have h_a := PyI.st g12.st h_a
            have h_b := PyI.st g12.st h_b
            have g0 := g0.trans g12
            refine st_next ?_
            refine q_if (W := W12) (et_B (ew_isiU "str" (kB (by decide +kernel)) (ew_var (v := v_b) rfl h_b))) g0.ok hm (fun W14 g14 hm => ?_) (fun W14 g14 hm => ?_)
            ·
              have h_a := PyI.st g14.st h_a
              have h_b := PyI.st g14.st h_b
              have g0 := g0.trans g14
              refine st_ret (W := W14) (ew_andV (ew_isiU "str" (kB (by decide +kernel)) (ew_var (v := v_a) rfl h_a)) (ew_eqD (ew_var (v := v_a) rfl h_a) (ew_var (v := v_b) rfl h_b))) g0.ok hm fun r15 v_ret W15 g15 hp hm => ?_
              exact hm v_ret W15 (g0.trans g15) rfl hp
            ·
              have h_a := PyI.st g14.st h_a
              have h_b := PyI.st g14.st h_b
              have g0 := g0.trans g14
              refine st_next ?_
              refine st_ret (W := W14) (ew_andV (ew_isNU (ew_var (v := v_a) rfl h_a)) (ew_isNU (ew_var (v := v_b) rfl h_b))) g0.ok hm fun r16 v_ret W16 g16 hp hm => ?_
              exact hm v_ret W16 (g0.trans g16) rfl hp
abbrev s__law_same__l : Stmt := top 31
abbrev N__law_same__l : List Str := ["a", "b", "k"]
abbrev P__law_same__l : List Str := ["a", "b"]
theorem sc__law_same__l : FnScope N__law_same__l P__law_same__l (defScope s__law_same__l) := ⟨rfl, rfl, rfl, by decide +kernel, rfl, by decide +kernel, by decide +kernel⟩
def m__law_same__l (a_a : (List PyData)) (a_b : (List PyData)) : WP Bool := (WP.or ((WP.pure a_b).bind fun _ => WP.pure false) ((WP.pure a_b).bind fun _ => WP.pure true)).bind fun b => WP.cond b ((WP.or (WP.and ((WP.pure a_b).bind fun _ => WP.pure false) (WP.not ((WP.pure a_a).bind fun _ => WP.pure false))) (WP.and ((WP.pure a_b).bind fun _ => WP.pure true) (WP.not ((WP.pure a_a).bind fun _ => WP.pure true)))).bind fun b => WP.cond b ((WP.none (b := ()))) ((WP.ne (WP.len (WP.pure a_a)) (WP.len (WP.pure a_b))).bind fun b => WP.cond b ((WP.pure false).bind fun r4 => (WP.pure r4)) ((WP.range1 (WP.len (WP.pure a_b))).bind fun xs5 => WP.after (WP.loop (γ := Bool) (fun c5 (y5 : Unit) => (WP.not (WP.b2 (WP.ix (WP.pure a_a) (WP.pure c5)) (WP.ix (WP.pure a_b) (WP.pure c5)) (m__law_same 6))).bind fun b => WP.cond b ((WP.pure false).bind fun r7 => (WP.pure (.rt r7))) ((WP.pure (.nx ())))) xs5 ()) (fun (z5 : Unit) => (WP.pure true).bind fun r8 => (WP.pure r8)) (fun r => (WP.pure r))))) ((WP.none (b := ())))
def sp__law_same__l : Sp := fun vs H Q _ => ∃ (W : Wo) (a_a : (List PyData)) (a_b : (List PyData)) (v_a v_b : V) (fp_a fp_b : List Addr), vs = [v_a, v_b] ∧ W.H = H ∧ Good ef0 W ∧ (kL PyData).own W fp_a a_a v_a ∧ (∀ a ∈ fp_a, ¬ ef0.S a) ∧ (kL PyData).own W fp_b a_b v_b ∧ (∀ a ∈ fp_b, ¬ ef0.S a) ∧ (m__law_same__l a_a a_b).run W.n fun n r => ∀ v W', Gw ef0 W W' → W'.n = n → (sI (e := ef0) (α := Bool)).post W W' r v → Q v W'.H
theorem ev__law_same__l {e : Ef} {σ : L2.St} {W : Wo} {E : XK} {t0 t1 : TE} {w0 : WP (List PyData)} {w1 : WP (List PyData)} (h0 : EvW e t0 σ W (sR (kL PyData)) w0) (h1 : EvW e t1 σ W (sR (kL PyData)) w1) : EvW e (tCall sp__law_same__l [] E (tCons t0 (tCons t1 tNil))) σ W (sI (α := Bool)) (WP.b2 w0 w1 m__law_same__l) := ew_call2N h0 h1 fun W2 b0 b1 x0 x1 g2 ⟨fp0, r0, s0⟩ ⟨fp1, r1, s1⟩ Q q E => by
  exact ⟨W2, b0, b1, x0, x1, fp0, fp1, rfl, rfl, g2.z, r0, fun _ _ z => z, r1, fun _ _ z => z, WP.mono _ (fun n c h v W3 g3 hn p => h v W3 (Gw.up g2 g3) hn p) q⟩
theorem ok__law_same__l (F : At K mg "_law_same" s__law_same__l P__law_same__l) (G : Glb mg) (H__law_same : Has P w K mg base "_law_same" 7 P__law_same (sp__law_same 6)) : Has P w K mg base "_law_same" 8 P__law_same__l sp__law_same__l := by
  refine Has.of F sc__law_same__l (fun vs H Q E h => ?_) (fun f cdv A outer s H0 vs Q E hr h => ?_)
  · obtain ⟨W0, a_a, a_b, v_a, v_b, fp_a, fp_b, rfl, _⟩ := h
    rfl
  · obtain ⟨W0, a_a, a_b, v_a, v_b, fp_a, fp_b, rfl, rfl, g00, hb_a, hS_a, hb_b, hS_b, hm⟩ := h
    have sc := sc__law_same__l
    have g0 := Gw.refl g00
    have hl_a := (kL PyData).live hb_a
    have hb0_a := hb_a
    have hl_b := (kL PyData).live hb_b
    have hb0_b := hb_b
    unfold m__law_same__l at hm
    refine ⟨_, (pss_cons (ps_if (PW.pt (pw_or (pt_val (pe_callB call_isi (by rfl) G.isinstance (by decide +kernel) (pa_cons (pv 1) (pa_cons (pe_bltn (v := .ty "tuple") (u := .type "tuple") rfl G.tuple (by decide +kernel) rfl) pa_nil)))) (pw_or1 (pt_val (pe_callB call_isi (by rfl) G.isinstance (by decide +kernel) (pa_cons (pv 1) (pa_cons (pe_bltn (v := .ty "list") (u := .type "list") rfl G.list (by decide +kernel) rfl) pa_nil))))))) (pss_cons (ps_if (PW.pt (pw_or (PW.pt (pw_and (pt_val (pe_callB call_isi (by rfl) G.isinstance (by decide +kernel) (pa_cons (pv 1) (pa_cons (pe_bltn (v := .ty "tuple") (u := .type "tuple") rfl G.tuple (by decide +kernel) rfl) pa_nil)))) (pw_and1 (pt_not (pt_val (pe_callB call_isi (by rfl) G.isinstance (by decide +kernel) (pa_cons (pv 0) (pa_cons (pe_bltn (v := .ty "tuple") (u := .type "tuple") rfl G.tuple (by decide +kernel) rfl) pa_nil)))))))) (pw_or1 (PW.pt (pw_and (pt_val (pe_callB call_isi (by rfl) G.isinstance (by decide +kernel) (pa_cons (pv 1) (pa_cons (pe_bltn (v := .ty "list") (u := .type "list") rfl G.list (by decide +kernel) rfl) pa_nil)))) (pw_and1 (pt_not (pt_val (pe_callB call_isi (by rfl) G.isinstance (by decide +kernel) (pa_cons (pv 0) (pa_cons (pe_bltn (v := .ty "list") (u := .type "list") rfl G.list (by decide +kernel) rfl) pa_nil))))))))))) pss_dead pss_nil)
      (pss_cons (ps_if (pt_cmpR op_ne (pe_callB call_len_seq (by rfl) G.len PySem.boot_len (pa_cons (pv 0) pa_nil)) (pe_callB call_len_seq (by rfl) G.len PySem.boot_len (pa_cons (pv 1) pa_nil)) (nomark _)) (pss_one (ps_ret pe_bl)) pss_nil)
      (pss_cons (ps_for PassesOwn.never rfl (pi_range1 rfl G.range (pa_cons (pe_callB call_len_seq (by rfl) G.len PySem.boot_len (pa_cons (pv 1) pa_nil)) pa_nil)) (pg_name (i := 2) sc.nd rfl (Or.inl rfl))
      (pss_one (ps_if (pt_not (pt_val (pe_user H__law_same (hr.mono (by decide)) rfl (pa_cons (pe_ix ix_list (pv 0) (pv 2) (fun _ _ => rfl)) (pa_cons (pe_ix ix_list (pv 1) (pv 2) (fun _ _ => rfl)) pa_nil))))) (pss_one (ps_ret pe_bl)) pss_nil)))
      (pss_one (ps_ret pe_bl))))) pss_dead)
      pss_dead), ?_⟩
    refine q_if (W := W0) (et_or (et_B (ew_isiL "tuple" false (by decide +kernel) (ew_varR rfl hS_b hb_b))) (et_B (ew_isiL "list" true (by decide +kernel) (ew_varR rfl hS_b hb_b)))) g0.ok hm (fun W1 g1 hm => ?_) (fun W1 g1 hm => ?_)
    ·
      have hb_a := Kd.go g1 hS_a hb_a
      have hb_b := Kd.go g1 hS_b hb_b
      have g0 := g0.trans g1
      refine q_if (W := W1) (et_or (et_and (et_B (ew_isiL "tuple" false (by decide +kernel) (ew_varR rfl hS_b hb_b))) (et_not (et_B (ew_isiL "tuple" false (by decide +kernel) (ew_varR rfl hS_a hb_a))))) (et_and (et_B (ew_isiL "list" true (by decide +kernel) (ew_varR rfl hS_b hb_b))) (et_not (et_B (ew_isiL "list" true (by decide +kernel) (ew_varR rfl hS_a hb_a)))))) g0.ok hm (fun W2 g2 hm => ?_) (fun W2 g2 hm => ?_)
      ·
        exact (show False from hm).elim
      ·
        have hb_a := Kd.go g2 hS_a hb_a
        have hb_b := Kd.go g2 hS_b hb_b
        have g0 := g0.trans g2
        refine st_next ?_
        refine q_if (W := W2) (et_t (ew_ne (ew_lenL (ew_varR rfl hS_a hb_a)) (ew_lenL (ew_varR rfl hS_b hb_b)))) g0.ok hm (fun W3 g3 hm => ?_) (fun W3 g3 hm => ?_)
        ·
          have hb_a := Kd.go g3 hS_a hb_a
          have hb_b := Kd.go g3 hS_b hb_b
          have g0 := g0.trans g3
          refine st_ret (W := W3) ew_bl g0.ok hm fun r4 v_ret W4 g4 hp hm => ?_
          exact hm v_ret W4 (g0.trans g4) rfl hp
        ·
          have hb_a := Kd.go g3 hS_a hb_a
          have hb_b := Kd.go g3 hS_b hb_b
          have g0 := g0.trans g3
          refine st_next ?_
          refine q_forR1 (W := W3) (ew_lenL (ew_varR rfl hS_b hb_b)) g0.ok hm fun W5 g5 => ?_
          have hb_a := Kd.go g5 hS_a hb_a
          have hb_b := Kd.go g5 hS_b hb_b
          have g0 := g0.trans g5
          refine ⟨fun y σ' W' => ∃ (o_k : Option V), σ' = [some v_a, some v_b, o_k] ∧ Gw ef0 W0 W' ∧ St W5 W', ⟨_, rfl, g0, (St.refl _)⟩, fun c5 y5 σi s2 Wi5 R5 nx5 ht hI hm kn5 kb5 kr5 => ?_, fun z5 σi Wi5 hI hm => ?_⟩
          ·
            obtain ⟨o_k, rfl, g0, sl5⟩ := hI
            have hb_a := Kd.go g0 hS_a hb0_a
            have hb_b := Kd.go g0 hS_b hb0_b
            obtain ⟨v_k, rfl, h_k⟩ := ht
            refine st_if (W := Wi5) (et_not (et_B (ev__law_same (ew_ixL (ew_varR rfl hS_a hb_a) (ew_var (v := v_k) rfl h_k)) (ew_ixL (ew_varR rfl hS_b hb_b) (ew_var (v := v_k) rfl h_k))))) g0.ok hm (fun W6 g6 hm => ?_) (fun W6 g6 hm => ?_)
            ·
              have hb_a := Kd.go g6 hS_a hb_a
              have hb_b := Kd.go g6 hS_b hb_b
              have h_k := PyI.st g6.st h_k
              have sl5 := sl5.trans g6.st
              have g0 := g0.trans g6
              refine st_ret (W := W6) ew_bl g0.ok hm fun r7 v_ret W7 g7 hp hm => ?_
              have hm := kr5 _ _ hm
              exact hm v_ret W7 (g0.trans g7) rfl hp
            ·
              have hb_a := Kd.go g6 hS_a hb_a
              have hb_b := Kd.go g6 hS_b hb_b
              have h_k := PyI.st g6.st h_k
              have sl5 := sl5.trans g6.st
              have g0 := g0.trans g6
              refine st_next ?_
              exact kn5 () _ W6 ⟨_, rfl, g0, sl5⟩ hm
          ·
            obtain ⟨o_k, rfl, g0, sl5⟩ := hI
            have hb_a := Kd.go g0 hS_a hb0_a
            have hb_b := Kd.go g0 hS_b hb0_b
            refine st_ret (W := Wi5) ew_bl g0.ok hm fun r8 v_ret W8 g8 hp hm => ?_
            exact hm v_ret W8 (g0.trans g8) rfl hp
    ·
      exact (show False from hm).elim
abbrev s__law_grid : Stmt := top 32
abbrev N__law_grid : List Str := ["deal", "rows", "columns", "style", "chance", "grid", "r", "row", "c", "land", "k"]
abbrev P__law_grid : List Str := ["deal", "rows", "columns"]
theorem sc__law_grid : FnScope N__law_grid P__law_grid (defScope s__law_grid) := ⟨rfl, rfl, rfl, by decide +kernel, rfl, by decide +kernel, by decide +kernel⟩
def m__law_grid (_ : Unit) (a_rows : Int) (a_columns : Int) : WP (List Str) := (WP.b2 (WP.pure ()) (WP.pure (6 : Int)) m_take).bind fun a1_style => (WP.ix (WP.row (WP.consE (WP.pure (2 : Int)) (WP.consE (WP.pure (3 : Int)) (WP.consE (WP.pure (4 : Int)) (WP.consE (WP.pure (5 : Int)) (WP.pure ([] : List Int))))))) (WP.b2 (WP.pure ()) (WP.pure (4 : Int)) m_take)).bind fun a2_chance => (WP.row (WP.pure ([] : List (List Str)))).bind fun a3_grid => (WP.range1 (WP.pure a_rows)).bind fun xs4 => WP.after (WP.loop (γ := (List Str)) (fun c4 (y4 : (List (List Str))) => (WP.row (WP.pure ([] : List Str))).bind fun a5_row => (WP.range1 (WP.pure a_columns)).bind fun xs6 => WP.after (WP.loop (γ := (List Str)) (fun c6 (y6 : (List Str)) => (WP.gt (WP.b2 (WP.pure ()) (WP.pure a2_chance) m_take) (WP.pure (0 : Int))).bind fun a7_land => ((WP.eq (WP.pure a1_style) (WP.pure (1 : Int))).bind fun b => WP.cond b ((WP.eq (WP.b2 (WP.pure ()) (WP.pure a2_chance) m_take) (WP.pure (0 : Int))).bind fun a16_land => (WP.pure a16_land)) ((WP.pure a7_land))).bind fun (y8 : Bool) => ((WP.eq (WP.pure a1_style) (WP.pure (2 : Int))).bind fun b => WP.cond b ((WP.eq (WP.mod (WP.min4 (WP.pure c4) (WP.pure c6) (WP.sub (WP.sub (WP.pure a_rows) (WP.pure (1 : Int))) (WP.pure c4)) (WP.sub (WP.sub (WP.pure a_columns) (WP.pure (1 : Int))) (WP.pure c6))) (WP.pure (2 : Int))) (WP.pure (0 : Int))).bind fun a15_land => (WP.pure a15_land)) ((WP.pure y8))).bind fun (y9 : Bool) => ((WP.eq (WP.pure a1_style) (WP.pure (3 : Int))).bind fun b => WP.cond b ((WP.eq (WP.mod (WP.add (WP.pure c4) (WP.pure c6)) (WP.pure (2 : Int))) (WP.pure (0 : Int))).bind fun a14_land => (WP.pure a14_land)) ((WP.pure y9))).bind fun (y10 : Bool) => ((WP.eq (WP.pure a1_style) (WP.pure (4 : Int))).bind fun b => WP.cond b ((WP.or (WP.eq (WP.mod (WP.pure c4) (WP.pure (2 : Int))) (WP.pure (0 : Int))) (WP.eq (WP.pure c6) (WP.ix (WP.row (WP.consE (WP.pure (0 : Int)) (WP.consE (WP.sub (WP.pure a_columns) (WP.pure (1 : Int))) (WP.pure ([] : List Int))))) (WP.mod (WP.fdiv (WP.pure c4) (WP.pure (2 : Int))) (WP.pure (2 : Int)))))).bind fun a13_land => (WP.pure a13_land)) ((WP.pure y10))).bind fun (y11 : Bool) => ((WP.ite (WP.pure y11) (WP.pure (Str.ofString "x")) (WP.pure (Str.ofString "."))).bind fun a => WP.req (y6.length < 100000) (y6 ++ [a])).bind fun a12_row => (WP.pure (.nx a12_row))) xs6 a5_row) (fun (z6 : (List Str)) => (WP.req (y4.length < 100000) (y4 ++ [z6])).bind fun a17_grid => (WP.pure (.nx a17_grid))) (fun r => (WP.pure (.rt r)))) xs4 a3_grid) (fun (z4 : (List (List Str))) => (WP.range1 (WP.b2 (WP.pure ()) (WP.pure (4 : Int)) m_take)).bind fun xs18 => WP.after (WP.loop (γ := (List Str)) (fun c18 (y18 : (List (List Str))) => (WP.b2 (WP.pure ()) (WP.pure a_rows) m_take).bind fun a19_r => (WP.b2 (WP.pure ()) (WP.pure a_columns) m_take).bind fun a20_c => (WP.gset y18 (WP.ite (WP.eq (WP.ix (WP.ix (WP.pure y18) (WP.pure a19_r)) (WP.pure a20_c)) (WP.pure (Str.ofString "x"))) (WP.pure (Str.ofString ".")) (WP.pure (Str.ofString "x"))) (WP.pure a19_r) (WP.pure a20_c)).bind fun a21_grid => (WP.pure (.nx a21_grid))) xs18 z4) (fun (z18 : (List (List Str))) => ((WP.lc (WP.pure z18) (fun c1 => (WP.pure true)) (fun c1 => (WP.join (WP.pure (Str.ofString "")) (WP.pure c1)))).bind fun xs => WP.pure (α := List _) xs).bind fun r22 => (WP.pure r22)) (fun r => (WP.pure r))) (fun r => (WP.pure r))
def sp__law_grid : Sp := fun vs H Q _ => ∃ (d : Dl) (W : Wo) (a_rows : Int) (a_columns : Int) (v_rows v_columns : V), vs = [.ref d.p, v_rows, v_columns] ∧ W.H = H ∧ Good (efD d) W ∧ Rp W a_rows v_rows ∧ Rp W a_columns v_columns ∧ (m__law_grid () a_rows a_columns).run W.n fun n r => ∀ v W', Gw (efD d) W W' → W'.n = n → (sI (e := (efD d)) (α := (List Str))).post W W' r v → Q v W'.H
theorem ev__law_grid {d : Dl} {σ : L2.St} {W : Wo} {E : XK} {t0 t1 t2 : TE} {w0 : WP Unit} {w1 : WP Int} {w2 : WP Int} (h0 : EvW (efD d) t0 σ W (sD d) w0) (h1 : EvW (efD d) t1 σ W sI w1) (h2 : EvW (efD d) t2 σ W sI w2) : EvW (efD d) (tCall sp__law_grid [] E (tCons t0 (tCons t1 (tCons t2 tNil)))) σ W (sI (α := (List Str))) (WP.b3 w0 w1 w2 m__law_grid) := ew_call3N h0 h1 h2 fun W2 b0 b1 b2 x0 x1 x2 g2 r0 r1 r2 Q q E => by
  cases r0
  exact ⟨d, W2, b1, b2, x1, x2, rfl, rfl, g2, r1, r2, WP.mono _ (fun n c h v W3 g3 hn p => h v W3 g3 hn p) q⟩
theorem ok__law_grid (F : At K mg "_law_grid" s__law_grid P__law_grid) (G : Glb mg) (H__law_take : Has P w K mg base "_law_take" 1 P__law_take sp_take) : Has P w K mg base "_law_grid" 2 P__law_grid sp__law_grid := by
  refine Has.of F sc__law_grid (fun vs H Q E h => ?_) (fun f cdv A outer s H0 vs Q E hr h => ?_)
  · obtain ⟨d, W0, a_rows, a_columns, v_rows, v_columns, rfl, _⟩ := h
    rfl
  · obtain ⟨d, W0, a_rows, a_columns, v_rows, v_columns, rfl, rfl, g00, h_rows, h_columns, hm⟩ := h
    have sc := sc__law_grid
    have g0 := Gw.refl g00
    unfold m__law_grid at hm
    refine ⟨_, (pss_cons (ps_set (i := 3) sc.nd rfl (Or.inl rfl) (pe_user H__law_take (hr.mono (by decide)) rfl (pa_cons (pv 0) (pa_cons pe_int pa_nil))))
      (pss_cons (ps_set (i := 4) sc.nd rfl (Or.inl rfl) (pe_ix ix_list (pe_lst (pa_cons pe_int (pa_cons pe_int (pa_cons pe_int (pa_cons pe_int pa_nil))))) (pe_user H__law_take (hr.mono (by decide)) rfl (pa_cons (pv 0) (pa_cons pe_int pa_nil))) (fun _ _ => rfl)))
      (pss_cons (ps_set (i := 5) sc.nd rfl (Or.inl rfl) (pe_lst pa_nil))
      (pss_cons (ps_for PassesOwn.never rfl (pi_range1 rfl G.range (pa_cons (pv 1) pa_nil)) (pg_name (i := 6) sc.nd rfl (Or.inl rfl))
      (pss_cons (ps_set (i := 7) sc.nd rfl (Or.inl rfl) (pe_lst pa_nil))
      (pss_cons (ps_for PassesOwn.never rfl (pi_range1 rfl G.range (pa_cons (pv 2) pa_nil)) (pg_name (i := 8) sc.nd rfl (Or.inl rfl))
      (pss_cons (ps_set (i := 9) sc.nd rfl (Or.inl rfl) (pe_cmpR op_gt (pe_user H__law_take (hr.mono (by decide)) rfl (pa_cons (pv 0) (pa_cons (pv 4) pa_nil))) pe_int (nomark _)))
      (pss_cons (ps_if (pt_cmpR op_eq (pv 3) pe_int (nomark _)) (pss_one (ps_set (i := 9) sc.nd rfl (Or.inl rfl) (pe_cmpR op_eq (pe_user H__law_take (hr.mono (by decide)) rfl (pa_cons (pv 0) (pa_cons (pv 4) pa_nil))) pe_int (nomark _)))) pss_nil)
      (pss_cons (ps_if (pt_cmpR op_eq (pv 3) pe_int (nomark _)) (pss_one (ps_set (i := 9) sc.nd rfl (Or.inl rfl) (pe_cmpR op_eq (pe_op op_mod (pe_callB (call_min4 rfl) (by rfl) G.min (by decide +kernel) (pa_cons (pv 6) (pa_cons (pv 8) (pa_cons (pe_op op_sub (pe_op op_sub (pv 1) pe_int) (pv 6)) (pa_cons (pe_op op_sub (pe_op op_sub (pv 2) pe_int) (pv 8)) pa_nil))))) pe_int) pe_int (nomark _)))) pss_nil)
      (pss_cons (ps_if (pt_cmpR op_eq (pv 3) pe_int (nomark _)) (pss_one (ps_set (i := 9) sc.nd rfl (Or.inl rfl) (pe_cmpR op_eq (pe_op op_mod (pe_op op_add (pv 6) (pv 8)) pe_int) pe_int (nomark _)))) pss_nil)
      (pss_cons (ps_if (pt_cmpR op_eq (pv 3) pe_int (nomark _)) (pss_one (ps_set (i := 9) sc.nd rfl (Or.inl rfl) (pe_or (pe_cmpR op_eq (pe_op op_mod (pv 6) pe_int) pe_int (nomark _)) (pe_one (pe_cmpR op_eq (pv 8) (pe_ix ix_list (pe_lst (pa_cons pe_int (pa_cons (pe_op op_sub (pv 2) pe_int) pa_nil))) (pe_op op_mod (pe_op op_fdiv (pv 6) pe_int) pe_int) (fun _ _ => rfl)) (nomark _)))))) pss_nil)
      (pss_one (ps_expr (pe_bm PySem.F.plainAttrs_list PySem.F.slot_list_append PySem.F.type_list_append mt_append (pv 7) (pa_cons (pe_ifExp (pt_val (pv 9)) pe_str pe_str) pa_nil))))))))))
      (pss_one (ps_expr (pe_bm PySem.F.plainAttrs_list PySem.F.slot_list_append PySem.F.type_list_append mt_append (pv 5) (pa_cons (pv 7) pa_nil)))))))
      (pss_cons (ps_for PassesOwn.never rfl (pi_range1 rfl G.range (pa_cons (pe_user H__law_take (hr.mono (by decide)) rfl (pa_cons (pv 0) (pa_cons pe_int pa_nil))) pa_nil)) (pg_name (i := 10) sc.nd rfl (Or.inl rfl))
      (pss_cons (ps_set (i := 6) sc.nd rfl (Or.inl rfl) (pe_user H__law_take (hr.mono (by decide)) rfl (pa_cons (pv 0) (pa_cons (pv 1) pa_nil))))
      (pss_cons (ps_set (i := 8) sc.nd rfl (Or.inl rfl) (pe_user H__law_take (hr.mono (by decide)) rfl (pa_cons (pv 0) (pa_cons (pv 2) pa_nil))))
      (pss_one (ps_asg (pe_ifExp (pt_cmpR op_eq (pe_ix ix_list (pe_ix ix_list (pv 5) (pv 6) (fun _ _ => rfl)) (pv 8) (fun _ _ => rfl)) pe_str (nomark _)) pe_str pe_str) (pg_sub (pe_ix ix_list (pv 5) (pv 6) (fun _ _ => rfl)) (pv 8) set_list))))))
      (pss_one (ps_ret (pe_callTy call_tuple_of (by rfl) G.tuple (by decide +kernel) (pa_cons (pe_lc (own := [("row", 7)]) (g := gName 7) (tt := tYes) rfl sc.nd (pi_list (pv 5)) (blkOk_by (N := N__law_grid) (sc := defScope s__law_grid) (by decide +kernel)) (fun _ _ _ _ _ => (pg_name (i := 7) sc.nd rfl (Or.inl rfl))) (fun _ _ _ _ _ => pts_nil) (fun _ _ _ _ _ => (pe_joinK (K := K) rfl pe_str (pv 7)))) pa_nil))))))))), ?_⟩
    refine q_asg (W := W0) (ev_take (ew_deal rfl) ew_int) g0.ok hm fun a1_style v_style W1 g1 h_style hm => ?_
    have h_rows := PyI.st g1.st h_rows
    have h_columns := PyI.st g1.st h_columns
    have g0 := g0.trans g1
    refine q_asg (W := W1) (ew_ixL (ew_rd (ew_lst (eas_cons ew_int (eas_cons ew_int (eas_cons ew_int (eas_cons ew_int (eas_nil (α := Int)))))))) (ev_take (ew_deal rfl) ew_int)) g0.ok hm fun a2_chance v_chance W2 g2 h_chance hm => ?_
    have h_rows := PyI.st g2.st h_rows
    have h_columns := PyI.st g2.st h_columns
    have h_style := PyI.st g2.st h_style
    have g0 := g0.trans g2
    first | refine norm_st (σ' := [some (.ref d.p), some v_rows, some v_columns, some v_style, some v_chance, none, none, none, none, none, none]) rfl ?_ | skip
    refine q_asg (W := W2) (ew_gnil (α := Str)) g0.ok hm fun a3_grid v_grid W3 g3 ⟨fp_grid, ho0_grid, hf_grid⟩ hm => ?_
    have hz_grid : ∀ a ∈ fp_grid, W0.H a = none := fun a m => g0.live a (hf_grid a m).1
    have h_rows := PyI.st g3.st h_rows
    have h_columns := PyI.st g3.st h_columns
    have h_style := PyI.st g3.st h_style
    have h_chance := PyI.st g3.st h_chance
    have g0 := g0.trans g3
    have ho_grid : Var (kG Str) W0 W3 fp_grid a3_grid v_grid := ⟨ho0_grid, hz_grid, fun b m => (hf_grid b m).2.2⟩
    refine q_forR1 (W := W3) (ew_var (v := v_rows) rfl h_rows) g0.ok hm fun W4 g4 => ?_
    have h_rows := PyI.st g4.st h_rows
    have h_columns := PyI.st g4.st h_columns
    have h_style := PyI.st g4.st h_style
    have h_chance := PyI.st g4.st h_chance
    have ho_grid := ho_grid.go g00 g4
    have g0 := g0.trans g4
    refine ⟨fun y σ' W' => ∃ (v_grid : V) (fp_grid : List Addr) (o_r : Option V) (o_row : Option V) (o_c : Option V) (o_land : Option V), σ' = [some (.ref d.p), some v_rows, some v_columns, some v_style, some v_chance, some v_grid, o_r, o_row, o_c, o_land, none] ∧ Gw (efD d) W0 W' ∧ St W4 W' ∧ Var (kG Str) W0 W' fp_grid y v_grid, ⟨v_grid, fp_grid, _, _, _, _, rfl, g0, (St.refl _), ho_grid⟩, fun c4 y4 σi s2 Wi4 R4 nx4 ht hI hm kn4 kb4 kr4 => ?_, fun z4 σi Wi4 hI hm => ?_⟩
    ·
      obtain ⟨v_grid, fp_grid, o_r, o_row, o_c, o_land, rfl, g0, sl4, ho_grid⟩ := hI
      have h_rows := PyI.st sl4 h_rows
      have h_columns := PyI.st sl4 h_columns
      have h_style := PyI.st sl4 h_style
      have h_chance := PyI.st sl4 h_chance
      obtain ⟨v_r, rfl, h_r⟩ := ht
      refine q_asg (W := Wi4) (ew_lst (eas_nil (α := Str))) g0.ok hm fun a5_row v_row W5 g5 ⟨fp_row, ho0_row, hf_row⟩ hm => ?_
      have dj_grid_row : ∀ b ∈ fp_grid, b ∉ fp_row := fun b m z => (kG Str).live ho_grid.own b m (hf_row b z).1
      have hz_row : ∀ a ∈ fp_row, W0.H a = none := fun a m => g0.live a (hf_row a m).1
      have h_rows := PyI.st g5.st h_rows
      have h_columns := PyI.st g5.st h_columns
      have h_style := PyI.st g5.st h_style
      have h_chance := PyI.st g5.st h_chance
      have ho_grid := ho_grid.go g00 g5
      have h_r := PyI.st g5.st h_r
      have sl4 := sl4.trans g5.st
      have g0 := g0.trans g5
      have ho_row : Var (kL Str) W0 W5 fp_row a5_row v_row := ⟨ho0_row, hz_row, fun b m => (hf_row b m).2.2⟩
      first | refine norm_st (σ' := [some (.ref d.p), some v_rows, some v_columns, some v_style, some v_chance, some v_grid, some v_r, some v_row, o_c, o_land, none]) rfl ?_ | skip
      refine q_forR1 (W := W5) (ew_var (v := v_columns) rfl h_columns) g0.ok hm fun W6 g6 => ?_
      have h_rows := PyI.st g6.st h_rows
      have h_columns := PyI.st g6.st h_columns
      have h_style := PyI.st g6.st h_style
      have h_chance := PyI.st g6.st h_chance
      have ho_grid := ho_grid.go g00 g6
      have h_r := PyI.st g6.st h_r
      have ho_row := ho_row.go g00 g6
      have sl4 := sl4.trans g6.st
      have g0 := g0.trans g6
      refine ⟨fun y σ' W' => ∃ (v_row : V) (fp_row : List Addr) (o_c : Option V) (o_land : Option V), σ' = [some (.ref d.p), some v_rows, some v_columns, some v_style, some v_chance, some v_grid, some v_r, some v_row, o_c, o_land, none] ∧ Gw (efD d) W0 W' ∧ St W6 W' ∧ Var (kL Str) W0 W' fp_row y v_row ∧ Var (kG Str) W0 W' fp_grid y4 v_grid ∧ (∀ b ∈ fp_grid, b ∉ fp_row), ⟨v_row, fp_row, _, _, rfl, g0, (St.refl _), ho_row, ho_grid, dj_grid_row⟩, fun c6 y6 σi s2 Wi6 R6 nx6 ht hI hm kn6 kb6 kr6 => ?_, fun z6 σi Wi6 hI hm => ?_⟩
      ·
        obtain ⟨v_row, fp_row, o_c, o_land, rfl, g0, sl6, ho_row, ho_grid, dj_grid_row⟩ := hI
        have h_rows := PyI.st sl6 h_rows
        have h_columns := PyI.st sl6 h_columns
        have h_style := PyI.st sl6 h_style
        have h_chance := PyI.st sl6 h_chance
        have h_r := PyI.st sl6 h_r
        have sl4 := sl4.trans sl6
        obtain ⟨v_c, rfl, h_c⟩ := ht
        refine q_asg (W := Wi6) (ew_gt (ev_take (ew_deal rfl) (ew_var (v := v_chance) rfl h_chance)) ew_int) g0.ok hm fun a7_land v_land W7 g7 h_land hm => ?_
        have h_rows := PyI.st g7.st h_rows
        have h_columns := PyI.st g7.st h_columns
        have h_style := PyI.st g7.st h_style
        have h_chance := PyI.st g7.st h_chance
        have ho_grid := ho_grid.go g00 g7
        have h_r := PyI.st g7.st h_r
        have ho_row := ho_row.go g00 g7
        have h_c := PyI.st g7.st h_c
        have sl4 := sl4.trans g7.st
        have sl6 := sl6.trans g7.st
        have g0 := g0.trans g7
        refine q_join (W := W7) (s := Bool) (fun y σ' W' => ∃ (v_land : V), σ' = [some (.ref d.p), some v_rows, some v_columns, some v_style, some v_chance, some v_grid, some v_r, some v_row, some v_c, some v_land, none] ∧ Gw (efD d) W0 W' ∧ St W7 W' ∧ Rp W' y v_land ∧ Var (kG Str) W0 W' fp_grid y4 v_grid ∧ Var (kL Str) W0 W' fp_row y6 v_row) (et_t (ew_eq (ew_var (v := v_style) rfl h_style) ew_int)) g0.ok hm (fun y8 σj Wj8 hI hm => ?_) (fun W8 R8 g8 hm kj => ?_) (fun W8 R8 g8 hm kj => ?_)
        ·
          obtain ⟨v_land, rfl, g0, sj8, h_land, ho_grid, ho_row⟩ := hI
          have h_rows := PyI.st sj8 h_rows
          have h_columns := PyI.st sj8 h_columns
          have h_style := PyI.st sj8 h_style
          have h_chance := PyI.st sj8 h_chance
          have h_r := PyI.st sj8 h_r
          have h_c := PyI.st sj8 h_c
          have sl4 := sl4.trans sj8
          have sl6 := sl6.trans sj8
          refine q_join (W := Wj8) (s := Bool) (fun y σ' W' => ∃ (v_land : V), σ' = [some (.ref d.p), some v_rows, some v_columns, some v_style, some v_chance, some v_grid, some v_r, some v_row, some v_c, some v_land, none] ∧ Gw (efD d) W0 W' ∧ St Wj8 W' ∧ Rp W' y v_land ∧ Var (kG Str) W0 W' fp_grid y4 v_grid ∧ Var (kL Str) W0 W' fp_row y6 v_row) (et_t (ew_eq (ew_var (v := v_style) rfl h_style) ew_int)) g0.ok hm (fun y9 σj Wj9 hI hm => ?_) (fun W9 R9 g9 hm kj => ?_) (fun W9 R9 g9 hm kj => ?_)
          ·
            obtain ⟨v_land, rfl, g0, sj9, h_land, ho_grid, ho_row⟩ := hI
            have h_rows := PyI.st sj9 h_rows
            have h_columns := PyI.st sj9 h_columns
            have h_style := PyI.st sj9 h_style
            have h_chance := PyI.st sj9 h_chance
            have h_r := PyI.st sj9 h_r
            have h_c := PyI.st sj9 h_c
            have sl4 := sl4.trans sj9
            have sl6 := sl6.trans sj9
            refine q_join (W := Wj9) (s := Bool) (fun y σ' W' => ∃ (v_land : V), σ' = [some (.ref d.p), some v_rows, some v_columns, some v_style, some v_chance, some v_grid, some v_r, some v_row, some v_c, some v_land, none] ∧ Gw (efD d) W0 W' ∧ St Wj9 W' ∧ Rp W' y v_land ∧ Var (kG Str) W0 W' fp_grid y4 v_grid ∧ Var (kL Str) W0 W' fp_row y6 v_row) (et_t (ew_eq (ew_var (v := v_style) rfl h_style) ew_int)) g0.ok hm (fun y10 σj Wj10 hI hm => ?_) (fun W10 R10 g10 hm kj => ?_) (fun W10 R10 g10 hm kj => ?_)
            ·
              obtain ⟨v_land, rfl, g0, sj10, h_land, ho_grid, ho_row⟩ := hI
              have h_rows := PyI.st sj10 h_rows
              have h_columns := PyI.st sj10 h_columns
              have h_style := PyI.st sj10 h_style
              have h_chance := PyI.st sj10 h_chance
              have h_r := PyI.st sj10 h_r
              have h_c := PyI.st sj10 h_c
              have sl4 := sl4.trans sj10
              have sl6 := sl6.trans sj10
              refine q_join (W := Wj10) (s := Bool) (fun y σ' W' => ∃ (v_land : V), σ' = [some (.ref d.p), some v_rows, some v_columns, some v_style, some v_chance, some v_grid, some v_r, some v_row, some v_c, some v_land, none] ∧ Gw (efD d) W0 W' ∧ St Wj10 W' ∧ Rp W' y v_land ∧ Var (kG Str) W0 W' fp_grid y4 v_grid ∧ Var (kL Str) W0 W' fp_row y6 v_row) (et_t (ew_eq (ew_var (v := v_style) rfl h_style) ew_int)) g0.ok hm (fun y11 σj Wj11 hI hm => ?_) (fun W11 R11 g11 hm kj => ?_) (fun W11 R11 g11 hm kj => ?_)
              ·
                obtain ⟨v_land, rfl, g0, sj11, h_land, ho_grid, ho_row⟩ := hI
                have h_rows := PyI.st sj11 h_rows
                have h_columns := PyI.st sj11 h_columns
                have h_style := PyI.st sj11 h_style
                have h_chance := PyI.st sj11 h_chance
                have h_r := PyI.st sj11 h_r
                have h_c := PyI.st sj11 h_c
                have sl4 := sl4.trans sj11
                have sl6 := sl6.trans sj11
                refine st_app (W := Wj11) g00 g0 rfl ho_row (ew_ifE (et_B (ew_var (v := v_land) rfl h_land)) ew_str ew_str) hm fun a12_row W12_ W12 l_row el_row g12 s g02 kk ff ho_row hm => ?_
                have h_rows := PyI.st g12.st h_rows
                have h_columns := PyI.st g12.st h_columns
                have h_style := PyI.st g12.st h_style
                have h_chance := PyI.st g12.st h_chance
                have ho_grid := ho_grid.go g00 g12
                have h_r := PyI.st g12.st h_r
                have h_c := PyI.st g12.st h_c
                have h_land := PyI.st g12.st h_land
                have sl4 := sl4.trans g12.st
                have sl6 := sl6.trans g12.st
                have g0 := g0.trans g12
                have h_rows := PyI.st s h_rows
                have h_columns := PyI.st s h_columns
                have h_style := PyI.st s h_style
                have h_chance := PyI.st s h_chance
                have ho_grid := ho_grid.kept s kk ff dj_grid_row
                have h_r := PyI.st s h_r
                have h_c := PyI.st s h_c
                have h_land := PyI.st s h_land
                have sl4 := sl4.trans s
                have sl6 := sl6.trans s
                have g0 := g02
                exact kn6 a12_row _ W12 ⟨v_row, fp_row, _, _, rfl, g0, sl6, ho_row, ho_grid, dj_grid_row⟩ hm
              ·
                have h_rows := PyI.st g11.st h_rows
                have h_columns := PyI.st g11.st h_columns
                have h_style := PyI.st g11.st h_style
                have h_chance := PyI.st g11.st h_chance
                have ho_grid := ho_grid.go g00 g11
                have h_r := PyI.st g11.st h_r
                have ho_row := ho_row.go g00 g11
                have h_c := PyI.st g11.st h_c
                have h_land := PyI.st g11.st h_land
                have sl4 := sl4.trans g11.st
                have sl6 := sl6.trans g11.st
                have g0 := g0.trans g11
                have sj11 := g11.st
                refine st_asg (W := W11) (ew_orV (ew_eq (ew_mod (ew_var (v := v_r) rfl h_r) ew_int) ew_int) (ew_eq (ew_var (v := v_c) rfl h_c) (ew_ixL (ew_rd (ew_lst (eas_cons ew_int (eas_cons (ew_sub (ew_var (v := v_columns) rfl h_columns) ew_int) (eas_nil (α := Int)))))) (ew_mod (ew_fdiv (ew_var (v := v_r) rfl h_r) ew_int) ew_int)))) g0.ok hm fun a13_land v_land W13 g13 h_land hm => ?_
                have h_rows := PyI.st g13.st h_rows
                have h_columns := PyI.st g13.st h_columns
                have h_style := PyI.st g13.st h_style
                have h_chance := PyI.st g13.st h_chance
                have ho_grid := ho_grid.go g00 g13
                have h_r := PyI.st g13.st h_r
                have ho_row := ho_row.go g00 g13
                have h_c := PyI.st g13.st h_c
                have sl4 := sl4.trans g13.st
                have sl6 := sl6.trans g13.st
                have sj11 := sj11.trans g13.st
                have g0 := g0.trans g13
                exact kj a13_land _ W13 ⟨v_land, rfl, g0, sj11, h_land, ho_grid, ho_row⟩ hm
              ·
                have h_rows := PyI.st g11.st h_rows
                have h_columns := PyI.st g11.st h_columns
                have h_style := PyI.st g11.st h_style
                have h_chance := PyI.st g11.st h_chance
                have ho_grid := ho_grid.go g00 g11
                have h_r := PyI.st g11.st h_r
                have ho_row := ho_row.go g00 g11
                have h_c := PyI.st g11.st h_c
                have h_land := PyI.st g11.st h_land
                have sl4 := sl4.trans g11.st
                have sl6 := sl6.trans g11.st
                have g0 := g0.trans g11
                have sj11 := g11.st
                refine st_next ?_
                exact kj y10 _ W11 ⟨v_land, rfl, g0, sj11, h_land, ho_grid, ho_row⟩ hm
            ·
              have h_rows := PyI.st g10.st h_rows
              have h_columns := PyI.st g10.st h_columns
              have h_style := PyI.st g10.st h_style
              have h_chance := PyI.st g10.st h_chance
              have ho_grid := ho_grid.go g00 g10
              have h_r := PyI.st g10.st h_r
              have ho_row := ho_row.go g00 g10
              have h_c := PyI.st g10.st h_c
              have h_land := PyI.st g10.st h_land
              have sl4 := sl4.trans g10.st
              have sl6 := sl6.trans g10.st
              have g0 := g0.trans g10
              have sj10 := g10.st
              first | refine norm_st (σ' := [some (.ref d.p), some v_rows, some v_columns, some v_style, some v_chance, some v_grid, some v_r, some v_row, some v_c, some v_land, none]) rfl ?_ | skip
              refine st_asg (W := W10) (ew_eq (ew_mod (ew_add (ew_var (v := v_r) rfl h_r) (ew_var (v := v_c) rfl h_c)) ew_int) ew_int) g0.ok hm fun a14_land v_land W14 g14 h_land hm => ?_
              have h_rows := PyI.st g14.st h_rows
              have h_columns := PyI.st g14.st h_columns
              have h_style := PyI.st g14.st h_style
              have h_chance := PyI.st g14.st h_chance
              have ho_grid := ho_grid.go g00 g14
              have h_r := PyI.st g14.st h_r
              have ho_row := ho_row.go g00 g14
              have h_c := PyI.st g14.st h_c
              have sl4 := sl4.trans g14.st
              have sl6 := sl6.trans g14.st
              have sj10 := sj10.trans g14.st
              have g0 := g0.trans g14
              exact kj a14_land _ W14 ⟨v_land, rfl, g0, sj10, h_land, ho_grid, ho_row⟩ hm
            ·
              have h_rows := PyI.st g10.st h_rows
              have h_columns := PyI.st g10.st h_columns
              have h_style := PyI.st g10.st h_style
              have h_chance := PyI.st g10.st h_chance
              have ho_grid := ho_grid.go g00 g10
              have h_r := PyI.st g10.st h_r
              have ho_row := ho_row.go g00 g10
              have h_c := PyI.st g10.st h_c
              have h_land := PyI.st g10.st h_land
              have sl4 := sl4.trans g10.st
              have sl6 := sl6.trans g10.st
              have g0 := g0.trans g10
              have sj10 := g10.st
              refine st_next ?_
              exact kj y9 _ W10 ⟨v_land, rfl, g0, sj10, h_land, ho_grid, ho_row⟩ hm
          ·
            have h_rows := PyI.st g9.st h_rows
            have h_columns := PyI.st g9.st h_columns
            have h_style := PyI.st g9.st h_style
            have h_chance := PyI.st g9.st h_chance
            have ho_grid := ho_grid.go g00 g9
            have h_r := PyI.st g9.st h_r
            have ho_row := ho_row.go g00 g9
            have h_c := PyI.st g9.st h_c
            have h_land := PyI.st g9.st h_land
            have sl4 := sl4.trans g9.st
            have sl6 := sl6.trans g9.st
            have g0 := g0.trans g9
            have sj9 := g9.st
            refine st_asg (W := W9) (ew_eq (ew_mod (ew_min4 (ew_var (v := v_r) rfl h_r) (ew_var (v := v_c) rfl h_c) (ew_sub (ew_sub (ew_var (v := v_rows) rfl h_rows) ew_int) (ew_var (v := v_r) rfl h_r)) (ew_sub (ew_sub (ew_var (v := v_columns) rfl h_columns) ew_int) (ew_var (v := v_c) rfl h_c))) ew_int) ew_int) g0.ok hm fun a15_land v_land W15 g15 h_land hm => ?_
            have h_rows := PyI.st g15.st h_rows
            have h_columns := PyI.st g15.st h_columns
            have h_style := PyI.st g15.st h_style
            have h_chance := PyI.st g15.st h_chance
            have ho_grid := ho_grid.go g00 g15
            have h_r := PyI.st g15.st h_r
            have ho_row := ho_row.go g00 g15
            have h_c := PyI.st g15.st h_c
            have sl4 := sl4.trans g15.st
            have sl6 := sl6.trans g15.st
            have sj9 := sj9.trans g15.st
            have g0 := g0.trans g15
            exact kj a15_land _ W15 ⟨v_land, rfl, g0, sj9, h_land, ho_grid, ho_row⟩ hm
          ·
            have h_rows := PyI.st g9.st h_rows
            have h_columns := PyI.st g9.st h_columns
            have h_style := PyI.st g9.st h_style
            have h_chance := PyI.st g9.st h_chance
            have ho_grid := ho_grid.go g00 g9
            have h_r := PyI.st g9.st h_r
            have ho_row := ho_row.go g00 g9
            have h_c := PyI.st g9.st h_c
            have h_land := PyI.st g9.st h_land
            have sl4 := sl4.trans g9.st
            have sl6 := sl6.trans g9.st
            have g0 := g0.trans g9
            have sj9 := g9.st
            refine st_next ?_
            exact kj y8 _ W9 ⟨v_land, rfl, g0, sj9, h_land, ho_grid, ho_row⟩ hm
        ·
          have h_rows := PyI.st g8.st h_rows
          have h_columns := PyI.st g8.st h_columns
          have h_style := PyI.st g8.st h_style
          have h_chance := PyI.st g8.st h_chance
          have ho_grid := ho_grid.go g00 g8
          have h_r := PyI.st g8.st h_r
          have ho_row := ho_row.go g00 g8
          have h_c := PyI.st g8.st h_c
          have h_land := PyI.st g8.st h_land
          have sl4 := sl4.trans g8.st
          have sl6 := sl6.trans g8.st
          have g0 := g0.trans g8
          have sj8 := g8.st
          first | refine norm_st (σ' := [some (.ref d.p), some v_rows, some v_columns, some v_style, some v_chance, some v_grid, some v_r, some v_row, some v_c, some v_land, none]) rfl ?_ | skip
          refine st_asg (W := W8) (ew_eq (ev_take (ew_deal rfl) (ew_var (v := v_chance) rfl h_chance)) ew_int) g0.ok hm fun a16_land v_land W16 g16 h_land hm => ?_
          have h_rows := PyI.st g16.st h_rows
          have h_columns := PyI.st g16.st h_columns
          have h_style := PyI.st g16.st h_style
          have h_chance := PyI.st g16.st h_chance
          have ho_grid := ho_grid.go g00 g16
          have h_r := PyI.st g16.st h_r
          have ho_row := ho_row.go g00 g16
          have h_c := PyI.st g16.st h_c
          have sl4 := sl4.trans g16.st
          have sl6 := sl6.trans g16.st
          have sj8 := sj8.trans g16.st
          have g0 := g0.trans g16
          exact kj a16_land _ W16 ⟨v_land, rfl, g0, sj8, h_land, ho_grid, ho_row⟩ hm
        ·
          have h_rows := PyI.st g8.st h_rows
          have h_columns := PyI.st g8.st h_columns
          have h_style := PyI.st g8.st h_style
          have h_chance := PyI.st g8.st h_chance
          have ho_grid := ho_grid.go g00 g8
          have h_r := PyI.st g8.st h_r
          have ho_row := ho_row.go g00 g8
          have h_c := PyI.st g8.st h_c
          have h_land := PyI.st g8.st h_land
          have sl4 := sl4.trans g8.st
          have sl6 := sl6.trans g8.st
          have g0 := g0.trans g8
          have sj8 := g8.st
          refine st_next ?_
          exact kj a7_land _ W8 ⟨v_land, rfl, g0, sj8, h_land, ho_grid, ho_row⟩ hm
      ·
        obtain ⟨v_row, fp_row, o_c, o_land, rfl, g0, sl6, ho_row, ho_grid, dj_grid_row⟩ := hI
        have h_rows := PyI.st sl6 h_rows
        have h_columns := PyI.st sl6 h_columns
        have h_style := PyI.st sl6 h_style
        have h_chance := PyI.st sl6 h_chance
        have h_r := PyI.st sl6 h_r
        have sl4 := sl4.trans sl6
        refine st_gapp (W := Wi6) g00 g0 rfl rfl ho_grid ho_row dj_grid_row hm fun a17_grid W17 fp_grid hsub s g02 kk ff ho_grid hm => ?_
        have h_rows := PyI.st s h_rows
        have h_columns := PyI.st s h_columns
        have h_style := PyI.st s h_style
        have h_chance := PyI.st s h_chance
        have h_r := PyI.st s h_r
        have sl4 := sl4.trans s
        have g0 := g02
        exact kn4 a17_grid _ W17 ⟨v_grid, fp_grid, _, _, _, _, rfl, g0, sl4, ho_grid⟩ hm
    ·
      obtain ⟨v_grid, fp_grid, o_r, o_row, o_c, o_land, rfl, g0, sl4, ho_grid⟩ := hI
      have h_rows := PyI.st sl4 h_rows
      have h_columns := PyI.st sl4 h_columns
      have h_style := PyI.st sl4 h_style
      have h_chance := PyI.st sl4 h_chance
      refine q_forR1 (W := Wi4) (ev_take (ew_deal rfl) ew_int) g0.ok hm fun W18 g18 => ?_
      have h_rows := PyI.st g18.st h_rows
      have h_columns := PyI.st g18.st h_columns
      have h_style := PyI.st g18.st h_style
      have h_chance := PyI.st g18.st h_chance
      have ho_grid := ho_grid.go g00 g18
      have g0 := g0.trans g18
      refine ⟨fun y σ' W' => ∃ (v_grid : V) (fp_grid : List Addr) (o_r : Option V) (o_c : Option V) (o_k : Option V), σ' = [some (.ref d.p), some v_rows, some v_columns, some v_style, some v_chance, some v_grid, o_r, o_row, o_c, o_land, o_k] ∧ Gw (efD d) W0 W' ∧ St W18 W' ∧ Var (kG Str) W0 W' fp_grid y v_grid, ⟨v_grid, fp_grid, _, _, _, rfl, g0, (St.refl _), ho_grid⟩, fun c18 y18 σi s2 Wi18 R18 nx18 ht hI hm kn18 kb18 kr18 => ?_, fun z18 σi Wi18 hI hm => ?_⟩
      ·
        obtain ⟨v_grid, fp_grid, o_r, o_c, o_k, rfl, g0, sl18, ho_grid⟩ := hI
        have h_rows := PyI.st sl18 h_rows
        have h_columns := PyI.st sl18 h_columns
        have h_style := PyI.st sl18 h_style
        have h_chance := PyI.st sl18 h_chance
        obtain ⟨v_k, rfl, h_k⟩ := ht
        refine q_asg (W := Wi18) (ev_take (ew_deal rfl) (ew_var (v := v_rows) rfl h_rows)) g0.ok hm fun a19_r v_r W19 g19 h_r hm => ?_
        have h_rows := PyI.st g19.st h_rows
        have h_columns := PyI.st g19.st h_columns
        have h_style := PyI.st g19.st h_style
        have h_chance := PyI.st g19.st h_chance
        have ho_grid := ho_grid.go g00 g19
        have h_k := PyI.st g19.st h_k
        have sl18 := sl18.trans g19.st
        have g0 := g0.trans g19
        first | refine norm_st (σ' := [some (.ref d.p), some v_rows, some v_columns, some v_style, some v_chance, some v_grid, some v_r, o_row, o_c, o_land, some v_k]) rfl ?_ | skip
        refine q_asg (W := W19) (ev_take (ew_deal rfl) (ew_var (v := v_columns) rfl h_columns)) g0.ok hm fun a20_c v_c W20 g20 h_c hm => ?_
        have h_rows := PyI.st g20.st h_rows
        have h_columns := PyI.st g20.st h_columns
        have h_style := PyI.st g20.st h_style
        have h_chance := PyI.st g20.st h_chance
        have ho_grid := ho_grid.go g00 g20
        have h_r := PyI.st g20.st h_r
        have h_k := PyI.st g20.st h_k
        have sl18 := sl18.trans g20.st
        have g0 := g0.trans g20
        refine st_gset (W := W20) g00 g0 rfl ho_grid (ew_ifE (et_t (ew_eq (ew_ixL (ew_ixG (ew_varR (v := v_grid) rfl (Var.nS g00 ho_grid) ho_grid.own) (ew_var (v := v_r) rfl h_r)) (ew_var (v := v_c) rfl h_c)) ew_str)) ew_str ew_str) (ew_var (v := v_r) rfl h_r) (ew_var (v := v_c) rfl h_c) hm fun a21_grid W21_ W21 g21 s g02 kk ff ho_grid hm => ?_
        have h_rows := PyI.st g21.st h_rows
        have h_columns := PyI.st g21.st h_columns
        have h_style := PyI.st g21.st h_style
        have h_chance := PyI.st g21.st h_chance
        have h_r := PyI.st g21.st h_r
        have h_c := PyI.st g21.st h_c
        have h_k := PyI.st g21.st h_k
        have sl18 := sl18.trans g21.st
        have g0 := g0.trans g21
        have h_rows := PyI.st s h_rows
        have h_columns := PyI.st s h_columns
        have h_style := PyI.st s h_style
        have h_chance := PyI.st s h_chance
        have h_r := PyI.st s h_r
        have h_c := PyI.st s h_c
        have h_k := PyI.st s h_k
        have sl18 := sl18.trans s
        have g0 := g02
        exact kn18 a21_grid _ W21 ⟨v_grid, fp_grid, _, _, _, rfl, g0, sl18, ho_grid⟩ hm
      ·
        obtain ⟨v_grid, fp_grid, o_r, o_c, o_k, rfl, g0, sl18, ho_grid⟩ := hI
        have h_rows := PyI.st sl18 h_rows
        have h_columns := PyI.st sl18 h_columns
        have h_style := PyI.st sl18 h_style
        have h_chance := PyI.st sl18 h_chance
        first | refine norm_st (σ' := [some (.ref d.p), some v_rows, some v_columns, some v_style, some v_chance, some v_grid, o_r, o_row, o_c, o_land, o_k]) rfl ?_ | skip
        refine st_ret (W := Wi18) (ew_tuple (ew_rd (ew_lcG (ew_varR (v := v_grid) rfl (Var.nS g00 ho_grid) ho_grid.own) takes_R (fun _ _ _ h => by obtain ⟨v_row, fp_row, ec, hb_row, hS_row⟩ := h; subst ec; rfl) (fun c1 Wc1 s2 gc1 h => by obtain ⟨v_row, fp_row, ec, hb_row, hS_row⟩ := h; subst ec; have ho_grid := ho_grid.go g00 gc1; exact et_yes) (fun c1 Wc1 s2 gc1 h => by obtain ⟨v_row, fp_row, ec, hb_row, hS_row⟩ := h; subst ec; have ho_grid := ho_grid.go g00 gc1; exact (ew_join ew_str (ew_varR rfl hS_row hb_row)))))) g0.ok hm fun r22 v_ret W22 g22 hp hm => ?_
        exact hm v_ret W22 (g0.trans g22) rfl hp
abbrev s__law_chart : Stmt := top 33
abbrev N__law_chart : List Str := ["deal", "rows", "columns"]
abbrev P__law_chart : List Str := ["deal"]
theorem sc__law_chart : FnScope N__law_chart P__law_chart (defScope s__law_chart) := ⟨rfl, rfl, rfl, by decide +kernel, rfl, by decide +kernel, by decide +kernel⟩
def m__law_chart (_ : Unit) : WP (List Str) := (WP.add (WP.pure (1 : Int)) (WP.b2 (WP.pure ()) (WP.pure (7 : Int)) m_take)).bind fun a1_rows => (WP.add (WP.pure (1 : Int)) (WP.b2 (WP.pure ()) (WP.pure (7 : Int)) m_take)).bind fun a2_columns => ((WP.eq (WP.b2 (WP.pure ()) (WP.pure (10 : Int)) m_take) (WP.pure (0 : Int))).bind fun b => WP.cond b ((WP.add (WP.pure (1 : Int)) (WP.b2 (WP.pure ()) (WP.pure (12 : Int)) m_take)).bind fun a5_rows => (WP.add (WP.pure (1 : Int)) (WP.b2 (WP.pure ()) (WP.pure (12 : Int)) m_take)).bind fun a6_columns => (WP.pure (a5_rows, a6_columns))) ((WP.pure (a1_rows, a2_columns)))).bind fun (y3 : Int × Int) => (WP.b3 (WP.pure ()) (WP.pure y3.1) (WP.pure y3.2) m__law_grid).bind fun r4 => (WP.pure r4)
def sp__law_chart : Sp := fun vs H Q _ => ∃ (d : Dl) (W : Wo), vs = [.ref d.p] ∧ W.H = H ∧ Good (efD d) W ∧ (m__law_chart ()).run W.n fun n r => ∀ v W', Gw (efD d) W W' → W'.n = n → (sI (e := (efD d)) (α := (List Str))).post W W' r v → Q v W'.H
theorem ev__law_chart {d : Dl} {σ : L2.St} {W : Wo} {E : XK} {t0 : TE} {w0 : WP Unit} (h0 : EvW (efD d) t0 σ W (sD d) w0) : EvW (efD d) (tCall sp__law_chart [] E (tCons t0 tNil)) σ W (sI (α := (List Str))) (WP.b1 w0 m__law_chart) := ew_call1N h0 fun W2 b0 x0 g2 r0 Q q E => by
  cases r0
  exact ⟨d, W2, rfl, rfl, g2, WP.mono _ (fun n c h v W3 g3 hn p => h v W3 g3 hn p) q⟩
theorem ok__law_chart (F : At K mg "_law_chart" s__law_chart P__law_chart) (G : Glb mg) (H__law_grid : Has P w K mg base "_law_grid" 2 P__law_grid sp__law_grid) (H__law_take : Has P w K mg base "_law_take" 1 P__law_take sp_take) : Has P w K mg base "_law_chart" 3 P__law_chart sp__law_chart := by
  refine Has.of F sc__law_chart (fun vs H Q E h => ?_) (fun f cdv A outer s H0 vs Q E hr h => ?_)
  · obtain ⟨d, W0, rfl, _⟩ := h
    rfl
  · obtain ⟨d, W0, rfl, rfl, g00, hm⟩ := h
    have sc := sc__law_chart
    have g0 := Gw.refl g00
    unfold m__law_chart at hm
    refine ⟨_, (pss_cons (ps_set (i := 1) sc.nd rfl (Or.inl rfl) (pe_op op_add pe_int (pe_user H__law_take (hr.mono (by decide)) rfl (pa_cons (pv 0) (pa_cons pe_int pa_nil)))))
      (pss_cons (ps_set (i := 2) sc.nd rfl (Or.inl rfl) (pe_op op_add pe_int (pe_user H__law_take (hr.mono (by decide)) rfl (pa_cons (pv 0) (pa_cons pe_int pa_nil)))))
      (pss_cons (ps_if (pt_cmpR op_eq (pe_user H__law_take (hr.mono (by decide)) rfl (pa_cons (pv 0) (pa_cons pe_int pa_nil))) pe_int (nomark _)) (pss_cons (ps_set (i := 1) sc.nd rfl (Or.inl rfl) (pe_op op_add pe_int (pe_user H__law_take (hr.mono (by decide)) rfl (pa_cons (pv 0) (pa_cons pe_int pa_nil)))))
      (pss_one (ps_set (i := 2) sc.nd rfl (Or.inl rfl) (pe_op op_add pe_int (pe_user H__law_take (hr.mono (by decide)) rfl (pa_cons (pv 0) (pa_cons pe_int pa_nil))))))) pss_nil)
      (pss_one (ps_ret (pe_user H__law_grid (hr.mono (by decide)) rfl (pa_cons (pv 0) (pa_cons (pv 1) (pa_cons (pv 2) pa_nil))))))))), ?_⟩
    refine q_asg (W := W0) (ew_add ew_int (ev_take (ew_deal rfl) ew_int)) g0.ok hm fun a1_rows v_rows W1 g1 h_rows hm => ?_
    have g0 := g0.trans g1
    refine q_asg (W := W1) (ew_add ew_int (ev_take (ew_deal rfl) ew_int)) g0.ok hm fun a2_columns v_columns W2 g2 h_columns hm => ?_
    have h_rows := PyI.st g2.st h_rows
    have g0 := g0.trans g2
    first | refine norm_st (σ' := [some (.ref d.p), some v_rows, some v_columns]) rfl ?_ | skip
    refine q_join (W := W2) (s := Int × Int) (fun y σ' W' => ∃ (v_rows : V) (v_columns : V), σ' = [some (.ref d.p), some v_rows, some v_columns] ∧ Gw (efD d) W0 W' ∧ St W2 W' ∧ Rp W' y.1 v_rows ∧ Rp W' y.2 v_columns) (et_t (ew_eq (ev_take (ew_deal rfl) ew_int) ew_int)) g0.ok hm (fun y3 σj Wj3 hI hm => ?_) (fun W3 R3 g3 hm kj => ?_) (fun W3 R3 g3 hm kj => ?_)
    ·
      obtain ⟨v_rows, v_columns, rfl, g0, sj3, h_rows, h_columns⟩ := hI
      refine st_ret (W := Wj3) (ev__law_grid (ew_deal rfl) (ew_var (v := v_rows) rfl h_rows) (ew_var (v := v_columns) rfl h_columns)) g0.ok hm fun r4 v_ret W4 g4 hp hm => ?_
      exact hm v_ret W4 (g0.trans g4) rfl hp
    ·
      have h_rows := PyI.st g3.st h_rows
      have h_columns := PyI.st g3.st h_columns
      have g0 := g0.trans g3
      have sj3 := g3.st
      refine q_asg (W := W3) (ew_add ew_int (ev_take (ew_deal rfl) ew_int)) g0.ok hm fun a5_rows v_rows W5 g5 h_rows hm => ?_
      have h_columns := PyI.st g5.st h_columns
      have sj3 := sj3.trans g5.st
      have g0 := g0.trans g5
      refine st_asg (W := W5) (ew_add ew_int (ev_take (ew_deal rfl) ew_int)) g0.ok hm fun a6_columns v_columns W6 g6 h_columns hm => ?_
      have h_rows := PyI.st g6.st h_rows
      have sj3 := sj3.trans g6.st
      have g0 := g0.trans g6
      exact kj (a5_rows, a6_columns) _ W6 ⟨v_rows, v_columns, rfl, g0, sj3, h_rows, h_columns⟩ hm
    ·
      have h_rows := PyI.st g3.st h_rows
      have h_columns := PyI.st g3.st h_columns
      have g0 := g0.trans g3
      have sj3 := g3.st
      refine st_next ?_
      exact kj (a1_rows, a2_columns) _ W3 ⟨v_rows, v_columns, rfl, g0, sj3, h_rows, h_columns⟩ hm
abbrev s__law_at : Stmt := top 34
abbrev N__law_at : List Str := ["chart", "r", "c"]
abbrev P__law_at : List Str := ["chart", "r", "c"]
theorem sc__law_at : FnScope N__law_at P__law_at (defScope s__law_at) := ⟨rfl, rfl, rfl, by decide +kernel, rfl, by decide +kernel, by decide +kernel⟩
def m__law_at (a_chart : (List Str)) (a_r : Int) (a_c : Int) : WP Bool := (WP.and (WP.chain (fun i j => decide (i ≤ j)) (fun i j => decide (i < j)) (WP.pure (0 : Int)) (WP.pure a_r) (WP.len (WP.pure a_chart))) (WP.and (WP.chain (fun i j => decide (i ≤ j)) (fun i j => decide (i < j)) (WP.pure (0 : Int)) (WP.pure a_c) (WP.lenS (WP.ix (WP.pure a_chart) (WP.pure (0 : Int))))) (WP.eq (WP.ixS (WP.ix (WP.pure a_chart) (WP.pure a_r)) (WP.pure a_c)) (WP.pure (Str.ofString "x"))))).bind fun r1 => (WP.pure r1)
def sp__law_at : Sp := fun vs H Q _ => ∃ (W : Wo) (a_chart : (List Str)) (a_r : Int) (a_c : Int) (v_chart v_r v_c : V), vs = [v_chart, v_r, v_c] ∧ W.H = H ∧ Good ef0 W ∧ Rp W a_chart v_chart ∧ Rp W a_r v_r ∧ Rp W a_c v_c ∧ (m__law_at a_chart a_r a_c).run W.n fun n r => ∀ v W', Gw ef0 W W' → W'.n = n → (sI (e := ef0) (α := Bool)).post W W' r v → Q v W'.H
theorem ev__law_at {e : Ef} {σ : L2.St} {W : Wo} {E : XK} {t0 t1 t2 : TE} {w0 : WP (List Str)} {w1 : WP Int} {w2 : WP Int} (h0 : EvW e t0 σ W sI w0) (h1 : EvW e t1 σ W sI w1) (h2 : EvW e t2 σ W sI w2) : EvW e (tCall sp__law_at [] E (tCons t0 (tCons t1 (tCons t2 tNil)))) σ W (sI (α := Bool)) (WP.b3 w0 w1 w2 m__law_at) := ew_call3N h0 h1 h2 fun W2 b0 b1 b2 x0 x1 x2 g2 r0 r1 r2 Q q E => by
  exact ⟨W2, b0, b1, b2, x0, x1, x2, rfl, rfl, g2.z, r0, r1, r2, WP.mono _ (fun n c h v W3 g3 hn p => h v W3 (Gw.up g2 g3) hn p) q⟩
theorem ok__law_at (F : At K mg "_law_at" s__law_at P__law_at) (G : Glb mg)  : Has P w K mg base "_law_at" 1 P__law_at sp__law_at := by
  refine Has.of F sc__law_at (fun vs H Q E h => ?_) (fun f cdv A outer s H0 vs Q E hr h => ?_)
  · obtain ⟨W0, a_chart, a_r, a_c, v_chart, v_r, v_c, rfl, _⟩ := h
    rfl
  · obtain ⟨W0, a_chart, a_r, a_c, v_chart, v_r, v_c, rfl, rfl, g00, h_chart, h_r, h_c, hm⟩ := h
    have sc := sc__law_at
    have g0 := Gw.refl g00
    unfold m__law_at at hm
    refine ⟨_, (pss_one (ps_ret (pe_and (pe_chain op_le op_lt pe_int (pv 1) (pe_callB call_len_seq (by rfl) G.len PySem.boot_len (pa_cons (pv 0) pa_nil))) (pe_and (pe_chain op_le op_lt pe_int (pv 2) (pe_callB call_len_str (by rfl) G.len PySem.boot_len (pa_cons (pe_ix ix_tup (pv 0) pe_int (fun _ _ => rfl)) pa_nil))) (pe_one (pe_cmpR op_eq (pe_ix ix_str (pe_ix ix_tup (pv 0) (pv 1) (fun _ _ => rfl)) (pv 2) (fun _ _ => rfl)) pe_str (nomark _))))))), ?_⟩
    first | refine norm_st (σ' := [some v_chart, some v_r, some v_c]) rfl ?_ | skip
    refine st_ret (W := W0) (ew_andV (ew_chain (C := fun i j => decide (i ≤ j)) (C' := fun i j => decide (i < j)) ew_int (ew_var (v := v_r) rfl h_r) (ew_lenT (ew_var (v := v_chart) rfl h_chart))) (ew_andV (ew_chain (C := fun i j => decide (i ≤ j)) (C' := fun i j => decide (i < j)) ew_int (ew_var (v := v_c) rfl h_c) (ew_lenS (ew_ixT (ew_var (v := v_chart) rfl h_chart) ew_int))) (ew_eq (ew_ixS (ew_ixT (ew_var (v := v_chart) rfl h_chart) (ew_var (v := v_r) rfl h_r)) (ew_var (v := v_c) rfl h_c)) ew_str))) g0.ok hm fun r1 v_ret W1 g1 hp hm => ?_
    exact hm v_ret W1 (g0.trans g1) rfl hp
abbrev s__law_all : Stmt := top 36
abbrev N__law_all : List Str := ["chart", "found", "r", "c"]
abbrev P__law_all : List Str := ["chart"]
theorem sc__law_all : FnScope N__law_all P__law_all (defScope s__law_all) := ⟨rfl, rfl, rfl, by decide +kernel, rfl, by decide +kernel, by decide +kernel⟩
def m__law_all (a_chart : (List Str)) : WP (List Sq) := (WP.row (WP.pure ([] : List Sq))).bind fun a1_found => (WP.range1 (WP.len (WP.pure a_chart))).bind fun xs2 => WP.after (WP.loop (γ := (List Sq)) (fun c2 (y2 : (List Sq)) => (WP.range1 (WP.lenS (WP.ix (WP.pure a_chart) (WP.pure (0 : Int))))).bind fun xs3 => WP.after (WP.loop (γ := (List Sq)) (fun c3 (y3 : (List Sq)) => ((WP.pair (WP.pure c2) (WP.pure c3)).bind fun a => WP.req (y3.length < 100000) (y3 ++ [a])).bind fun a4_found => (WP.pure (.nx a4_found))) xs3 y2) (fun (z3 : (List Sq)) => (WP.pure (.nx z3))) (fun r => (WP.pure (.rt r)))) xs2 a1_found) (fun (z2 : (List Sq)) => (WP.pure z2)) (fun r => (WP.pure r))
def sp__law_all : Sp := fun vs H Q _ => ∃ (W : Wo) (a_chart : (List Str)) (v_chart : V), vs = [v_chart] ∧ W.H = H ∧ Good ef0 W ∧ Rp W a_chart v_chart ∧ (m__law_all a_chart).run W.n fun n r => ∀ v W', Gw ef0 W W' → W'.n = n → (sN (e := ef0) (kL Sq)).post W W' r v → Q v W'.H
theorem ev__law_all {e : Ef} {σ : L2.St} {W : Wo} {E : XK} {t0 : TE} {w0 : WP (List Str)} (h0 : EvW e t0 σ W sI w0) : EvW e (tCall sp__law_all [] E (tCons t0 tNil)) σ W (sN (kL Sq)) (WP.b1 w0 m__law_all) := ew_call1N h0 fun W2 b0 x0 g2 r0 Q q E => by
  exact ⟨W2, b0, x0, rfl, rfl, g2.z, r0, WP.mono _ (fun n c h v W3 g3 hn p => h v W3 (Gw.up g2 g3) hn (sN_up g2 p)) q⟩
theorem ok__law_all (F : At K mg "_law_all" s__law_all P__law_all) (G : Glb mg)  : Has P w K mg base "_law_all" 1 P__law_all sp__law_all := by
  refine Has.of F sc__law_all (fun vs H Q E h => ?_) (fun f cdv A outer s H0 vs Q E hr h => ?_)
  · obtain ⟨W0, a_chart, v_chart, rfl, _⟩ := h
    rfl
  · obtain ⟨W0, a_chart, v_chart, rfl, rfl, g00, h_chart, hm⟩ := h
    have sc := sc__law_all
    have g0 := Gw.refl g00
    unfold m__law_all at hm
    refine ⟨_, (pss_cons (ps_set (i := 1) sc.nd rfl (Or.inl rfl) (pe_lst pa_nil))
      (pss_cons (ps_for PassesOwn.never rfl (pi_range1 rfl G.range (pa_cons (pe_callB call_len_seq (by rfl) G.len PySem.boot_len (pa_cons (pv 0) pa_nil)) pa_nil)) (pg_name (i := 2) sc.nd rfl (Or.inl rfl))
      (pss_one (ps_for PassesOwn.never rfl (pi_range1 rfl G.range (pa_cons (pe_callB call_len_str (by rfl) G.len PySem.boot_len (pa_cons (pe_ix ix_tup (pv 0) pe_int (fun _ _ => rfl)) pa_nil)) pa_nil)) (pg_name (i := 3) sc.nd rfl (Or.inl rfl))
      (pss_one (ps_expr (pe_bm PySem.F.plainAttrs_list PySem.F.slot_list_append PySem.F.type_list_append mt_append (pv 1) (pa_cons (pe_tup (pa_cons (pv 2) (pa_cons (pv 3) pa_nil))) pa_nil)))))))
      (pss_one (ps_ret (pv 1))))), ?_⟩
    refine q_asg (W := W0) (ew_lst (eas_nil (α := Sq))) g0.ok hm fun a1_found v_found W1 g1 ⟨fp_found, ho0_found, hf_found⟩ hm => ?_
    have hz_found : ∀ a ∈ fp_found, W0.H a = none := fun a m => g0.live a (hf_found a m).1
    have h_chart := PyI.st g1.st h_chart
    have g0 := g0.trans g1
    have ho_found : Var (kL Sq) W0 W1 fp_found a1_found v_found := ⟨ho0_found, hz_found, fun b m => (hf_found b m).2.2⟩
    refine q_forR1 (W := W1) (ew_lenT (ew_var (v := v_chart) rfl h_chart)) g0.ok hm fun W2 g2 => ?_
    have h_chart := PyI.st g2.st h_chart
    have ho_found := ho_found.go g00 g2
    have g0 := g0.trans g2
    refine ⟨fun y σ' W' => ∃ (v_found : V) (fp_found : List Addr) (o_r : Option V) (o_c : Option V), σ' = [some v_chart, some v_found, o_r, o_c] ∧ Gw ef0 W0 W' ∧ St W2 W' ∧ Var (kL Sq) W0 W' fp_found y v_found, ⟨v_found, fp_found, _, _, rfl, g0, (St.refl _), ho_found⟩, fun c2 y2 σi s2 Wi2 R2 nx2 ht hI hm kn2 kb2 kr2 => ?_, fun z2 σi Wi2 hI hm => ?_⟩
    ·
      obtain ⟨v_found, fp_found, o_r, o_c, rfl, g0, sl2, ho_found⟩ := hI
      have h_chart := PyI.st sl2 h_chart
      obtain ⟨v_r, rfl, h_r⟩ := ht
      refine st_forR1 (W := Wi2) (ew_lenS (ew_ixT (ew_var (v := v_chart) rfl h_chart) ew_int)) g0.ok hm fun W3 g3 => ?_
      have h_chart := PyI.st g3.st h_chart
      have ho_found := ho_found.go g00 g3
      have h_r := PyI.st g3.st h_r
      have sl2 := sl2.trans g3.st
      have g0 := g0.trans g3
      refine ⟨fun y σ' W' => ∃ (v_found : V) (fp_found : List Addr) (o_c : Option V), σ' = [some v_chart, some v_found, some v_r, o_c] ∧ Gw ef0 W0 W' ∧ St W3 W' ∧ Var (kL Sq) W0 W' fp_found y v_found, ⟨v_found, fp_found, _, rfl, g0, (St.refl _), ho_found⟩, fun c3 y3 σi s2 Wi3 R3 nx3 ht hI hm kn3 kb3 kr3 => ?_, fun z3 σi Wi3 hI hm => ?_⟩
      ·
        obtain ⟨v_found, fp_found, o_c, rfl, g0, sl3, ho_found⟩ := hI
        have h_chart := PyI.st sl3 h_chart
        have h_r := PyI.st sl3 h_r
        have sl2 := sl2.trans sl3
        obtain ⟨v_c, rfl, h_c⟩ := ht
        refine st_app (W := Wi3) g00 g0 rfl ho_found (ew_pair (ew_var (v := v_r) rfl h_r) (ew_var (v := v_c) rfl h_c)) hm fun a4_found W4_ W4 l_found el_found g4 s g02 kk ff ho_found hm => ?_
        have h_chart := PyI.st g4.st h_chart
        have h_r := PyI.st g4.st h_r
        have h_c := PyI.st g4.st h_c
        have sl2 := sl2.trans g4.st
        have sl3 := sl3.trans g4.st
        have g0 := g0.trans g4
        have h_chart := PyI.st s h_chart
        have h_r := PyI.st s h_r
        have h_c := PyI.st s h_c
        have sl2 := sl2.trans s
        have sl3 := sl3.trans s
        have g0 := g02
        exact kn3 a4_found _ W4 ⟨v_found, fp_found, _, rfl, g0, sl3, ho_found⟩ hm
      ·
        obtain ⟨v_found, fp_found, o_c, rfl, g0, sl3, ho_found⟩ := hI
        have h_chart := PyI.st sl3 h_chart
        have h_r := PyI.st sl3 h_r
        have sl2 := sl2.trans sl3
        exact kn2 z3 _ Wi3 ⟨v_found, fp_found, _, _, rfl, g0, sl2, ho_found⟩ hm
    ·
      obtain ⟨v_found, fp_found, o_r, o_c, rfl, g0, sl2, ho_found⟩ := hI
      have h_chart := PyI.st sl2 h_chart
      exact ⟨_, rfl, hm _ Wi2 g0 rfl ⟨fp_found, ho_found.own, fun b m => ⟨ho_found.fr b m, Var.nS g00 ho_found b m, ho_found.nF b m⟩⟩⟩
abbrev s__law_dry : Stmt := top 35
abbrev N__law_dry : List Str := ["chart", "r", "c"]
abbrev P__law_dry : List Str := ["chart"]
theorem sc__law_dry : FnScope N__law_dry P__law_dry (defScope s__law_dry) := ⟨rfl, rfl, rfl, by decide +kernel, rfl, by decide +kernel, by decide +kernel⟩
def m__law_dry (a_chart : (List Str)) : WP (List Sq) := (WP.lc (WP.b1 (WP.pure a_chart) m__law_all) (fun c1 => (WP.eq (WP.ixS (WP.ix (WP.pure a_chart) (WP.pure c1.1)) (WP.pure c1.2)) (WP.pure (Str.ofString "x")))) (fun c1 => (WP.pair (WP.pure c1.1) (WP.pure c1.2)))).bind fun r1 => (WP.pure r1)
def sp__law_dry : Sp := fun vs H Q _ => ∃ (W : Wo) (a_chart : (List Str)) (v_chart : V), vs = [v_chart] ∧ W.H = H ∧ Good ef0 W ∧ Rp W a_chart v_chart ∧ (m__law_dry a_chart).run W.n fun n r => ∀ v W', Gw ef0 W W' → W'.n = n → (sN (e := ef0) (kL Sq)).post W W' r v → Q v W'.H
theorem ev__law_dry {e : Ef} {σ : L2.St} {W : Wo} {E : XK} {t0 : TE} {w0 : WP (List Str)} (h0 : EvW e t0 σ W sI w0) : EvW e (tCall sp__law_dry [] E (tCons t0 tNil)) σ W (sN (kL Sq)) (WP.b1 w0 m__law_dry) := ew_call1N h0 fun W2 b0 x0 g2 r0 Q q E => by
  exact ⟨W2, b0, x0, rfl, rfl, g2.z, r0, WP.mono _ (fun n c h v W3 g3 hn p => h v W3 (Gw.up g2 g3) hn (sN_up g2 p)) q⟩
theorem ok__law_dry (F : At K mg "_law_dry" s__law_dry P__law_dry) (G : Glb mg) (H__law_all : Has P w K mg base "_law_all" 1 P__law_all sp__law_all) : Has P w K mg base "_law_dry" 2 P__law_dry sp__law_dry := by
  refine Has.of F sc__law_dry (fun vs H Q E h => ?_) (fun f cdv A outer s H0 vs Q E hr h => ?_)
  · obtain ⟨W0, a_chart, v_chart, rfl, _⟩ := h
    rfl
  · obtain ⟨W0, a_chart, v_chart, rfl, rfl, g00, h_chart, hm⟩ := h
    have sc := sc__law_dry
    have g0 := Gw.refl g00
    unfold m__law_dry at hm
    refine ⟨_, (pss_one (ps_ret (pe_lc (own := [("r", 1), ("c", 2)]) (g := gTup K 2 (gCons (gName 1) (gCons (gName 2) gNil))) rfl sc.nd (pi_list (pe_user H__law_all (hr.mono (by decide)) rfl (pa_cons (pv 0) pa_nil))) (blkOk_by (N := N__law_dry) (sc := defScope s__law_dry) (by decide +kernel)) (fun _ _ _ _ _ => (pg_tup rfl (pgs_cons (pg_name (i := 1) sc.nd rfl (Or.inl rfl)) (pgs_cons (pg_name (i := 2) sc.nd rfl (Or.inl rfl)) pgs_nil)))) (fun _ _ _ _ _ => (pts_one (pt_cmpR op_eq (pe_ix ix_str (pe_ix (ix_tupK (K := K) rfl) (pv 0) (pv 1) (fun _ _ => rfl)) (pv 2) (fun _ _ => rfl)) pe_str (nomark _)))) (fun _ _ _ _ _ => (pe_tup (pa_cons (pv 1) (pa_cons (pv 2) pa_nil))))))), ?_⟩
    refine st_ret (W := W0) (ew_lcL (ew_rd (ev__law_all (ew_var (v := v_chart) rfl h_chart))) takes_P (fun _ _ _ h => by obtain ⟨v_r, v_c, ec, h_r, h_c⟩ := h; subst ec; rfl) (fun c1 Wc1 s2 gc1 h => by obtain ⟨v_r, v_c, ec, h_r, h_c⟩ := h; subst ec; have h_chart := PyI.st gc1.st h_chart; exact (et_t (ew_eq (ew_ixS (ew_ixT (ew_var (v := v_chart) rfl h_chart) (ew_var (v := v_r) rfl h_r)) (ew_var (v := v_c) rfl h_c)) ew_str))) (fun c1 Wc1 s2 gc1 h => by obtain ⟨v_r, v_c, ec, h_r, h_c⟩ := h; subst ec; have h_chart := PyI.st gc1.st h_chart; exact (ew_pair (ew_var (v := v_r) rfl h_r) (ew_var (v := v_c) rfl h_c)))) g0.ok hm fun r1 v_ret W1 g1 hp hm => ?_
    exact hm v_ret W1 (g0.trans g1) rfl ((sN (kL Sq)).back g0 hp)
abbrev s__law_sides : Stmt := top 37
abbrev N__law_sides : List Str := ["square", "r", "c"]
abbrev P__law_sides : List Str := ["square"]
theorem sc__law_sides : FnScope N__law_sides P__law_sides (defScope s__law_sides) := ⟨rfl, rfl, rfl, by decide +kernel, rfl, by decide +kernel, by decide +kernel⟩
def m__law_sides (a_square : Sq) : WP (List Sq) := (WP.pure a_square).bind fun a1_r_c => (WP.row (WP.consE (WP.pair (WP.sub (WP.pure a1_r_c.1) (WP.pure (1 : Int))) (WP.pure a1_r_c.2)) (WP.consE (WP.pair (WP.pure a1_r_c.1) (WP.sub (WP.pure a1_r_c.2) (WP.pure (1 : Int)))) (WP.consE (WP.pair (WP.pure a1_r_c.1) (WP.add (WP.pure a1_r_c.2) (WP.pure (1 : Int)))) (WP.consE (WP.pair (WP.add (WP.pure a1_r_c.1) (WP.pure (1 : Int))) (WP.pure a1_r_c.2)) (WP.pure ([] : List Sq))))))).bind fun r2 => (WP.pure r2)
def sp__law_sides : Sp := fun vs H Q _ => ∃ (W : Wo) (a_square : Sq) (v_square : V), vs = [v_square] ∧ W.H = H ∧ Good ef0 W ∧ Rp W a_square v_square ∧ (m__law_sides a_square).run W.n fun n r => ∀ v W', Gw ef0 W W' → W'.n = n → (sN (e := ef0) (kL Sq)).post W W' r v → Q v W'.H
theorem ev__law_sides {e : Ef} {σ : L2.St} {W : Wo} {E : XK} {t0 : TE} {w0 : WP Sq} (h0 : EvW e t0 σ W sI w0) : EvW e (tCall sp__law_sides [] E (tCons t0 tNil)) σ W (sN (kL Sq)) (WP.b1 w0 m__law_sides) := ew_call1N h0 fun W2 b0 x0 g2 r0 Q q E => by
  exact ⟨W2, b0, x0, rfl, rfl, g2.z, r0, WP.mono _ (fun n c h v W3 g3 hn p => h v W3 (Gw.up g2 g3) hn (sN_up g2 p)) q⟩
theorem ok__law_sides (F : At K mg "_law_sides" s__law_sides P__law_sides) (G : Glb mg)  : Has P w K mg base "_law_sides" 1 P__law_sides sp__law_sides := by
  refine Has.of F sc__law_sides (fun vs H Q E h => ?_) (fun f cdv A outer s H0 vs Q E hr h => ?_)
  · obtain ⟨W0, a_square, v_square, rfl, _⟩ := h
    rfl
  · obtain ⟨W0, a_square, v_square, rfl, rfl, g00, h_square, hm⟩ := h
    have sc := sc__law_sides
    have g0 := Gw.refl g00
    unfold m__law_sides at hm
    refine ⟨_, (pss_cons (ps_asg (pv 0) (pg_tup rfl (pgs_cons (pg_name (i := 1) sc.nd rfl (Or.inl rfl)) (pgs_cons (pg_name (i := 2) sc.nd rfl (Or.inl rfl)) pgs_nil))))
      (pss_one (ps_ret (pe_lst (pa_cons (pe_tup (pa_cons (pe_op op_sub (pv 1) pe_int) (pa_cons (pv 2) pa_nil))) (pa_cons (pe_tup (pa_cons (pv 1) (pa_cons (pe_op op_sub (pv 2) pe_int) pa_nil))) (pa_cons (pe_tup (pa_cons (pv 1) (pa_cons (pe_op op_add (pv 2) pe_int) pa_nil))) (pa_cons (pe_tup (pa_cons (pe_op op_add (pv 1) pe_int) (pa_cons (pv 2) pa_nil))) pa_nil)))))))), ?_⟩
    refine q_un2 (W := W0) (ew_var (v := v_square) rfl h_square) g0.ok hm fun a1_r_c v_r v_c W1 g1 h_r h_c hm => ?_
    have h_square := PyI.st g1.st h_square
    have g0 := g0.trans g1
    first | refine norm_st (σ' := [some v_square, some v_r, some v_c]) rfl ?_ | skip
    refine st_ret (W := W1) (ew_lst (eas_cons (ew_pair (ew_sub (ew_var (v := v_r) rfl h_r) ew_int) (ew_var (v := v_c) rfl h_c)) (eas_cons (ew_pair (ew_var (v := v_r) rfl h_r) (ew_sub (ew_var (v := v_c) rfl h_c) ew_int)) (eas_cons (ew_pair (ew_var (v := v_r) rfl h_r) (ew_add (ew_var (v := v_c) rfl h_c) ew_int)) (eas_cons (ew_pair (ew_add (ew_var (v := v_r) rfl h_r) ew_int) (ew_var (v := v_c) rfl h_c)) (eas_nil (α := Sq))))))) g0.ok hm fun r2 v_ret W2 g2 hp hm => ?_
    exact hm v_ret W2 (g0.trans g2) rfl ((sN (kL Sq)).back g0 hp)
abbrev s__law_around : Stmt := top 38
abbrev N__law_around : List Str := ["square", "r", "c", "found", "down", "right"]
abbrev P__law_around : List Str := ["square"]
theorem sc__law_around : FnScope N__law_around P__law_around (defScope s__law_around) := ⟨rfl, rfl, rfl, by decide +kernel, rfl, by decide +kernel, by decide +kernel⟩
def m__law_around (a_square : Sq) : WP (List Sq) := (WP.pure a_square).bind fun a1_r_c => (WP.row (WP.pure ([] : List Sq))).bind fun a2_found => (WP.row (WP.consE (WP.neg (WP.pure (1 : Int))) (WP.consE (WP.pure (0 : Int)) (WP.consE (WP.pure (1 : Int)) (WP.pure ([] : List Int)))))).bind fun xs3 => WP.after (WP.loop (γ := (List Sq)) (fun c3 (y3 : (List Sq)) => (WP.row (WP.consE (WP.neg (WP.pure (1 : Int))) (WP.consE (WP.pure (0 : Int)) (WP.consE (WP.pure (1 : Int)) (WP.pure ([] : List Int)))))).bind fun xs4 => WP.after (WP.loop (γ := (List Sq)) (fun c4 (y4 : (List Sq)) => ((WP.or (WP.ne (WP.pure c3) (WP.pure (0 : Int))) (WP.ne (WP.pure c4) (WP.pure (0 : Int)))).bind fun b => WP.cond b (((WP.pair (WP.add (WP.pure a1_r_c.1) (WP.pure c3)) (WP.add (WP.pure a1_r_c.2) (WP.pure c4))).bind fun a => WP.req (y4.length < 100000) (y4 ++ [a])).bind fun a6_found => (WP.pure a6_found)) ((WP.pure y4))).bind fun (y5 : (List Sq)) => (WP.pure (.nx y5))) xs4 y3) (fun (z4 : (List Sq)) => (WP.pure (.nx z4))) (fun r => (WP.pure (.rt r)))) xs3 a2_found) (fun (z3 : (List Sq)) => (WP.pure z3)) (fun r => (WP.pure r))
def sp__law_around : Sp := fun vs H Q _ => ∃ (W : Wo) (a_square : Sq) (v_square : V), vs = [v_square] ∧ W.H = H ∧ Good ef0 W ∧ Rp W a_square v_square ∧ (m__law_around a_square).run W.n fun n r => ∀ v W', Gw ef0 W W' → W'.n = n → (sN (e := ef0) (kL Sq)).post W W' r v → Q v W'.H
theorem ev__law_around {e : Ef} {σ : L2.St} {W : Wo} {E : XK} {t0 : TE} {w0 : WP Sq} (h0 : EvW e t0 σ W sI w0) : EvW e (tCall sp__law_around [] E (tCons t0 tNil)) σ W (sN (kL Sq)) (WP.b1 w0 m__law_around) := ew_call1N h0 fun W2 b0 x0 g2 r0 Q q E => by
  exact ⟨W2, b0, x0, rfl, rfl, g2.z, r0, WP.mono _ (fun n c h v W3 g3 hn p => h v W3 (Gw.up g2 g3) hn (sN_up g2 p)) q⟩
theorem ok__law_around (F : At K mg "_law_around" s__law_around P__law_around) (G : Glb mg)  : Has P w K mg base "_law_around" 1 P__law_around sp__law_around := by
  refine Has.of F sc__law_around (fun vs H Q E h => ?_) (fun f cdv A outer s H0 vs Q E hr h => ?_)
  · obtain ⟨W0, a_square, v_square, rfl, _⟩ := h
    rfl
  · obtain ⟨W0, a_square, v_square, rfl, rfl, g00, h_square, hm⟩ := h
    have sc := sc__law_around
    have g0 := Gw.refl g00
    unfold m__law_around at hm
    refine ⟨_, (pss_cons (ps_asg (pv 0) (pg_tup rfl (pgs_cons (pg_name (i := 1) sc.nd rfl (Or.inl rfl)) (pgs_cons (pg_name (i := 2) sc.nd rfl (Or.inl rfl)) pgs_nil))))
      (pss_cons (ps_set (i := 3) sc.nd rfl (Or.inl rfl) (pe_lst pa_nil))
      (pss_cons (ps_for PassesOwn.never rfl (pi_list (pe_lst (pa_cons (pe_un un_neg pe_int) (pa_cons pe_int (pa_cons pe_int pa_nil))))) (pg_name (i := 4) sc.nd rfl (Or.inl rfl))
      (pss_one (ps_for PassesOwn.never rfl (pi_list (pe_lst (pa_cons (pe_un un_neg pe_int) (pa_cons pe_int (pa_cons pe_int pa_nil))))) (pg_name (i := 5) sc.nd rfl (Or.inl rfl))
      (pss_one (ps_if (PW.pt (pw_or (pt_cmpR op_ne (pv 4) pe_int (nomark _)) (pw_or1 (pt_cmpR op_ne (pv 5) pe_int (nomark _))))) (pss_one (ps_expr (pe_bm PySem.F.plainAttrs_list PySem.F.slot_list_append PySem.F.type_list_append mt_append (pv 3) (pa_cons (pe_tup (pa_cons (pe_op op_add (pv 1) (pv 4)) (pa_cons (pe_op op_add (pv 2) (pv 5)) pa_nil))) pa_nil)))) pss_nil)))))
      (pss_one (ps_ret (pv 3)))))), ?_⟩
    refine q_un2 (W := W0) (ew_var (v := v_square) rfl h_square) g0.ok hm fun a1_r_c v_r v_c W1 g1 h_r h_c hm => ?_
    have h_square := PyI.st g1.st h_square
    have g0 := g0.trans g1
    first | refine norm_st (σ' := [some v_square, some v_r, some v_c, none, none, none]) rfl ?_ | skip
    refine q_asg (W := W1) (ew_lst (eas_nil (α := Sq))) g0.ok hm fun a2_found v_found W2 g2 ⟨fp_found, ho0_found, hf_found⟩ hm => ?_
    have hz_found : ∀ a ∈ fp_found, W0.H a = none := fun a m => g0.live a (hf_found a m).1
    have h_square := PyI.st g2.st h_square
    have h_r := PyI.st g2.st h_r
    have h_c := PyI.st g2.st h_c
    have g0 := g0.trans g2
    have ho_found : Var (kL Sq) W0 W2 fp_found a2_found v_found := ⟨ho0_found, hz_found, fun b m => (hf_found b m).2.2⟩
    refine q_forN (W := W2) tk_N (ew_lst (eas_cons (ew_neg ew_int) (eas_cons ew_int (eas_cons ew_int (eas_nil (α := Int)))))) g0.ok hm fun xs3 p_it3 vs_it3 W3 g3 hn_it3 hF_it3 hp_it3 hr_it3 => ?_
    have dj_it3_found : ∀ b ∈ [p_it3], b ∉ fp_found := fun b m z => by cases mem_one m; exact (kL Sq).live ho_found.own _ z hn_it3
    have nS_it3 : ¬ ef0.S p_it3 := fun z => g0.ok.S _ z hn_it3
    have h_square := PyI.st g3.st h_square
    have h_r := PyI.st g3.st h_r
    have h_c := PyI.st g3.st h_c
    have ho_found := ho_found.go g00 g3
    have g0 := g0.trans g3
    refine ⟨fun y σ' W' => ∃ (v_found : V) (fp_found : List Addr) (o_down : Option V) (o_right : Option V), σ' = [some v_square, some v_r, some v_c, some v_found, o_down, o_right] ∧ Gw ef0 W0 W' ∧ St W3 W' ∧ Var (kL Sq) W0 W' fp_found y v_found ∧ W'.H p_it3 = some (.lst vs_it3) ∧ (∀ b ∈ [p_it3], b ∉ fp_found), ⟨v_found, fp_found, _, _, rfl, g0, (St.refl _), ho_found, hp_it3, dj_it3_found⟩, fun _ _ _ hI => ?_, fun c3 y3 σi s2 Wi3 R3 nx3 ht hI hm kn3 kb3 kr3 => ?_, fun z3 σi Wi3 hI hm => ?_⟩
    · obtain ⟨v_found, fp_found, o_down, o_right, rfl, g0, sl3, ho_found, hp_it3, dj_it3_found⟩ := hI
      exact ⟨sl3, hp_it3⟩
    ·
      obtain ⟨v_found, fp_found, o_down, o_right, rfl, g0, sl3, ho_found, hp_it3, dj_it3_found⟩ := hI
      have h_square := PyI.st sl3 h_square
      have h_r := PyI.st sl3 h_r
      have h_c := PyI.st sl3 h_c
      obtain ⟨v_down, rfl, h_down⟩ := ht
      refine st_forN (W := Wi3) tk_N (ew_lst (eas_cons (ew_neg ew_int) (eas_cons ew_int (eas_cons ew_int (eas_nil (α := Int)))))) g0.ok hm fun xs4 p_it4 vs_it4 W4 g4 hn_it4 hF_it4 hp_it4 hr_it4 => ?_
      have dj_it4_found : ∀ b ∈ [p_it4], b ∉ fp_found := fun b m z => by cases mem_one m; exact (kL Sq).live ho_found.own _ z hn_it4
      have nS_it4 : ¬ ef0.S p_it4 := fun z => g0.ok.S _ z hn_it4
      have h_square := PyI.st g4.st h_square
      have h_r := PyI.st g4.st h_r
      have h_c := PyI.st g4.st h_c
      have ho_found := ho_found.go g00 g4
      have h_down := PyI.st g4.st h_down
      have sl3 := sl3.trans g4.st
      have hp_it3 := g4.keep _ _ hp_it3 nS_it3
      have g0 := g0.trans g4
      refine ⟨fun y σ' W' => ∃ (v_found : V) (fp_found : List Addr) (o_right : Option V), σ' = [some v_square, some v_r, some v_c, some v_found, some v_down, o_right] ∧ Gw ef0 W0 W' ∧ St W4 W' ∧ Var (kL Sq) W0 W' fp_found y v_found ∧ W'.H p_it3 = some (.lst vs_it3) ∧ W'.H p_it4 = some (.lst vs_it4) ∧ (∀ b ∈ [p_it3], b ∉ fp_found) ∧ (∀ b ∈ [p_it4], b ∉ fp_found), ⟨v_found, fp_found, _, rfl, g0, (St.refl _), ho_found, hp_it3, hp_it4, dj_it3_found, dj_it4_found⟩, fun _ _ _ hI => ?_, fun c4 y4 σi s2 Wi4 R4 nx4 ht hI hm kn4 kb4 kr4 => ?_, fun z4 σi Wi4 hI hm => ?_⟩
      · obtain ⟨v_found, fp_found, o_right, rfl, g0, sl4, ho_found, hp_it3, hp_it4, dj_it3_found, dj_it4_found⟩ := hI
        exact ⟨sl4, hp_it4⟩
      ·
        obtain ⟨v_found, fp_found, o_right, rfl, g0, sl4, ho_found, hp_it3, hp_it4, dj_it3_found, dj_it4_found⟩ := hI
        have h_square := PyI.st sl4 h_square
        have h_r := PyI.st sl4 h_r
        have h_c := PyI.st sl4 h_c
        have h_down := PyI.st sl4 h_down
        have sl3 := sl3.trans sl4
        obtain ⟨v_right, rfl, h_right⟩ := ht
        refine st_join (W := Wi4) (s := (List Sq)) (fun y σ' W' => ∃ (v_found : V) (fp_found : List Addr), σ' = [some v_square, some v_r, some v_c, some v_found, some v_down, some v_right] ∧ Gw ef0 W0 W' ∧ St Wi4 W' ∧ Var (kL Sq) W0 W' fp_found y v_found ∧ W'.H p_it3 = some (.lst vs_it3) ∧ W'.H p_it4 = some (.lst vs_it4) ∧ (∀ b ∈ [p_it3], b ∉ fp_found) ∧ (∀ b ∈ [p_it4], b ∉ fp_found)) (et_or (et_t (ew_ne (ew_var (v := v_down) rfl h_down) ew_int)) (et_t (ew_ne (ew_var (v := v_right) rfl h_right) ew_int))) g0.ok hm (fun y5 σj Wj5 hI hm => ?_) (fun W5 R5 g5 hm kj => ?_) (fun W5 R5 g5 hm kj => ?_)
        ·
          obtain ⟨v_found, fp_found, rfl, g0, sj5, ho_found, hp_it3, hp_it4, dj_it3_found, dj_it4_found⟩ := hI
          have h_square := PyI.st sj5 h_square
          have h_r := PyI.st sj5 h_r
          have h_c := PyI.st sj5 h_c
          have h_down := PyI.st sj5 h_down
          have h_right := PyI.st sj5 h_right
          have sl3 := sl3.trans sj5
          have sl4 := sl4.trans sj5
          exact kn4 y5 _ Wj5 ⟨v_found, fp_found, _, rfl, g0, sl4, ho_found, hp_it3, hp_it4, dj_it3_found, dj_it4_found⟩ hm
        ·
          have h_square := PyI.st g5.st h_square
          have h_r := PyI.st g5.st h_r
          have h_c := PyI.st g5.st h_c
          have ho_found := ho_found.go g00 g5
          have h_down := PyI.st g5.st h_down
          have h_right := PyI.st g5.st h_right
          have sl3 := sl3.trans g5.st
          have sl4 := sl4.trans g5.st
          have hp_it3 := g5.keep _ _ hp_it3 nS_it3
          have hp_it4 := g5.keep _ _ hp_it4 nS_it4
          have g0 := g0.trans g5
          have sj5 := g5.st
          refine st_app (W := W5) g00 g0 rfl ho_found (ew_pair (ew_add (ew_var (v := v_r) rfl h_r) (ew_var (v := v_down) rfl h_down)) (ew_add (ew_var (v := v_c) rfl h_c) (ew_var (v := v_right) rfl h_right))) hm fun a6_found W6_ W6 l_found el_found g6 s g02 kk ff ho_found hm => ?_
          have h_square := PyI.st g6.st h_square
          have h_r := PyI.st g6.st h_r
          have h_c := PyI.st g6.st h_c
          have h_down := PyI.st g6.st h_down
          have h_right := PyI.st g6.st h_right
          have sl3 := sl3.trans g6.st
          have sl4 := sl4.trans g6.st
          have sj5 := sj5.trans g6.st
          have hp_it3 := g6.keep _ _ hp_it3 nS_it3
          have hp_it4 := g6.keep _ _ hp_it4 nS_it4
          have g0 := g0.trans g6
          have h_square := PyI.st s h_square
          have h_r := PyI.st s h_r
          have h_c := PyI.st s h_c
          have h_down := PyI.st s h_down
          have h_right := PyI.st s h_right
          have sl3 := sl3.trans s
          have sl4 := sl4.trans s
          have sj5 := sj5.trans s
          have hp_it3 := kk [p_it3] _ Kp.refl dj_it3_found _ (List.mem_singleton.mpr rfl) _ hp_it3
          have hp_it4 := kk [p_it4] _ Kp.refl dj_it4_found _ (List.mem_singleton.mpr rfl) _ hp_it4
          have g0 := g02
          exact kj a6_found _ W6 ⟨v_found, fp_found, rfl, g0, sj5, ho_found, hp_it3, hp_it4, dj_it3_found, dj_it4_found⟩ hm
        ·
          have h_square := PyI.st g5.st h_square
          have h_r := PyI.st g5.st h_r
          have h_c := PyI.st g5.st h_c
          have ho_found := ho_found.go g00 g5
          have h_down := PyI.st g5.st h_down
          have h_right := PyI.st g5.st h_right
          have sl3 := sl3.trans g5.st
          have sl4 := sl4.trans g5.st
          have hp_it3 := g5.keep _ _ hp_it3 nS_it3
          have hp_it4 := g5.keep _ _ hp_it4 nS_it4
          have g0 := g0.trans g5
          have sj5 := g5.st
          refine st_next ?_
          exact kj y4 _ W5 ⟨v_found, fp_found, rfl, g0, sj5, ho_found, hp_it3, hp_it4, dj_it3_found, dj_it4_found⟩ hm
      ·
        obtain ⟨v_found, fp_found, o_right, rfl, g0, sl4, ho_found, hp_it3, hp_it4, dj_it3_found, dj_it4_found⟩ := hI
        have h_square := PyI.st sl4 h_square
        have h_r := PyI.st sl4 h_r
        have h_c := PyI.st sl4 h_c
        have h_down := PyI.st sl4 h_down
        have sl3 := sl3.trans sl4
        exact kn3 z4 _ Wi4 ⟨v_found, fp_found, _, _, rfl, g0, sl3, ho_found, hp_it3, dj_it3_found⟩ hm
    ·
      obtain ⟨v_found, fp_found, o_down, o_right, rfl, g0, sl3, ho_found, hp_it3, dj_it3_found⟩ := hI
      have h_square := PyI.st sl3 h_square
      have h_r := PyI.st sl3 h_r
      have h_c := PyI.st sl3 h_c
      exact ⟨_, rfl, hm _ Wi3 g0 rfl ⟨fp_found, ho_found.own, fun b m => ⟨ho_found.fr b m, Var.nS g00 ho_found b m, ho_found.nF b m⟩⟩⟩
abbrev s__law_spread : Stmt := top 39
abbrev N__law_spread : List Str := ["squares", "start", "wide", "known", "square", "met", "at", "near"]
abbrev P__law_spread : List Str := ["squares", "start", "wide"]
theorem sc__law_spread : FnScope N__law_spread P__law_spread (defScope s__law_spread) := ⟨rfl, rfl, rfl, by decide +kernel, rfl, by decide +kernel, by decide +kernel⟩
def m__law_spread (a_squares : (List Sq)) (a_start : Sq) (a_wide : Bool) : WP (List Sq) := (WP.pure ([] : (List (Sq × Bool)))).bind fun a1_known => WP.after (WP.loop (γ := (List Sq)) (fun c2 (y2 : (List (Sq × Bool))) => (WP.b2 (WP.pure false) (WP.pure c2) fun b q => WP.req (y2.length < 100000) (putQ y2 q b)).bind fun a3_known => (WP.pure (.nx a3_known))) a_squares a1_known) (fun (z2 : (List (Sq × Bool))) => (WP.row (WP.consE (WP.pure a_start) (WP.pure ([] : List Sq)))).bind fun a4_met => (WP.b2 (WP.pure true) (WP.pure a_start) fun b q => WP.req (z2.length < 100000) (putQ z2 q b)).bind fun a5_known => (WP.range1 (WP.pure (3000 : Int))).bind fun xs6 => WP.after (WP.loop (γ := (List Sq)) (fun c6 (y6 : (List (Sq × Bool)) × (List Sq)) => ((WP.lt (WP.pure c6) (WP.len (WP.pure y6.2))).bind fun b => WP.cond b (((WP.ite (WP.pure a_wide) (WP.b1 (WP.ix (WP.pure y6.2) (WP.pure c6)) m__law_around) (WP.b1 (WP.ix (WP.pure y6.2) (WP.pure c6)) m__law_sides)).bind fun xs => WP.pure (⟨xs⟩ : (Ls Sq))).bind fun a8_near => ((WP.pure a8_near).bind fun x => WP.pure x.l).bind fun xs9 => WP.after (WP.loop (γ := (List Sq)) (fun c9 (y9 : (List (Sq × Bool)) × (List Sq)) => ((WP.and (WP.din (WP.pure c9) (WP.pure y9.1)) (WP.not (WP.dget (WP.pure y9.1) (WP.pure c9)))).bind fun b => WP.cond b ((WP.b2 (WP.pure true) (WP.pure c9) fun b q => WP.req (y9.1.length < 100000) (putQ y9.1 q b)).bind fun a11_known => ((WP.pure c9).bind fun a => WP.req (y9.2.length < 100000) (y9.2 ++ [a])).bind fun a12_met => (WP.pure (a11_known, a12_met))) ((WP.pure (y9.1, y9.2)))).bind fun (y10 : (List (Sq × Bool)) × (List Sq)) => (WP.pure (.nx (y10.1, y10.2)))) xs9 (y6.1, y6.2)) (fun (z9 : (List (Sq × Bool)) × (List Sq)) => (WP.pure (z9.1, z9.2))) (fun r => (WP.none (b := r)))) ((WP.pure (y6.1, y6.2)))).bind fun (y7 : (List (Sq × Bool)) × (List Sq)) => (WP.pure (.nx (y7.1, y7.2)))) xs6 (a5_known, a4_met)) (fun (z6 : (List (Sq × Bool)) × (List Sq)) => (WP.pure z6.2)) (fun r => (WP.pure r))) (fun r => (WP.pure r))
def sp__law_spread : Sp := fun vs H Q _ => ∃ (W : Wo) (a_squares : (List Sq)) (a_start : Sq) (a_wide : Bool) (v_squares v_start v_wide : V) (fp_squares : List Addr), vs = [v_squares, v_start, v_wide] ∧ W.H = H ∧ Good ef0 W ∧ (kL Sq).own W fp_squares a_squares v_squares ∧ (∀ a ∈ fp_squares, ¬ ef0.S a) ∧ Rp W a_start v_start ∧ Rp W a_wide v_wide ∧ (m__law_spread a_squares a_start a_wide).run W.n fun n r => ∀ v W', Gw ef0 W W' → W'.n = n → (sN (e := ef0) (kL Sq)).post W W' r v → Q v W'.H
theorem ev__law_spread {e : Ef} {σ : L2.St} {W : Wo} {E : XK} {t0 t1 t2 : TE} {w0 : WP (List Sq)} {w1 : WP Sq} {w2 : WP Bool} (h0 : EvW e t0 σ W (sR (kL Sq)) w0) (h1 : EvW e t1 σ W sI w1) (h2 : EvW e t2 σ W sI w2) : EvW e (tCall sp__law_spread [] E (tCons t0 (tCons t1 (tCons t2 tNil)))) σ W (sN (kL Sq)) (WP.b3 w0 w1 w2 m__law_spread) := ew_call3N h0 h1 h2 fun W2 b0 b1 b2 x0 x1 x2 g2 ⟨fp0, r0, s0⟩ r1 r2 Q q E => by
  exact ⟨W2, b0, b1, b2, x0, x1, x2, fp0, rfl, rfl, g2.z, r0, fun _ _ z => z, r1, r2, WP.mono _ (fun n c h v W3 g3 hn p => h v W3 (Gw.up g2 g3) hn (sN_up g2 p)) q⟩
theorem ok__law_spread (F : At K mg "_law_spread" s__law_spread P__law_spread) (G : Glb mg) (H__law_around : Has P w K mg base "_law_around" 1 P__law_around sp__law_around) (H__law_sides : Has P w K mg base "_law_sides" 1 P__law_sides sp__law_sides) : Has P w K mg base "_law_spread" 2 P__law_spread sp__law_spread := by
  refine Has.of F sc__law_spread (fun vs H Q E h => ?_) (fun f cdv A outer s H0 vs Q E hr h => ?_)
  · obtain ⟨W0, a_squares, a_start, a_wide, v_squares, v_start, v_wide, fp_squares, rfl, _⟩ := h
    rfl
  · obtain ⟨W0, a_squares, a_start, a_wide, v_squares, v_start, v_wide, fp_squares, rfl, rfl, g00, hb_squares, hS_squares, h_start, h_wide, hm⟩ := h
    have sc := sc__law_spread
    have g0 := Gw.refl g00
    have hl_squares := (kL Sq).live hb_squares
    have hb0_squares := hb_squares
    unfold m__law_spread at hm
    refine ⟨_, (pss_cons (ps_set (i := 3) sc.nd rfl (Or.inl rfl) pe_dnewT)
      (pss_cons (ps_for PassesOwn.never rfl (pi_list (pv 0)) (pg_name (i := 4) sc.nd rfl (Or.inl rfl))
      (pss_one (ps_dput (hu_of hr) (pv 3) (pv 4) pe_bl rfl)))
      (pss_cons (ps_set (i := 5) sc.nd rfl (Or.inl rfl) (pe_lst (pa_cons (pv 1) pa_nil)))
      (pss_cons (ps_dput (hu_of hr) (pv 3) (pv 1) pe_bl rfl)
      (pss_cons (ps_for PassesOwn.never rfl (pi_range1 rfl G.range (pa_cons pe_int pa_nil)) (pg_name (i := 6) sc.nd rfl (Or.inl rfl))
      (pss_one (ps_if (pt_cmpR op_lt (pv 6) (pe_callB call_len_seq (by rfl) G.len PySem.boot_len (pa_cons (pv 5) pa_nil)) (nomark _)) (pss_cons (ps_set (i := 7) sc.nd rfl (Or.inl rfl) (pe_ifExp (pt_val (pv 2)) (pe_user H__law_around (hr.mono (by decide)) rfl (pa_cons (pe_ix ix_list (pv 5) (pv 6) (fun _ _ => rfl)) pa_nil)) (pe_user H__law_sides (hr.mono (by decide)) rfl (pa_cons (pe_ix ix_list (pv 5) (pv 6) (fun _ _ => rfl)) pa_nil))))
      (pss_one (ps_for PassesOwn.never rfl (pi_list (pv 7)) (pg_name (i := 4) sc.nd rfl (Or.inl rfl))
      (pss_one (ps_if (PW.pt (pw_and (pt_cmp (pc_din (hu_of hr) (pv 4) (pv 3))) (pw_and1 (pt_not (pt_val (pe_dget (hu_of hr) (pv 3) (pv 4) (fun _ _ => rfl))))))) (pss_cons (ps_dput (hu_of hr) (pv 3) (pv 4) pe_bl rfl)
      (pss_one (ps_expr (pe_bm PySem.F.plainAttrs_list PySem.F.slot_list_append PySem.F.type_list_append mt_append (pv 5) (pa_cons (pv 4) pa_nil))))) pss_nil))))) pss_nil)))
      (pss_one (ps_ret (pv 5)))))))), ?_⟩
    refine q_asg (W := W0) (ew_dnew (β := Bool)) g0.ok hm fun a1_known v_known W1 g1 ⟨fp_known, ho0_known, hf_known⟩ hm => ?_
    have hz_known : ∀ a ∈ fp_known, W0.H a = none := fun a m => g0.live a (hf_known a m).1
    have hb_squares := Kd.go g1 hS_squares hb_squares
    have h_start := PyI.st g1.st h_start
    have h_wide := PyI.st g1.st h_wide
    have g0 := g0.trans g1
    have ho_known : Var (kD Bool) W0 W1 fp_known a1_known v_known := ⟨ho0_known, hz_known, fun b m => (hf_known b m).2.2⟩
    first | refine norm_st (σ' := [some v_squares, some v_start, some v_wide, some v_known, none, none, none, none]) rfl ?_ | skip
    obtain ⟨p_it2, vs_it2, ef_it2, ev_it2, hp_it2, hr_it2⟩ := own_list hb_squares
    have nS_it2 := hS_squares p_it2 (by rw [ef_it2]; exact List.mem_singleton.mpr rfl)
    have dj_it2_known : ∀ b ∈ [p_it2], b ∉ fp_known := fun b m z => hl_squares b (by rw [ef_it2]; exact m) (ho_known.fr b z)
    refine q_forV (W := W1) tk_N (by rw [← ev_it2]; rfl) hp_it2 hr_it2 hm (fun y σ' W' => ∃ (v_known : V) (fp_known : List Addr) (o_square : Option V), σ' = [some v_squares, some v_start, some v_wide, some v_known, o_square, none, none, none] ∧ Gw ef0 W0 W' ∧ St W1 W' ∧ Var (kD Bool) W0 W' fp_known y v_known ∧ W'.H p_it2 = some (.lst vs_it2) ∧ (∀ b ∈ [p_it2], b ∉ fp_known)) ⟨v_known, fp_known, _, rfl, g0, (St.refl _), ho_known, hp_it2, dj_it2_known⟩ (fun _ _ _ hI => ?_) (fun c2 y2 σi s2 Wi2 R2 nx2 ht hI hm kn2 kb2 kr2 => ?_) (fun z2 σi Wi2 hI hm => ?_)
    · obtain ⟨v_known, fp_known, o_square, rfl, g0, sl2, ho_known, hp_it2, dj_it2_known⟩ := hI
      exact ⟨sl2, hp_it2⟩
    ·
      obtain ⟨v_known, fp_known, o_square, rfl, g0, sl2, ho_known, hp_it2, dj_it2_known⟩ := hI
      have hb_squares := Kd.go g0 hS_squares hb0_squares
      have h_start := PyI.st sl2 h_start
      have h_wide := PyI.st sl2 h_wide
      obtain ⟨v_square, rfl, h_square⟩ := ht
      refine st_dput (W := Wi2) g00 g0 rfl ho_known ew_bl (ew_var (v := v_square) rfl h_square) hm fun a3_known W3_ W3 l_known el_known g3 s g02 kk ff ho_known hm => ?_
      have hb_squares := Kd.go g3 hS_squares hb_squares
      have h_start := PyI.st g3.st h_start
      have h_wide := PyI.st g3.st h_wide
      have h_square := PyI.st g3.st h_square
      have sl2 := sl2.trans g3.st
      have hp_it2 := g3.keep _ _ hp_it2 nS_it2
      have g0 := g0.trans g3
      have hb_squares := Kd.st _ s (kk fp_squares _ Kp.refl fun b m z => hl_squares b m (ho_known.fr b z)) hb_squares
      have h_start := PyI.st s h_start
      have h_wide := PyI.st s h_wide
      have h_square := PyI.st s h_square
      have sl2 := sl2.trans s
      have hp_it2 := kk [p_it2] _ Kp.refl dj_it2_known _ (List.mem_singleton.mpr rfl) _ hp_it2
      have g0 := g02
      exact kn2 a3_known _ W3 ⟨v_known, fp_known, _, rfl, g0, sl2, ho_known, hp_it2, dj_it2_known⟩ hm
    ·
      obtain ⟨v_known, fp_known, o_square, rfl, g0, sl2, ho_known, hp_it2, dj_it2_known⟩ := hI
      have hb_squares := Kd.go g0 hS_squares hb0_squares
      have h_start := PyI.st sl2 h_start
      have h_wide := PyI.st sl2 h_wide
      refine q_asg (W := Wi2) (ew_lst (eas_cons (ew_var (v := v_start) rfl h_start) (eas_nil (α := Sq)))) g0.ok hm fun a4_met v_met W4 g4 ⟨fp_met, ho0_met, hf_met⟩ hm => ?_
      have dj_known_met : ∀ b ∈ fp_known, b ∉ fp_met := fun b m z => (kD Bool).live ho_known.own b m (hf_met b z).1
      have hz_met : ∀ a ∈ fp_met, W0.H a = none := fun a m => g0.live a (hf_met a m).1
      have hb_squares := Kd.go g4 hS_squares hb_squares
      have h_start := PyI.st g4.st h_start
      have h_wide := PyI.st g4.st h_wide
      have ho_known := ho_known.go g00 g4
      have g0 := g0.trans g4
      have ho_met : Var (kL Sq) W0 W4 fp_met a4_met v_met := ⟨ho0_met, hz_met, fun b m => (hf_met b m).2.2⟩
      first | refine norm_st (σ' := [some v_squares, some v_start, some v_wide, some v_known, o_square, some v_met, none, none]) rfl ?_ | skip
      refine q_dput (W := W4) g00 g0 rfl ho_known ew_bl (ew_var (v := v_start) rfl h_start) hm fun a5_known W5_ W5 l_known el_known g5 s g02 kk ff ho_known hm => ?_
      have hb_squares := Kd.go g5 hS_squares hb_squares
      have h_start := PyI.st g5.st h_start
      have h_wide := PyI.st g5.st h_wide
      have ho_met := ho_met.go g00 g5
      have g0 := g0.trans g5
      have hb_squares := Kd.st _ s (kk fp_squares _ Kp.refl fun b m z => hl_squares b m (ho_known.fr b z)) hb_squares
      have h_start := PyI.st s h_start
      have h_wide := PyI.st s h_wide
      have ho_met := ho_met.kept s kk ff (fun b m z => dj_known_met b z m)
      have g0 := g02
      refine q_forR1 (W := W5) ew_int g0.ok hm fun W6 g6 => ?_
      have hb_squares := Kd.go g6 hS_squares hb_squares
      have h_start := PyI.st g6.st h_start
      have h_wide := PyI.st g6.st h_wide
      have ho_known := ho_known.go g00 g6
      have ho_met := ho_met.go g00 g6
      have g0 := g0.trans g6
      refine ⟨fun y σ' W' => ∃ (v_known : V) (fp_known : List Addr) (v_met : V) (fp_met : List Addr) (o_square : Option V) (o_at : Option V) (o_near : Option V), σ' = [some v_squares, some v_start, some v_wide, some v_known, o_square, some v_met, o_at, o_near] ∧ Gw ef0 W0 W' ∧ St W6 W' ∧ Var (kD Bool) W0 W' fp_known y.1 v_known ∧ Var (kL Sq) W0 W' fp_met y.2 v_met ∧ (∀ b ∈ fp_known, b ∉ fp_met), ⟨v_known, fp_known, v_met, fp_met, _, _, _, rfl, g0, (St.refl _), ho_known, ho_met, dj_known_met⟩, fun c6 y6 σi s2 Wi6 R6 nx6 ht hI hm kn6 kb6 kr6 => ?_, fun z6 σi Wi6 hI hm => ?_⟩
      ·
        obtain ⟨v_known, fp_known, v_met, fp_met, o_square, o_at, o_near, rfl, g0, sl6, ho_known, ho_met, dj_known_met⟩ := hI
        have hb_squares := Kd.go g0 hS_squares hb0_squares
        have h_start := PyI.st sl6 h_start
        have h_wide := PyI.st sl6 h_wide
        obtain ⟨v_at, rfl, h_at⟩ := ht
        refine st_join (W := Wi6) (s := (List (Sq × Bool)) × (List Sq)) (fun y σ' W' => ∃ (v_known : V) (fp_known : List Addr) (v_met : V) (fp_met : List Addr) (o_square : Option V) (o_near : Option V), σ' = [some v_squares, some v_start, some v_wide, some v_known, o_square, some v_met, some v_at, o_near] ∧ Gw ef0 W0 W' ∧ St Wi6 W' ∧ Var (kD Bool) W0 W' fp_known y.1 v_known ∧ Var (kL Sq) W0 W' fp_met y.2 v_met ∧ (∀ b ∈ fp_known, b ∉ fp_met)) (et_t (ew_lt (ew_var (v := v_at) rfl h_at) (ew_lenL (ew_varR (v := v_met) rfl (Var.nS g00 ho_met) ho_met.own)))) g0.ok hm (fun y7 σj Wj7 hI hm => ?_) (fun W7 R7 g7 hm kj => ?_) (fun W7 R7 g7 hm kj => ?_)
        ·
          obtain ⟨v_known, fp_known, v_met, fp_met, o_square, o_near, rfl, g0, sj7, ho_known, ho_met, dj_known_met⟩ := hI
          have hb_squares := Kd.go g0 hS_squares hb0_squares
          have h_start := PyI.st sj7 h_start
          have h_wide := PyI.st sj7 h_wide
          have h_at := PyI.st sj7 h_at
          have sl6 := sl6.trans sj7
          exact kn6 (y7.1, y7.2) _ Wj7 ⟨v_known, fp_known, v_met, fp_met, _, _, _, rfl, g0, sl6, ho_known, ho_met, dj_known_met⟩ hm
        ·
          have hb_squares := Kd.go g7 hS_squares hb_squares
          have h_start := PyI.st g7.st h_start
          have h_wide := PyI.st g7.st h_wide
          have ho_known := ho_known.go g00 g7
          have ho_met := ho_met.go g00 g7
          have h_at := PyI.st g7.st h_at
          have sl6 := sl6.trans g7.st
          have g0 := g0.trans g7
          have sj7 := g7.st
          refine q_asg (W := W7) (ew_frz (ew_ifE (et_B (ew_var (v := v_wide) rfl h_wide)) (ev__law_around (ew_ixL (ew_varR (v := v_met) rfl (Var.nS g00 ho_met) ho_met.own) (ew_var (v := v_at) rfl h_at))) (ev__law_sides (ew_ixL (ew_varR (v := v_met) rfl (Var.nS g00 ho_met) ho_met.own) (ew_var (v := v_at) rfl h_at))))) g0.ok hm fun a8_near v_near W8 g8 h_near hm => ?_
          have hb_squares := Kd.go g8 hS_squares hb_squares
          have h_start := PyI.st g8.st h_start
          have h_wide := PyI.st g8.st h_wide
          have ho_known := ho_known.go g00 g8
          have ho_met := ho_met.go g00 g8
          have h_at := PyI.st g8.st h_at
          have sl6 := sl6.trans g8.st
          have sj7 := sj7.trans g8.st
          have g0 := g0.trans g8
          first | refine norm_st (σ' := [some v_squares, some v_start, some v_wide, some v_known, o_square, some v_met, some v_at, some v_near]) rfl ?_ | skip
          refine st_forF (W := W8) tk_N (ew_var (v := v_near) rfl h_near) g0.ok hm fun xs9 W9 g9 => ?_
          have hb_squares := Kd.go g9 hS_squares hb_squares
          have h_start := PyI.st g9.st h_start
          have h_wide := PyI.st g9.st h_wide
          have ho_known := ho_known.go g00 g9
          have ho_met := ho_met.go g00 g9
          have h_at := PyI.st g9.st h_at
          have h_near := PyI.st g9.st h_near
          have sl6 := sl6.trans g9.st
          have sj7 := sj7.trans g9.st
          have g0 := g0.trans g9
          refine ⟨fun y σ' W' => ∃ (v_known : V) (fp_known : List Addr) (v_met : V) (fp_met : List Addr) (o_square : Option V), σ' = [some v_squares, some v_start, some v_wide, some v_known, o_square, some v_met, some v_at, some v_near] ∧ Gw ef0 W0 W' ∧ St W9 W' ∧ Var (kD Bool) W0 W' fp_known y.1 v_known ∧ Var (kL Sq) W0 W' fp_met y.2 v_met ∧ (∀ b ∈ fp_known, b ∉ fp_met), ⟨v_known, fp_known, v_met, fp_met, _, rfl, g0, (St.refl _), ho_known, ho_met, dj_known_met⟩, fun _ _ _ hI => ?_, fun c9 y9 σi s2 Wi9 R9 nx9 ht hI hm kn9 kb9 kr9 => ?_, fun z9 σi Wi9 hI hm => ?_⟩
          · obtain ⟨v_known, fp_known, v_met, fp_met, o_square, rfl, g0, sl9, ho_known, ho_met, dj_known_met⟩ := hI
            exact sl9
          ·
            obtain ⟨v_known, fp_known, v_met, fp_met, o_square, rfl, g0, sl9, ho_known, ho_met, dj_known_met⟩ := hI
            have hb_squares := Kd.go g0 hS_squares hb0_squares
            have h_start := PyI.st sl9 h_start
            have h_wide := PyI.st sl9 h_wide
            have h_at := PyI.st sl9 h_at
            have h_near := PyI.st sl9 h_near
            have sl6 := sl6.trans sl9
            have sj7 := sj7.trans sl9
            obtain ⟨v_square, rfl, h_square⟩ := ht
            refine st_join (W := Wi9) (s := (List (Sq × Bool)) × (List Sq)) (fun y σ' W' => ∃ (v_known : V) (fp_known : List Addr) (v_met : V) (fp_met : List Addr), σ' = [some v_squares, some v_start, some v_wide, some v_known, some v_square, some v_met, some v_at, some v_near] ∧ Gw ef0 W0 W' ∧ St Wi9 W' ∧ Var (kD Bool) W0 W' fp_known y.1 v_known ∧ Var (kL Sq) W0 W' fp_met y.2 v_met ∧ (∀ b ∈ fp_known, b ∉ fp_met)) (et_and (et_B (ew_din (ew_var (v := v_square) rfl h_square) (ew_dr (ew_varR (v := v_known) rfl (Var.nS g00 ho_known) ho_known.own)))) (et_not (et_B (ew_dget (ew_dr (ew_varR (v := v_known) rfl (Var.nS g00 ho_known) ho_known.own)) (ew_var (v := v_square) rfl h_square))))) g0.ok hm (fun y10 σj Wj10 hI hm => ?_) (fun W10 R10 g10 hm kj => ?_) (fun W10 R10 g10 hm kj => ?_)
            ·
              obtain ⟨v_known, fp_known, v_met, fp_met, rfl, g0, sj10, ho_known, ho_met, dj_known_met⟩ := hI
              have hb_squares := Kd.go g0 hS_squares hb0_squares
              have h_start := PyI.st sj10 h_start
              have h_wide := PyI.st sj10 h_wide
              have h_square := PyI.st sj10 h_square
              have h_at := PyI.st sj10 h_at
              have h_near := PyI.st sj10 h_near
              have sl6 := sl6.trans sj10
              have sj7 := sj7.trans sj10
              have sl9 := sl9.trans sj10
              exact kn9 (y10.1, y10.2) _ Wj10 ⟨v_known, fp_known, v_met, fp_met, _, rfl, g0, sl9, ho_known, ho_met, dj_known_met⟩ hm
            ·
              have hb_squares := Kd.go g10 hS_squares hb_squares
              have h_start := PyI.st g10.st h_start
              have h_wide := PyI.st g10.st h_wide
              have ho_known := ho_known.go g00 g10
              have h_square := PyI.st g10.st h_square
              have ho_met := ho_met.go g00 g10
              have h_at := PyI.st g10.st h_at
              have h_near := PyI.st g10.st h_near
              have sl6 := sl6.trans g10.st
              have sj7 := sj7.trans g10.st
              have sl9 := sl9.trans g10.st
              have g0 := g0.trans g10
              have sj10 := g10.st
              refine q_dput (W := W10) g00 g0 rfl ho_known ew_bl (ew_var (v := v_square) rfl h_square) hm fun a11_known W11_ W11 l_known el_known g11 s g02 kk ff ho_known hm => ?_
              have hb_squares := Kd.go g11 hS_squares hb_squares
              have h_start := PyI.st g11.st h_start
              have h_wide := PyI.st g11.st h_wide
              have h_square := PyI.st g11.st h_square
              have ho_met := ho_met.go g00 g11
              have h_at := PyI.st g11.st h_at
              have h_near := PyI.st g11.st h_near
              have sl6 := sl6.trans g11.st
              have sj7 := sj7.trans g11.st
              have sl9 := sl9.trans g11.st
              have sj10 := sj10.trans g11.st
              have g0 := g0.trans g11
              have hb_squares := Kd.st _ s (kk fp_squares _ Kp.refl fun b m z => hl_squares b m (ho_known.fr b z)) hb_squares
              have h_start := PyI.st s h_start
              have h_wide := PyI.st s h_wide
              have h_square := PyI.st s h_square
              have ho_met := ho_met.kept s kk ff (fun b m z => dj_known_met b z m)
              have h_at := PyI.st s h_at
              have h_near := PyI.st s h_near
              have sl6 := sl6.trans s
              have sj7 := sj7.trans s
              have sl9 := sl9.trans s
              have sj10 := sj10.trans s
              have g0 := g02
              refine st_app (W := W11) g00 g0 rfl ho_met (ew_var (v := v_square) rfl h_square) hm fun a12_met W12_ W12 l_met el_met g12 s g02 kk ff ho_met hm => ?_
              have hb_squares := Kd.go g12 hS_squares hb_squares
              have h_start := PyI.st g12.st h_start
              have h_wide := PyI.st g12.st h_wide
              have ho_known := ho_known.go g00 g12
              have h_square := PyI.st g12.st h_square
              have h_at := PyI.st g12.st h_at
              have h_near := PyI.st g12.st h_near
              have sl6 := sl6.trans g12.st
              have sj7 := sj7.trans g12.st
              have sl9 := sl9.trans g12.st
              have sj10 := sj10.trans g12.st
              have g0 := g0.trans g12
              have hb_squares := Kd.st _ s (kk fp_squares _ Kp.refl fun b m z => hl_squares b m (ho_met.fr b z)) hb_squares
              have h_start := PyI.st s h_start
              have h_wide := PyI.st s h_wide
              have ho_known := ho_known.kept s kk ff dj_known_met
              have h_square := PyI.st s h_square
              have h_at := PyI.st s h_at
              have h_near := PyI.st s h_near
              have sl6 := sl6.trans s
              have sj7 := sj7.trans s
              have sl9 := sl9.trans s
              have sj10 := sj10.trans s
              have g0 := g02
              exact kj (a11_known, a12_met) _ W12 ⟨v_known, fp_known, v_met, fp_met, rfl, g0, sj10, ho_known, ho_met, dj_known_met⟩ hm
            ·
              have hb_squares := Kd.go g10 hS_squares hb_squares
              have h_start := PyI.st g10.st h_start
              have h_wide := PyI.st g10.st h_wide
              have ho_known := ho_known.go g00 g10
              have h_square := PyI.st g10.st h_square
              have ho_met := ho_met.go g00 g10
              have h_at := PyI.st g10.st h_at
              have h_near := PyI.st g10.st h_near
              have sl6 := sl6.trans g10.st
              have sj7 := sj7.trans g10.st
              have sl9 := sl9.trans g10.st
              have g0 := g0.trans g10
              have sj10 := g10.st
              refine st_next ?_
              exact kj (y9.1, y9.2) _ W10 ⟨v_known, fp_known, v_met, fp_met, rfl, g0, sj10, ho_known, ho_met, dj_known_met⟩ hm
          ·
            obtain ⟨v_known, fp_known, v_met, fp_met, o_square, rfl, g0, sl9, ho_known, ho_met, dj_known_met⟩ := hI
            have hb_squares := Kd.go g0 hS_squares hb0_squares
            have h_start := PyI.st sl9 h_start
            have h_wide := PyI.st sl9 h_wide
            have h_at := PyI.st sl9 h_at
            have h_near := PyI.st sl9 h_near
            have sl6 := sl6.trans sl9
            have sj7 := sj7.trans sl9
            exact kj (z9.1, z9.2) _ Wi9 ⟨v_known, fp_known, v_met, fp_met, _, _, rfl, g0, sj7, ho_known, ho_met, dj_known_met⟩ hm
        ·
          have hb_squares := Kd.go g7 hS_squares hb_squares
          have h_start := PyI.st g7.st h_start
          have h_wide := PyI.st g7.st h_wide
          have ho_known := ho_known.go g00 g7
          have ho_met := ho_met.go g00 g7
          have h_at := PyI.st g7.st h_at
          have sl6 := sl6.trans g7.st
          have g0 := g0.trans g7
          have sj7 := g7.st
          refine st_next ?_
          exact kj (y6.1, y6.2) _ W7 ⟨v_known, fp_known, v_met, fp_met, _, _, rfl, g0, sj7, ho_known, ho_met, dj_known_met⟩ hm
      ·
        obtain ⟨v_known, fp_known, v_met, fp_met, o_square, o_at, o_near, rfl, g0, sl6, ho_known, ho_met, dj_known_met⟩ := hI
        have hb_squares := Kd.go g0 hS_squares hb0_squares
        have h_start := PyI.st sl6 h_start
        have h_wide := PyI.st sl6 h_wide
        exact ⟨_, rfl, hm _ Wi6 g0 rfl ⟨fp_met, ho_met.own, fun b m => ⟨ho_met.fr b m, Var.nS g00 ho_met b m, ho_met.nF b m⟩⟩⟩
abbrev s__law_pick : Stmt := top 49
abbrev N__law_pick : List Str := ["deal", "squares"]
abbrev P__law_pick : List Str := ["deal", "squares"]
theorem sc__law_pick : FnScope N__law_pick P__law_pick (defScope s__law_pick) := ⟨rfl, rfl, rfl, by decide +kernel, rfl, by decide +kernel, by decide +kernel⟩
def m__law_pick (_ : Unit) (a_squares : (List Sq)) : WP Sq := (WP.ix (WP.pure a_squares) (WP.b2 (WP.pure ()) (WP.len (WP.pure a_squares)) m_take)).bind fun r1 => (WP.pure r1)
def sp__law_pick : Sp := fun vs H Q _ => ∃ (d : Dl) (W : Wo) (a_squares : (List Sq)) (v_squares : V) (fp_squares : List Addr), vs = [.ref d.p, v_squares] ∧ W.H = H ∧ Good (efD d) W ∧ (kL Sq).own W fp_squares a_squares v_squares ∧ (∀ a ∈ fp_squares, ¬ (efD d).S a) ∧ (m__law_pick () a_squares).run W.n fun n r => ∀ v W', Gw (efD d) W W' → W'.n = n → (sI (e := (efD d)) (α := Sq)).post W W' r v → Q v W'.H
theorem ev__law_pick {d : Dl} {σ : L2.St} {W : Wo} {E : XK} {t0 t1 : TE} {w0 : WP Unit} {w1 : WP (List Sq)} (h0 : EvW (efD d) t0 σ W (sD d) w0) (h1 : EvW (efD d) t1 σ W (sR (kL Sq)) w1) : EvW (efD d) (tCall sp__law_pick [] E (tCons t0 (tCons t1 tNil))) σ W (sI (α := Sq)) (WP.b2 w0 w1 m__law_pick) := ew_call2N h0 h1 fun W2 b0 b1 x0 x1 g2 r0 ⟨fp1, r1, s1⟩ Q q E => by
  cases r0
  exact ⟨d, W2, b1, x1, fp1, rfl, rfl, g2, r1, s1, WP.mono _ (fun n c h v W3 g3 hn p => h v W3 g3 hn p) q⟩
theorem ok__law_pick (F : At K mg "_law_pick" s__law_pick P__law_pick) (G : Glb mg) (H__law_take : Has P w K mg base "_law_take" 1 P__law_take sp_take) : Has P w K mg base "_law_pick" 2 P__law_pick sp__law_pick := by
  refine Has.of F sc__law_pick (fun vs H Q E h => ?_) (fun f cdv A outer s H0 vs Q E hr h => ?_)
  · obtain ⟨d, W0, a_squares, v_squares, fp_squares, rfl, _⟩ := h
    rfl
  · obtain ⟨d, W0, a_squares, v_squares, fp_squares, rfl, rfl, g00, hb_squares, hS_squares, hm⟩ := h
    have sc := sc__law_pick
    have g0 := Gw.refl g00
    have hl_squares := (kL Sq).live hb_squares
    have hb0_squares := hb_squares
    unfold m__law_pick at hm
    refine ⟨_, (pss_one (ps_ret (pe_ix ix_list (pv 1) (pe_user H__law_take (hr.mono (by decide)) rfl (pa_cons (pv 0) (pa_cons (pe_callB call_len_seq (by rfl) G.len PySem.boot_len (pa_cons (pv 1) pa_nil)) pa_nil))) (fun _ _ => rfl)))), ?_⟩
    refine st_ret (W := W0) (ew_ixL (ew_varR rfl hS_squares hb_squares) (ev_take (ew_deal rfl) (ew_lenL (ew_varR rfl hS_squares hb_squares)))) g0.ok hm fun r1 v_ret W1 g1 hp hm => ?_
    exact hm v_ret W1 (g0.trans g1) rfl hp
abbrev s__law_lies : Stmt := top 50
abbrev N__law_lies : List Str := ["chart", "size", "place", "r", "c"]
abbrev P__law_lies : List Str := ["chart", "size", "place"]
theorem sc__law_lies : FnScope N__law_lies P__law_lies (defScope s__law_lies) := ⟨rfl, rfl, rfl, by decide +kernel, rfl, by decide +kernel, by decide +kernel⟩
def m__law_lies (a_chart : (List Str)) (a_size : Int) (a_place : Sq) : WP Bool := (WP.range1 (WP.pure a_size)).bind fun xs1 => WP.after (WP.loop (γ := Bool) (fun c1 (y1 : Unit) => (WP.range1 (WP.pure a_size)).bind fun xs2 => WP.after (WP.loop (γ := Bool) (fun c2 (y2 : Unit) => (WP.b3 (WP.pure a_chart) (WP.add (WP.fst (WP.pure a_place)) (WP.pure c1)) (WP.add (WP.snd (WP.pure a_place)) (WP.pure c2)) m__law_at).bind fun b => WP.cond b ((WP.pure false).bind fun r4 => (WP.pure (.rt r4))) ((WP.pure (.nx ())))) xs2 ()) (fun (z2 : Unit) => (WP.pure (.nx ()))) (fun r => (WP.pure (.rt r)))) xs1 ()) (fun (z1 : Unit) => (WP.pure true).bind fun r5 => (WP.pure r5)) (fun r => (WP.pure r))
def sp__law_lies : Sp := fun vs H Q _ => ∃ (W : Wo) (a_chart : (List Str)) (a_size : Int) (a_place : Sq) (v_chart v_size v_place : V), vs = [v_chart, v_size, v_place] ∧ W.H = H ∧ Good ef0 W ∧ Rp W a_chart v_chart ∧ Rp W a_size v_size ∧ Rp W a_place v_place ∧ (m__law_lies a_chart a_size a_place).run W.n fun n r => ∀ v W', Gw ef0 W W' → W'.n = n → (sI (e := ef0) (α := Bool)).post W W' r v → Q v W'.H
theorem ev__law_lies {e : Ef} {σ : L2.St} {W : Wo} {E : XK} {t0 t1 t2 : TE} {w0 : WP (List Str)} {w1 : WP Int} {w2 : WP Sq} (h0 : EvW e t0 σ W sI w0) (h1 : EvW e t1 σ W sI w1) (h2 : EvW e t2 σ W sI w2) : EvW e (tCall sp__law_lies [] E (tCons t0 (tCons t1 (tCons t2 tNil)))) σ W (sI (α := Bool)) (WP.b3 w0 w1 w2 m__law_lies) := ew_call3N h0 h1 h2 fun W2 b0 b1 b2 x0 x1 x2 g2 r0 r1 r2 Q q E => by
  exact ⟨W2, b0, b1, b2, x0, x1, x2, rfl, rfl, g2.z, r0, r1, r2, WP.mono _ (fun n c h v W3 g3 hn p => h v W3 (Gw.up g2 g3) hn p) q⟩
theorem ok__law_lies (F : At K mg "_law_lies" s__law_lies P__law_lies) (G : Glb mg) (H__law_at : Has P w K mg base "_law_at" 1 P__law_at sp__law_at) : Has P w K mg base "_law_lies" 2 P__law_lies sp__law_lies := by
  refine Has.of F sc__law_lies (fun vs H Q E h => ?_) (fun f cdv A outer s H0 vs Q E hr h => ?_)
  · obtain ⟨W0, a_chart, a_size, a_place, v_chart, v_size, v_place, rfl, _⟩ := h
    rfl
  · obtain ⟨W0, a_chart, a_size, a_place, v_chart, v_size, v_place, rfl, rfl, g00, h_chart, h_size, h_place, hm⟩ := h
    have sc := sc__law_lies
    have g0 := Gw.refl g00
    unfold m__law_lies at hm
    refine ⟨_, (pss_cons (ps_for PassesOwn.never rfl (pi_range1 rfl G.range (pa_cons (pv 1) pa_nil)) (pg_name (i := 3) sc.nd rfl (Or.inl rfl))
      (pss_one (ps_for PassesOwn.never rfl (pi_range1 rfl G.range (pa_cons (pv 1) pa_nil)) (pg_name (i := 4) sc.nd rfl (Or.inl rfl))
      (pss_one (ps_if (pt_val (pe_user H__law_at (hr.mono (by decide)) rfl (pa_cons (pv 0) (pa_cons (pe_op op_add (pe_ix ix_tup (pv 2) pe_int (fun _ _ => rfl)) (pv 3)) (pa_cons (pe_op op_add (pe_ix ix_tup (pv 2) pe_int (fun _ _ => rfl)) (pv 4)) pa_nil))))) (pss_one (ps_ret pe_bl)) pss_nil)))))
      (pss_one (ps_ret pe_bl))), ?_⟩
    refine q_forR1 (W := W0) (ew_var (v := v_size) rfl h_size) g0.ok hm fun W1 g1 => ?_
    have h_chart := PyI.st g1.st h_chart
    have h_size := PyI.st g1.st h_size
    have h_place := PyI.st g1.st h_place
    have g0 := g0.trans g1
    refine ⟨fun y σ' W' => ∃ (o_r : Option V) (o_c : Option V), σ' = [some v_chart, some v_size, some v_place, o_r, o_c] ∧ Gw ef0 W0 W' ∧ St W1 W', ⟨_, _, rfl, g0, (St.refl _)⟩, fun c1 y1 σi s2 Wi1 R1 nx1 ht hI hm kn1 kb1 kr1 => ?_, fun z1 σi Wi1 hI hm => ?_⟩
    ·
      obtain ⟨o_r, o_c, rfl, g0, sl1⟩ := hI
      have h_chart := PyI.st sl1 h_chart
      have h_size := PyI.st sl1 h_size
      have h_place := PyI.st sl1 h_place
      obtain ⟨v_r, rfl, h_r⟩ := ht
      refine st_forR1 (W := Wi1) (ew_var (v := v_size) rfl h_size) g0.ok hm fun W2 g2 => ?_
      have h_chart := PyI.st g2.st h_chart
      have h_size := PyI.st g2.st h_size
      have h_place := PyI.st g2.st h_place
      have h_r := PyI.st g2.st h_r
      have sl1 := sl1.trans g2.st
      have g0 := g0.trans g2
      refine ⟨fun y σ' W' => ∃ (o_c : Option V), σ' = [some v_chart, some v_size, some v_place, some v_r, o_c] ∧ Gw ef0 W0 W' ∧ St W2 W', ⟨_, rfl, g0, (St.refl _)⟩, fun c2 y2 σi s2 Wi2 R2 nx2 ht hI hm kn2 kb2 kr2 => ?_, fun z2 σi Wi2 hI hm => ?_⟩
      ·
        obtain ⟨o_c, rfl, g0, sl2⟩ := hI
        have h_chart := PyI.st sl2 h_chart
        have h_size := PyI.st sl2 h_size
        have h_place := PyI.st sl2 h_place
        have h_r := PyI.st sl2 h_r
        have sl1 := sl1.trans sl2
        obtain ⟨v_c, rfl, h_c⟩ := ht
        refine st_if (W := Wi2) (et_B (ev__law_at (ew_var (v := v_chart) rfl h_chart) (ew_add (ew_fst (ew_var (v := v_place) rfl h_place)) (ew_var (v := v_r) rfl h_r)) (ew_add (ew_snd (ew_var (v := v_place) rfl h_place)) (ew_var (v := v_c) rfl h_c)))) g0.ok hm (fun W3 g3 hm => ?_) (fun W3 g3 hm => ?_)
        ·
          have h_chart := PyI.st g3.st h_chart
          have h_size := PyI.st g3.st h_size
          have h_place := PyI.st g3.st h_place
          have h_r := PyI.st g3.st h_r
          have h_c := PyI.st g3.st h_c
          have sl1 := sl1.trans g3.st
          have sl2 := sl2.trans g3.st
          have g0 := g0.trans g3
          refine st_ret (W := W3) ew_bl g0.ok hm fun r4 v_ret W4 g4 hp hm => ?_
          have hm := kr2 _ _ hm
          have hm := kr1 _ _ hm
          exact hm v_ret W4 (g0.trans g4) rfl hp
        ·
          have h_chart := PyI.st g3.st h_chart
          have h_size := PyI.st g3.st h_size
          have h_place := PyI.st g3.st h_place
          have h_r := PyI.st g3.st h_r
          have h_c := PyI.st g3.st h_c
          have sl1 := sl1.trans g3.st
          have sl2 := sl2.trans g3.st
          have g0 := g0.trans g3
          refine st_next ?_
          exact kn2 () _ W3 ⟨_, rfl, g0, sl2⟩ hm
      ·
        obtain ⟨o_c, rfl, g0, sl2⟩ := hI
        have h_chart := PyI.st sl2 h_chart
        have h_size := PyI.st sl2 h_size
        have h_place := PyI.st sl2 h_place
        have h_r := PyI.st sl2 h_r
        have sl1 := sl1.trans sl2
        exact kn1 () _ Wi2 ⟨_, _, rfl, g0, sl1⟩ hm
    ·
      obtain ⟨o_r, o_c, rfl, g0, sl1⟩ := hI
      have h_chart := PyI.st sl1 h_chart
      have h_size := PyI.st sl1 h_size
      have h_place := PyI.st sl1 h_place
      refine st_ret (W := Wi1) ew_bl g0.ok hm fun r5 v_ret W5 g5 hp hm => ?_
      exact hm v_ret W5 (g0.trans g5) rfl hp
abbrev s__law_places : Stmt := top 51
abbrev N__law_places : List Str := ["chart", "size", "found", "r", "c"]
abbrev P__law_places : List Str := ["chart", "size"]
theorem sc__law_places : FnScope N__law_places P__law_places (defScope s__law_places) := ⟨rfl, rfl, rfl, by decide +kernel, rfl, by decide +kernel, by decide +kernel⟩
def m__law_places (a_chart : (List Str)) (a_size : Int) : WP (List Sq) := (WP.row (WP.pure ([] : List Sq))).bind fun a1_found => (WP.range2 (WP.neg (WP.pure a_size)) (WP.add (WP.len (WP.pure a_chart)) (WP.pure (1 : Int)))).bind fun xs2 => WP.after (WP.loop (γ := (List Sq)) (fun c2 (y2 : (List Sq)) => (WP.range2 (WP.neg (WP.pure a_size)) (WP.add (WP.lenS (WP.ix (WP.pure a_chart) (WP.pure (0 : Int)))) (WP.pure (1 : Int)))).bind fun xs3 => WP.after (WP.loop (γ := (List Sq)) (fun c3 (y3 : (List Sq)) => ((WP.b3 (WP.pure a_chart) (WP.pure a_size) (WP.pair (WP.pure c2) (WP.pure c3)) m__law_lies).bind fun b => WP.cond b (((WP.pair (WP.pure c2) (WP.pure c3)).bind fun a => WP.req (y3.length < 100000) (y3 ++ [a])).bind fun a5_found => (WP.pure a5_found)) ((WP.pure y3))).bind fun (y4 : (List Sq)) => (WP.pure (.nx y4))) xs3 y2) (fun (z3 : (List Sq)) => (WP.pure (.nx z3))) (fun r => (WP.pure (.rt r)))) xs2 a1_found) (fun (z2 : (List Sq)) => (WP.pure z2)) (fun r => (WP.pure r))
def sp__law_places : Sp := fun vs H Q _ => ∃ (W : Wo) (a_chart : (List Str)) (a_size : Int) (v_chart v_size : V), vs = [v_chart, v_size] ∧ W.H = H ∧ Good ef0 W ∧ Rp W a_chart v_chart ∧ Rp W a_size v_size ∧ (m__law_places a_chart a_size).run W.n fun n r => ∀ v W', Gw ef0 W W' → W'.n = n → (sN (e := ef0) (kL Sq)).post W W' r v → Q v W'.H
theorem ev__law_places {e : Ef} {σ : L2.St} {W : Wo} {E : XK} {t0 t1 : TE} {w0 : WP (List Str)} {w1 : WP Int} (h0 : EvW e t0 σ W sI w0) (h1 : EvW e t1 σ W sI w1) : EvW e (tCall sp__law_places [] E (tCons t0 (tCons t1 tNil))) σ W (sN (kL Sq)) (WP.b2 w0 w1 m__law_places) := ew_call2N h0 h1 fun W2 b0 b1 x0 x1 g2 r0 r1 Q q E => by
  exact ⟨W2, b0, b1, x0, x1, rfl, rfl, g2.z, r0, r1, WP.mono _ (fun n c h v W3 g3 hn p => h v W3 (Gw.up g2 g3) hn (sN_up g2 p)) q⟩
theorem ok__law_places (F : At K mg "_law_places" s__law_places P__law_places) (G : Glb mg) (H__law_lies : Has P w K mg base "_law_lies" 2 P__law_lies sp__law_lies) : Has P w K mg base "_law_places" 3 P__law_places sp__law_places := by
  refine Has.of F sc__law_places (fun vs H Q E h => ?_) (fun f cdv A outer s H0 vs Q E hr h => ?_)
  · obtain ⟨W0, a_chart, a_size, v_chart, v_size, rfl, _⟩ := h
    rfl
  · obtain ⟨W0, a_chart, a_size, v_chart, v_size, rfl, rfl, g00, h_chart, h_size, hm⟩ := h
    have sc := sc__law_places
    have g0 := Gw.refl g00
    unfold m__law_places at hm
    refine ⟨_, (pss_cons (ps_set (i := 2) sc.nd rfl (Or.inl rfl) (pe_lst pa_nil))
      (pss_cons (ps_for PassesOwn.never rfl (pi_range2 rfl G.range (pa_cons (pe_un un_neg (pv 1)) (pa_cons (pe_op op_add (pe_callB call_len_seq (by rfl) G.len PySem.boot_len (pa_cons (pv 0) pa_nil)) pe_int) pa_nil))) (pg_name (i := 3) sc.nd rfl (Or.inl rfl))
      (pss_one (ps_for PassesOwn.never rfl (pi_range2 rfl G.range (pa_cons (pe_un un_neg (pv 1)) (pa_cons (pe_op op_add (pe_callB call_len_str (by rfl) G.len PySem.boot_len (pa_cons (pe_ix ix_tup (pv 0) pe_int (fun _ _ => rfl)) pa_nil)) pe_int) pa_nil))) (pg_name (i := 4) sc.nd rfl (Or.inl rfl))
      (pss_one (ps_if (pt_val (pe_user H__law_lies (hr.mono (by decide)) rfl (pa_cons (pv 0) (pa_cons (pv 1) (pa_cons (pe_tup (pa_cons (pv 3) (pa_cons (pv 4) pa_nil))) pa_nil))))) (pss_one (ps_expr (pe_bm PySem.F.plainAttrs_list PySem.F.slot_list_append PySem.F.type_list_append mt_append (pv 2) (pa_cons (pe_tup (pa_cons (pv 3) (pa_cons (pv 4) pa_nil))) pa_nil)))) pss_nil)))))
      (pss_one (ps_ret (pv 2))))), ?_⟩
    refine q_asg (W := W0) (ew_lst (eas_nil (α := Sq))) g0.ok hm fun a1_found v_found W1 g1 ⟨fp_found, ho0_found, hf_found⟩ hm => ?_
    have hz_found : ∀ a ∈ fp_found, W0.H a = none := fun a m => g0.live a (hf_found a m).1
    have h_chart := PyI.st g1.st h_chart
    have h_size := PyI.st g1.st h_size
    have g0 := g0.trans g1
    have ho_found : Var (kL Sq) W0 W1 fp_found a1_found v_found := ⟨ho0_found, hz_found, fun b m => (hf_found b m).2.2⟩
    first | refine norm_st (σ' := [some v_chart, some v_size, some v_found, none, none]) rfl ?_ | skip
    refine q_forR2 (W := W1) (ew_neg (ew_var (v := v_size) rfl h_size)) (ew_add (ew_lenT (ew_var (v := v_chart) rfl h_chart)) ew_int) g0.ok hm fun W2 g2 => ?_
    have h_chart := PyI.st g2.st h_chart
    have h_size := PyI.st g2.st h_size
    have ho_found := ho_found.go g00 g2
    have g0 := g0.trans g2
    refine ⟨fun y σ' W' => ∃ (v_found : V) (fp_found : List Addr) (o_r : Option V) (o_c : Option V), σ' = [some v_chart, some v_size, some v_found, o_r, o_c] ∧ Gw ef0 W0 W' ∧ St W2 W' ∧ Var (kL Sq) W0 W' fp_found y v_found, ⟨v_found, fp_found, _, _, rfl, g0, (St.refl _), ho_found⟩, fun c2 y2 σi s2 Wi2 R2 nx2 ht hI hm kn2 kb2 kr2 => ?_, fun z2 σi Wi2 hI hm => ?_⟩
    ·
      obtain ⟨v_found, fp_found, o_r, o_c, rfl, g0, sl2, ho_found⟩ := hI
      have h_chart := PyI.st sl2 h_chart
      have h_size := PyI.st sl2 h_size
      obtain ⟨v_r, rfl, h_r⟩ := ht
      refine st_forR2 (W := Wi2) (ew_neg (ew_var (v := v_size) rfl h_size)) (ew_add (ew_lenS (ew_ixT (ew_var (v := v_chart) rfl h_chart) ew_int)) ew_int) g0.ok hm fun W3 g3 => ?_
      have h_chart := PyI.st g3.st h_chart
      have h_size := PyI.st g3.st h_size
      have ho_found := ho_found.go g00 g3
      have h_r := PyI.st g3.st h_r
      have sl2 := sl2.trans g3.st
      have g0 := g0.trans g3
      refine ⟨fun y σ' W' => ∃ (v_found : V) (fp_found : List Addr) (o_c : Option V), σ' = [some v_chart, some v_size, some v_found, some v_r, o_c] ∧ Gw ef0 W0 W' ∧ St W3 W' ∧ Var (kL Sq) W0 W' fp_found y v_found, ⟨v_found, fp_found, _, rfl, g0, (St.refl _), ho_found⟩, fun c3 y3 σi s2 Wi3 R3 nx3 ht hI hm kn3 kb3 kr3 => ?_, fun z3 σi Wi3 hI hm => ?_⟩
      ·
        obtain ⟨v_found, fp_found, o_c, rfl, g0, sl3, ho_found⟩ := hI
        have h_chart := PyI.st sl3 h_chart
        have h_size := PyI.st sl3 h_size
        have h_r := PyI.st sl3 h_r
        have sl2 := sl2.trans sl3
        obtain ⟨v_c, rfl, h_c⟩ := ht
        refine st_join (W := Wi3) (s := (List Sq)) (fun y σ' W' => ∃ (v_found : V) (fp_found : List Addr), σ' = [some v_chart, some v_size, some v_found, some v_r, some v_c] ∧ Gw ef0 W0 W' ∧ St Wi3 W' ∧ Var (kL Sq) W0 W' fp_found y v_found) (et_B (ev__law_lies (ew_var (v := v_chart) rfl h_chart) (ew_var (v := v_size) rfl h_size) (ew_pair (ew_var (v := v_r) rfl h_r) (ew_var (v := v_c) rfl h_c)))) g0.ok hm (fun y4 σj Wj4 hI hm => ?_) (fun W4 R4 g4 hm kj => ?_) (fun W4 R4 g4 hm kj => ?_)
        ·
          obtain ⟨v_found, fp_found, rfl, g0, sj4, ho_found⟩ := hI
          have h_chart := PyI.st sj4 h_chart
          have h_size := PyI.st sj4 h_size
          have h_r := PyI.st sj4 h_r
          have h_c := PyI.st sj4 h_c
          have sl2 := sl2.trans sj4
          have sl3 := sl3.trans sj4
          exact kn3 y4 _ Wj4 ⟨v_found, fp_found, _, rfl, g0, sl3, ho_found⟩ hm
        ·
          have h_chart := PyI.st g4.st h_chart
          have h_size := PyI.st g4.st h_size
          have ho_found := ho_found.go g00 g4
          have h_r := PyI.st g4.st h_r
          have h_c := PyI.st g4.st h_c
          have sl2 := sl2.trans g4.st
          have sl3 := sl3.trans g4.st
          have g0 := g0.trans g4
          have sj4 := g4.st
          refine st_app (W := W4) g00 g0 rfl ho_found (ew_pair (ew_var (v := v_r) rfl h_r) (ew_var (v := v_c) rfl h_c)) hm fun a5_found W5_ W5 l_found el_found g5 s g02 kk ff ho_found hm => ?_
          have h_chart := PyI.st g5.st h_chart
          have h_size := PyI.st g5.st h_size
          have h_r := PyI.st g5.st h_r
          have h_c := PyI.st g5.st h_c
          have sl2 := sl2.trans g5.st
          have sl3 := sl3.trans g5.st
          have sj4 := sj4.trans g5.st
          have g0 := g0.trans g5
          have h_chart := PyI.st s h_chart
          have h_size := PyI.st s h_size
          have h_r := PyI.st s h_r
          have h_c := PyI.st s h_c
          have sl2 := sl2.trans s
          have sl3 := sl3.trans s
          have sj4 := sj4.trans s
          have g0 := g02
          exact kj a5_found _ W5 ⟨v_found, fp_found, rfl, g0, sj4, ho_found⟩ hm
        ·
          have h_chart := PyI.st g4.st h_chart
          have h_size := PyI.st g4.st h_size
          have ho_found := ho_found.go g00 g4
          have h_r := PyI.st g4.st h_r
          have h_c := PyI.st g4.st h_c
          have sl2 := sl2.trans g4.st
          have sl3 := sl3.trans g4.st
          have g0 := g0.trans g4
          have sj4 := g4.st
          refine st_next ?_
          exact kj y3 _ W4 ⟨v_found, fp_found, rfl, g0, sj4, ho_found⟩ hm
      ·
        obtain ⟨v_found, fp_found, o_c, rfl, g0, sl3, ho_found⟩ := hI
        have h_chart := PyI.st sl3 h_chart
        have h_size := PyI.st sl3 h_size
        have h_r := PyI.st sl3 h_r
        have sl2 := sl2.trans sl3
        exact kn2 z3 _ Wi3 ⟨v_found, fp_found, _, _, rfl, g0, sl2, ho_found⟩ hm
    ·
      obtain ⟨v_found, fp_found, o_r, o_c, rfl, g0, sl2, ho_found⟩ := hI
      have h_chart := PyI.st sl2 h_chart
      have h_size := PyI.st sl2 h_size
      exact ⟨_, rfl, hm _ Wi2 g0 rfl ⟨fp_found, ho_found.own, fun b m => ⟨ho_found.fr b m, Var.nS g00 ho_found b m, ho_found.nF b m⟩⟩⟩
abbrev s__law_sails : Stmt := top 52
abbrev N__law_sails : List Str := ["deal", "chart", "size", "places", "a", "b", "reached", "way", "paper", "k"]
abbrev P__law_sails : List Str := ["deal", "chart", "size", "places"]
theorem sc__law_sails : FnScope N__law_sails P__law_sails (defScope s__law_sails) := ⟨rfl, rfl, rfl, by decide +kernel, rfl, by decide +kernel, by decide +kernel⟩
def m__law_sails (_ : Unit) (a_chart : (List Str)) (a_size : Int) (a_places : (List Sq)) : WP Bool := (WP.b2 (WP.pure ()) (WP.pure a_places) m__law_pick).bind fun a1_a => (WP.b2 (WP.pure ()) (WP.pure a_places) m__law_pick).bind fun a2_b => (WP.inD (WP.pure a2_b) (WP.b3 (WP.pure a_places) (WP.pure a1_a) (WP.pure false) m__law_spread)).bind fun a3_reached => (WP.b4 (WP.pure a_chart) (WP.pure a_size) (WP.pure a1_a) (WP.pure a2_b) m_voyage).bind fun a4_way => (WP.b4 (WP.pure a_chart) (WP.pure a_size) (WP.pure a1_a) (WP.pure a2_b) m_blocking_paper).bind fun a5_paper => (WP.or (WP.eq (WP.isN (WP.pure a4_way)) (WP.pure a3_reached)) (WP.ne (WP.isN (WP.pure a5_paper)) (WP.pure a3_reached))).bind fun b => WP.cond b ((WP.pure false).bind fun r7 => (WP.pure r7)) ((WP.pure a3_reached).bind fun b => WP.cond b ((WP.or (WP.neD (WP.ix ((WP.the (WP.pure a4_way)).bind fun x => WP.pure x.l) (WP.pure (0 : Int))) (WP.pure a1_a)) (WP.neD (WP.ix ((WP.the (WP.pure a4_way)).bind fun x => WP.pure x.l) (WP.neg (WP.pure (1 : Int)))) (WP.pure a2_b))).bind fun b => WP.cond b ((WP.pure false).bind fun r10 => (WP.pure r10)) ((WP.range1 (WP.len ((WP.the (WP.pure a4_way)).bind fun x => WP.pure x.l))).bind fun xs11 => WP.after (WP.loop (γ := Bool) (fun c11 (y11 : Unit) => (WP.or (WP.notB (WP.b3 (WP.pure a_chart) (WP.pure a_size) (WP.ix ((WP.the (WP.pure a4_way)).bind fun x => WP.pure x.l) (WP.pure c11)) m_can_lie) true) (WP.and (WP.gt (WP.pure c11) (WP.pure (0 : Int))) (WP.not (WP.inD (WP.ix ((WP.the (WP.pure a4_way)).bind fun x => WP.pure x.l) (WP.pure c11)) (WP.b1 (WP.ix ((WP.the (WP.pure a4_way)).bind fun x => WP.pure x.l) (WP.sub (WP.pure c11) (WP.pure (1 : Int)))) m__law_sides))))).bind fun b => WP.cond b ((WP.pure false).bind fun r13 => (WP.pure (.rt r13))) ((WP.b3 (WP.pure a_chart) (WP.fst (WP.ix ((WP.the (WP.pure a4_way)).bind fun x => WP.pure x.l) (WP.pure c11))) (WP.snd (WP.ix ((WP.the (WP.pure a4_way)).bind fun x => WP.pure x.l) (WP.pure c11))) m__law_at).bind fun b => WP.cond b ((WP.pure false).bind fun r15 => (WP.pure (.rt r15))) ((WP.pure (.nx ()))))) xs11 ()) (fun (z11 : Unit) => (WP.and (WP.gt (WP.pure a_size) (WP.pure (1 : Int))) (WP.and (WP.gt (WP.min4 (WP.fst (WP.pure a1_a)) (WP.snd (WP.pure a1_a)) (WP.fst (WP.pure a2_b)) (WP.snd (WP.pure a2_b))) (WP.neg (WP.pure a_size))) (WP.isN (WP.b4 (WP.pure a_chart) (WP.sub (WP.pure a_size) (WP.pure (1 : Int))) (WP.pure a1_a) (WP.pure a2_b) m_voyage)))).bind fun b => WP.cond b ((WP.pure false).bind fun r17 => (WP.pure r17)) ((WP.pure true).bind fun r18 => (WP.pure r18))) (fun r => (WP.pure r)))) ((WP.or (WP.not (WP.inD (WP.pure a1_a) ((WP.the (WP.pure a5_paper)).bind fun x => WP.pure x.l))) (WP.inD (WP.pure a2_b) ((WP.the (WP.pure a5_paper)).bind fun x => WP.pure x.l))).bind fun b => WP.cond b ((WP.pure false).bind fun r20 => (WP.pure r20)) ((WP.pure true).bind fun r21 => (WP.pure r21))))
def sp__law_sails : Sp := fun vs H Q _ => ∃ (d : Dl) (W : Wo) (a_chart : (List Str)) (a_size : Int) (a_places : (List Sq)) (v_chart v_size v_places : V) (fp_places : List Addr), vs = [.ref d.p, v_chart, v_size, v_places] ∧ W.H = H ∧ Good (efD d) W ∧ Rp W a_chart v_chart ∧ Rp W a_size v_size ∧ (kL Sq).own W fp_places a_places v_places ∧ (∀ a ∈ fp_places, ¬ (efD d).S a) ∧ (m__law_sails () a_chart a_size a_places).run W.n fun n r => ∀ v W', Gw (efD d) W W' → W'.n = n → (sI (e := (efD d)) (α := Bool)).post W W' r v → Q v W'.H
theorem ev__law_sails {d : Dl} {σ : L2.St} {W : Wo} {E : XK} {t0 t1 t2 t3 : TE} {w0 : WP Unit} {w1 : WP (List Str)} {w2 : WP Int} {w3 : WP (List Sq)} (h0 : EvW (efD d) t0 σ W (sD d) w0) (h1 : EvW (efD d) t1 σ W sI w1) (h2 : EvW (efD d) t2 σ W sI w2) (h3 : EvW (efD d) t3 σ W (sR (kL Sq)) w3) : EvW (efD d) (tCall sp__law_sails [] E (tCons t0 (tCons t1 (tCons t2 (tCons t3 tNil))))) σ W (sI (α := Bool)) (WP.b4 w0 w1 w2 w3 m__law_sails) := ew_call4N h0 h1 h2 h3 fun W2 b0 b1 b2 b3 x0 x1 x2 x3 g2 r0 r1 r2 ⟨fp3, r3, s3⟩ Q q E => by
  cases r0
  exact ⟨d, W2, b1, b2, b3, x1, x2, x3, fp3, rfl, rfl, g2, r1, r2, r3, s3, WP.mono _ (fun n c h v W3 g3 hn p => h v W3 g3 hn p) q⟩
theorem ok__law_sails (F : At K mg "_law_sails" s__law_sails P__law_sails) (G : Glb mg) (H__law_at : Has P w K mg base "_law_at" 1 P__law_at sp__law_at) (H__law_pick : Has P w K mg base "_law_pick" 2 P__law_pick sp__law_pick) (H__law_sides : Has P w K mg base "_law_sides" 1 P__law_sides sp__law_sides) (H__law_spread : Has P w K mg base "_law_spread" 2 P__law_spread sp__law_spread) (H_blocking_paper : Has P w K mg base "blocking_paper" 6 P_blocking_paper sp_blocking_paper) (H_can_lie : Has P w K mg base "can_lie" 3 P_can_lie sp_can_lie) (H_voyage : Has P w K mg base "voyage" 6 P_voyage sp_voyage) : Has P w K mg base "_law_sails" 7 P__law_sails sp__law_sails := by
  refine Has.of F sc__law_sails (fun vs H Q E h => ?_) (fun f cdv A outer s H0 vs Q E hr h => ?_)
  · obtain ⟨d, W0, a_chart, a_size, a_places, v_chart, v_size, v_places, fp_places, rfl, _⟩ := h
    rfl
  · obtain ⟨d, W0, a_chart, a_size, a_places, v_chart, v_size, v_places, fp_places, rfl, rfl, g00, h_chart, h_size, hb_places, hS_places, hm⟩ := h
    have sc := sc__law_sails
    have g0 := Gw.refl g00
    have hl_places := (kL Sq).live hb_places
    have hb0_places := hb_places
    unfold m__law_sails at hm
    refine ⟨_, (pss_cons (ps_set (i := 4) sc.nd rfl (Or.inl rfl) (pe_user H__law_pick (hr.mono (by decide)) rfl (pa_cons (pv 0) (pa_cons (pv 3) pa_nil))))
      (pss_cons (ps_set (i := 5) sc.nd rfl (Or.inl rfl) (pe_user H__law_pick (hr.mono (by decide)) rfl (pa_cons (pv 0) (pa_cons (pv 3) pa_nil))))
      (pss_cons (ps_set (i := 6) sc.nd rfl (Or.inl rfl) (pe_cmpR (op_inD (hu65 hr)) (pv 5) (pe_user H__law_spread (hr.mono (by decide)) rfl (pa_cons (pv 3) (pa_cons (pv 4) (pa_cons pe_bl pa_nil)))) (by rfl)))
      (pss_cons (ps_set (i := 7) sc.nd rfl (Or.inl rfl) (pe_user H_voyage (hr.mono (by decide)) rfl (pa_cons (pv 1) (pa_cons (pv 2) (pa_cons (pv 4) (pa_cons (pv 5) pa_nil))))))
      (pss_cons (ps_set (i := 8) sc.nd rfl (Or.inl rfl) (pe_user H_blocking_paper (hr.mono (by decide)) rfl (pa_cons (pv 1) (pa_cons (pv 2) (pa_cons (pv 4) (pa_cons (pv 5) pa_nil))))))
      (pss_cons (ps_if (PW.pt (pw_or (pt_cmpR op_eq (pe_cmp (pc_isN (pv 7))) (pv 6) (nomark _)) (pw_or1 (pt_cmpR op_ne (pe_cmp (pc_isN (pv 8))) (pv 6) (nomark _))))) (pss_one (ps_ret pe_bl)) pss_nil)
      (pss_cons (ps_if (pt_val (pv 6)) (pss_cons (ps_if (PW.pt (pw_or (pt_cmpR (op_neD hr.units) (pe_ix ix_list (pv 7) pe_int (fun _ _ => rfl)) (pv 4) (nomark _)) (pw_or1 (pt_cmpR (op_neD hr.units) (pe_ix ix_list (pv 7) (pe_un un_neg pe_int) (fun _ _ => rfl)) (pv 5) (nomark _))))) (pss_one (ps_ret pe_bl)) pss_nil)
      (pss_cons (ps_for PassesOwn.never rfl (pi_range1 rfl G.range (pa_cons (pe_callB call_len_seq (by rfl) G.len PySem.boot_len (pa_cons (pv 7) pa_nil)) pa_nil)) (pg_name (i := 9) sc.nd rfl (Or.inl rfl))
      (pss_cons (ps_if (PW.pt (pw_or (pt_cmp (pc_notB (pe_user H_can_lie (hr.mono (by decide)) rfl (pa_cons (pv 1) (pa_cons (pv 2) (pa_cons (pe_ix ix_list (pv 7) (pv 9) (fun _ _ => rfl)) pa_nil)))))) (pw_or1 (PW.pt (pw_and (pt_cmpR op_gt (pv 9) pe_int (nomark _)) (pw_and1 (pt_cmpR (op_notInD (hu65 hr)) (pe_ix ix_list (pv 7) (pv 9) (fun _ _ => rfl)) (pe_user H__law_sides (hr.mono (by decide)) rfl (pa_cons (pe_ix ix_list (pv 7) (pe_op op_sub (pv 9) pe_int) (fun _ _ => rfl)) pa_nil)) (by rfl)))))))) (pss_one (ps_ret pe_bl)) pss_nil)
      (pss_one (ps_if (pt_val (pe_user H__law_at (hr.mono (by decide)) rfl (pa_cons (pv 1) (pa_cons (pe_ix ix_tup (pe_ix ix_list (pv 7) (pv 9) (fun _ _ => rfl)) pe_int (fun _ _ => rfl)) (pa_cons (pe_ix ix_tup (pe_ix ix_list (pv 7) (pv 9) (fun _ _ => rfl)) pe_int (fun _ _ => rfl)) pa_nil))))) (pss_one (ps_ret pe_bl)) pss_nil))))
      (pss_one (ps_if (PW.pt (pw_and (pt_cmpR op_gt (pv 2) pe_int (nomark _)) (pw_and (pt_cmpR op_gt (pe_callB (call_min4 rfl) (by rfl) G.min (by decide +kernel) (pa_cons (pe_ix ix_tup (pv 4) pe_int (fun _ _ => rfl)) (pa_cons (pe_ix ix_tup (pv 4) pe_int (fun _ _ => rfl)) (pa_cons (pe_ix ix_tup (pv 5) pe_int (fun _ _ => rfl)) (pa_cons (pe_ix ix_tup (pv 5) pe_int (fun _ _ => rfl)) pa_nil))))) (pe_un un_neg (pv 2)) (nomark _)) (pw_and1 (pt_cmp (pc_isN (pe_user H_voyage (hr.mono (by decide)) rfl (pa_cons (pv 1) (pa_cons (pe_op op_sub (pv 2) pe_int) (pa_cons (pv 4) (pa_cons (pv 5) pa_nil))))))))))) (pss_one (ps_ret pe_bl)) pss_nil)))) (pss_one (ps_if (PW.pt (pw_or (pt_cmpR (op_notInD (hu65 hr)) (pv 4) (pv 8) (by rfl)) (pw_or1 (pt_cmpR (op_inD (hu65 hr)) (pv 5) (pv 8) (by rfl))))) (pss_one (ps_ret pe_bl)) pss_nil)))
      (pss_one (ps_ret pe_bl))))))))), ?_⟩
    refine q_asg (W := W0) (ev__law_pick (ew_deal rfl) (ew_varR rfl hS_places hb_places)) g0.ok hm fun a1_a v_a W1 g1 h_a hm => ?_
    have h_chart := PyI.st g1.st h_chart
    have h_size := PyI.st g1.st h_size
    have hb_places := Kd.go g1 hS_places hb_places
    have g0 := g0.trans g1
    refine q_asg (W := W1) (ev__law_pick (ew_deal rfl) (ew_varR rfl hS_places hb_places)) g0.ok hm fun a2_b v_b W2 g2 h_b hm => ?_
    have h_chart := PyI.st g2.st h_chart
    have h_size := PyI.st g2.st h_size
    have hb_places := Kd.go g2 hS_places hb_places
    have h_a := PyI.st g2.st h_a
    have g0 := g0.trans g2
    first | refine norm_st (σ' := [some (.ref d.p), some v_chart, some v_size, some v_places, some v_a, some v_b, none, none, none, none]) rfl ?_ | skip
    refine q_asg (W := W2) (ew_inD (ew_var (v := v_b) rfl h_b) (ew_rd (ev__law_spread (ew_varR rfl hS_places hb_places) (ew_var (v := v_a) rfl h_a) ew_bl))) g0.ok hm fun a3_reached v_reached W3 g3 h_reached hm => ?_
    have h_chart := PyI.st g3.st h_chart
    have h_size := PyI.st g3.st h_size
    have hb_places := Kd.go g3 hS_places hb_places
    have h_a := PyI.st g3.st h_a
    have h_b := PyI.st g3.st h_b
    have g0 := g0.trans g3
    refine q_asg (W := W3) (ev_voyage (ew_var (v := v_chart) rfl h_chart) (ew_var (v := v_size) rfl h_size) (ew_var (v := v_a) rfl h_a) (ew_var (v := v_b) rfl h_b)) g0.ok hm fun a4_way v_way W4 g4 h_way hm => ?_
    have h_chart := PyI.st g4.st h_chart
    have h_size := PyI.st g4.st h_size
    have hb_places := Kd.go g4 hS_places hb_places
    have h_a := PyI.st g4.st h_a
    have h_b := PyI.st g4.st h_b
    have h_reached := PyI.st g4.st h_reached
    have g0 := g0.trans g4
    first | refine norm_st (σ' := [some (.ref d.p), some v_chart, some v_size, some v_places, some v_a, some v_b, some v_reached, some v_way, none, none]) rfl ?_ | skip
    refine q_asg (W := W4) (ev_blocking_paper (ew_var (v := v_chart) rfl h_chart) (ew_var (v := v_size) rfl h_size) (ew_var (v := v_a) rfl h_a) (ew_var (v := v_b) rfl h_b)) g0.ok hm fun a5_paper v_paper W5 g5 h_paper hm => ?_
    have h_chart := PyI.st g5.st h_chart
    have h_size := PyI.st g5.st h_size
    have hb_places := Kd.go g5 hS_places hb_places
    have h_a := PyI.st g5.st h_a
    have h_b := PyI.st g5.st h_b
    have h_reached := PyI.st g5.st h_reached
    have h_way := PyI.st g5.st h_way
    have g0 := g0.trans g5
    refine q_if (W := W5) (et_or (et_t (ew_eq (ew_isN (ew_var (v := v_way) rfl h_way)) (ew_var (v := v_reached) rfl h_reached))) (et_t (ew_ne (ew_isN (ew_var (v := v_paper) rfl h_paper)) (ew_var (v := v_reached) rfl h_reached)))) g0.ok hm (fun W6 g6 hm => ?_) (fun W6 g6 hm => ?_)
    ·
      have h_chart := PyI.st g6.st h_chart
      have h_size := PyI.st g6.st h_size
      have hb_places := Kd.go g6 hS_places hb_places
      have h_a := PyI.st g6.st h_a
      have h_b := PyI.st g6.st h_b
      have h_reached := PyI.st g6.st h_reached
      have h_way := PyI.st g6.st h_way
      have h_paper := PyI.st g6.st h_paper
      have g0 := g0.trans g6
      refine st_ret (W := W6) ew_bl g0.ok hm fun r7 v_ret W7 g7 hp hm => ?_
      exact hm v_ret W7 (g0.trans g7) rfl hp
    ·
      have h_chart := PyI.st g6.st h_chart
      have h_size := PyI.st g6.st h_size
      have hb_places := Kd.go g6 hS_places hb_places
      have h_a := PyI.st g6.st h_a
      have h_b := PyI.st g6.st h_b
      have h_reached := PyI.st g6.st h_reached
      have h_way := PyI.st g6.st h_way
      have h_paper := PyI.st g6.st h_paper
      have g0 := g0.trans g6
      refine st_next ?_
      refine q_if (W := W6) (et_B (ew_var (v := v_reached) rfl h_reached)) g0.ok hm (fun W8 g8 hm => ?_) (fun W8 g8 hm => ?_)
      ·
        have h_chart := PyI.st g8.st h_chart
        have h_size := PyI.st g8.st h_size
        have hb_places := Kd.go g8 hS_places hb_places
        have h_a := PyI.st g8.st h_a
        have h_b := PyI.st g8.st h_b
        have h_reached := PyI.st g8.st h_reached
        have h_way := PyI.st g8.st h_way
        have h_paper := PyI.st g8.st h_paper
        have g0 := g0.trans g8
        refine q_if (W := W8) (et_or (et_t (ew_neD (ew_ixL (ew_ls (ew_the (ew_var (v := v_way) rfl h_way))) ew_int) (ew_var (v := v_a) rfl h_a))) (et_t (ew_neD (ew_ixL (ew_ls (ew_the (ew_var (v := v_way) rfl h_way))) (ew_neg ew_int)) (ew_var (v := v_b) rfl h_b)))) g0.ok hm (fun W9 g9 hm => ?_) (fun W9 g9 hm => ?_)
        ·
          have h_chart := PyI.st g9.st h_chart
          have h_size := PyI.st g9.st h_size
          have hb_places := Kd.go g9 hS_places hb_places
          have h_a := PyI.st g9.st h_a
          have h_b := PyI.st g9.st h_b
          have h_reached := PyI.st g9.st h_reached
          have h_way := PyI.st g9.st h_way
          have h_paper := PyI.st g9.st h_paper
          have g0 := g0.trans g9
          refine st_ret (W := W9) ew_bl g0.ok hm fun r10 v_ret W10 g10 hp hm => ?_
          exact hm v_ret W10 (g0.trans g10) rfl hp
        ·
          have h_chart := PyI.st g9.st h_chart
          have h_size := PyI.st g9.st h_size
          have hb_places := Kd.go g9 hS_places hb_places
          have h_a := PyI.st g9.st h_a
          have h_b := PyI.st g9.st h_b
          have h_reached := PyI.st g9.st h_reached
          have h_way := PyI.st g9.st h_way
          have h_paper := PyI.st g9.st h_paper
          have g0 := g0.trans g9
          refine st_next ?_
          refine q_forR1 (W := W9) (ew_lenL (ew_ls (ew_the (ew_var (v := v_way) rfl h_way)))) g0.ok hm fun W11 g11 => ?_
          have h_chart := PyI.st g11.st h_chart
          have h_size := PyI.st g11.st h_size
          have hb_places := Kd.go g11 hS_places hb_places
          have h_a := PyI.st g11.st h_a
          have h_b := PyI.st g11.st h_b
          have h_reached := PyI.st g11.st h_reached
          have h_way := PyI.st g11.st h_way
          have h_paper := PyI.st g11.st h_paper
          have g0 := g0.trans g11
          refine ⟨fun y σ' W' => ∃ (o_k : Option V), σ' = [some (.ref d.p), some v_chart, some v_size, some v_places, some v_a, some v_b, some v_reached, some v_way, some v_paper, o_k] ∧ Gw (efD d) W0 W' ∧ St W11 W', ⟨_, rfl, g0, (St.refl _)⟩, fun c11 y11 σi s2 Wi11 R11 nx11 ht hI hm kn11 kb11 kr11 => ?_, fun z11 σi Wi11 hI hm => ?_⟩
          ·
            obtain ⟨o_k, rfl, g0, sl11⟩ := hI
            have h_chart := PyI.st sl11 h_chart
            have h_size := PyI.st sl11 h_size
            have hb_places := Kd.go g0 hS_places hb0_places
            have h_a := PyI.st sl11 h_a
            have h_b := PyI.st sl11 h_b
            have h_reached := PyI.st sl11 h_reached
            have h_way := PyI.st sl11 h_way
            have h_paper := PyI.st sl11 h_paper
            obtain ⟨v_k, rfl, h_k⟩ := ht
            refine q_if (W := Wi11) (et_or (et_B (ew_notB (d := true) (ev_can_lie (ew_var (v := v_chart) rfl h_chart) (ew_var (v := v_size) rfl h_size) (ew_ixL (ew_ls (ew_the (ew_var (v := v_way) rfl h_way))) (ew_var (v := v_k) rfl h_k))))) (et_and (et_t (ew_gt (ew_var (v := v_k) rfl h_k) ew_int)) (et_t (ew_notInD (ew_ixL (ew_ls (ew_the (ew_var (v := v_way) rfl h_way))) (ew_var (v := v_k) rfl h_k)) (ew_rd (ev__law_sides (ew_ixL (ew_ls (ew_the (ew_var (v := v_way) rfl h_way))) (ew_sub (ew_var (v := v_k) rfl h_k) ew_int)))))))) g0.ok hm (fun W12 g12 hm => ?_) (fun W12 g12 hm => ?_)
            ·
              have h_chart := PyI.st g12.st h_chart
              have h_size := PyI.st g12.st h_size
              have hb_places := Kd.go g12 hS_places hb_places
              have h_a := PyI.st g12.st h_a
              have h_b := PyI.st g12.st h_b
              have h_reached := PyI.st g12.st h_reached
              have h_way := PyI.st g12.st h_way
              have h_paper := PyI.st g12.st h_paper
              have h_k := PyI.st g12.st h_k
              have sl11 := sl11.trans g12.st
              have g0 := g0.trans g12
              refine st_ret (W := W12) ew_bl g0.ok hm fun r13 v_ret W13 g13 hp hm => ?_
              have hm := kr11 _ _ hm
              exact hm v_ret W13 (g0.trans g13) rfl hp
            ·
              have h_chart := PyI.st g12.st h_chart
              have h_size := PyI.st g12.st h_size
              have hb_places := Kd.go g12 hS_places hb_places
              have h_a := PyI.st g12.st h_a
              have h_b := PyI.st g12.st h_b
              have h_reached := PyI.st g12.st h_reached
              have h_way := PyI.st g12.st h_way
              have h_paper := PyI.st g12.st h_paper
              have h_k := PyI.st g12.st h_k
              have sl11 := sl11.trans g12.st
              have g0 := g0.trans g12
              refine st_next ?_
              refine st_if (W := W12) (et_B (ev__law_at (ew_var (v := v_chart) rfl h_chart) (ew_fst (ew_ixL (ew_ls (ew_the (ew_var (v := v_way) rfl h_way))) (ew_var (v := v_k) rfl h_k))) (ew_snd (ew_ixL (ew_ls (ew_the (ew_var (v := v_way) rfl h_way))) (ew_var (v := v_k) rfl h_k))))) g0.ok hm (fun W14 g14 hm => ?_) (fun W14 g14 hm => ?_)
              ·
                have h_chart := PyI.st g14.st h_chart
                have h_size := PyI.st g14.st h_size
                have hb_places := Kd.go g14 hS_places hb_places
                have h_a := PyI.st g14.st h_a
                have h_b := PyI.st g14.st h_b
                have h_reached := PyI.st g14.st h_reached
                have h_way := PyI.st g14.st h_way
                have h_paper := PyI.st g14.st h_paper
                have h_k := PyI.st g14.st h_k
                have sl11 := sl11.trans g14.st
                have g0 := g0.trans g14
                refine st_ret (W := W14) ew_bl g0.ok hm fun r15 v_ret W15 g15 hp hm => ?_
                have hm := kr11 _ _ hm
                exact hm v_ret W15 (g0.trans g15) rfl hp
              ·
                have h_chart := PyI.st g14.st h_chart
                have h_size := PyI.st g14.st h_size
                have hb_places := Kd.go g14 hS_places hb_places
                have h_a := PyI.st g14.st h_a
                have h_b := PyI.st g14.st h_b
                have h_reached := PyI.st g14.st h_reached
                have h_way := PyI.st g14.st h_way
                have h_paper := PyI.st g14.st h_paper
                have h_k := PyI.st g14.st h_k
                have sl11 := sl11.trans g14.st
                have g0 := g0.trans g14
                refine st_next ?_
                exact kn11 () _ W14 ⟨_, rfl, g0, sl11⟩ hm
          ·
            obtain ⟨o_k, rfl, g0, sl11⟩ := hI
            have h_chart := PyI.st sl11 h_chart
            have h_size := PyI.st sl11 h_size
            have hb_places := Kd.go g0 hS_places hb0_places
            have h_a := PyI.st sl11 h_a
            have h_b := PyI.st sl11 h_b
            have h_reached := PyI.st sl11 h_reached
            have h_way := PyI.st sl11 h_way
            have h_paper := PyI.st sl11 h_paper
            refine st_if (W := Wi11) (et_and (et_t (ew_gt (ew_var (v := v_size) rfl h_size) ew_int)) (et_and (et_t (ew_gt (ew_min4 (ew_fst (ew_var (v := v_a) rfl h_a)) (ew_snd (ew_var (v := v_a) rfl h_a)) (ew_fst (ew_var (v := v_b) rfl h_b)) (ew_snd (ew_var (v := v_b) rfl h_b))) (ew_neg (ew_var (v := v_size) rfl h_size)))) (et_B (ew_isN (ev_voyage (ew_var (v := v_chart) rfl h_chart) (ew_sub (ew_var (v := v_size) rfl h_size) ew_int) (ew_var (v := v_a) rfl h_a) (ew_var (v := v_b) rfl h_b)))))) g0.ok hm (fun W16 g16 hm => ?_) (fun W16 g16 hm => ?_)
            ·
              have h_chart := PyI.st g16.st h_chart
              have h_size := PyI.st g16.st h_size
              have hb_places := Kd.go g16 hS_places hb_places
              have h_a := PyI.st g16.st h_a
              have h_b := PyI.st g16.st h_b
              have h_reached := PyI.st g16.st h_reached
              have h_way := PyI.st g16.st h_way
              have h_paper := PyI.st g16.st h_paper
              have g0 := g0.trans g16
              refine st_ret (W := W16) ew_bl g0.ok hm fun r17 v_ret W17 g17 hp hm => ?_
              exact hm v_ret W17 (g0.trans g17) rfl hp
            ·
              have h_chart := PyI.st g16.st h_chart
              have h_size := PyI.st g16.st h_size
              have hb_places := Kd.go g16 hS_places hb_places
              have h_a := PyI.st g16.st h_a
              have h_b := PyI.st g16.st h_b
              have h_reached := PyI.st g16.st h_reached
              have h_way := PyI.st g16.st h_way
              have h_paper := PyI.st g16.st h_paper
              have g0 := g0.trans g16
              refine st_next ?_
              try dsimp only
              refine st_ret (W := W16) ew_bl g0.ok hm fun r18 v_ret W18 g18 hp hm => ?_
              exact hm v_ret W18 (g0.trans g18) rfl hp
      ·
        have h_chart := PyI.st g8.st h_chart
        have h_size := PyI.st g8.st h_size
        have hb_places := Kd.go g8 hS_places hb_places
        have h_a := PyI.st g8.st h_a
        have h_b := PyI.st g8.st h_b
        have h_reached := PyI.st g8.st h_reached
        have h_way := PyI.st g8.st h_way
        have h_paper := PyI.st g8.st h_paper
        have g0 := g0.trans g8
        refine st_if (W := W8) (et_or (et_t (ew_notInD (ew_var (v := v_a) rfl h_a) (ew_ls (ew_the (ew_var (v := v_paper) rfl h_paper))))) (et_t (ew_inD (ew_var (v := v_b) rfl h_b) (ew_ls (ew_the (ew_var (v := v_paper) rfl h_paper)))))) g0.ok hm (fun W19 g19 hm => ?_) (fun W19 g19 hm => ?_)
        ·
          have h_chart := PyI.st g19.st h_chart
          have h_size := PyI.st g19.st h_size
          have hb_places := Kd.go g19 hS_places hb_places
          have h_a := PyI.st g19.st h_a
          have h_b := PyI.st g19.st h_b
          have h_reached := PyI.st g19.st h_reached
          have h_way := PyI.st g19.st h_way
          have h_paper := PyI.st g19.st h_paper
          have g0 := g0.trans g19
          refine st_ret (W := W19) ew_bl g0.ok hm fun r20 v_ret W20 g20 hp hm => ?_
          exact hm v_ret W20 (g0.trans g20) rfl hp
        ·
          have h_chart := PyI.st g19.st h_chart
          have h_size := PyI.st g19.st h_size
          have hb_places := Kd.go g19 hS_places hb_places
          have h_a := PyI.st g19.st h_a
          have h_b := PyI.st g19.st h_b
          have h_reached := PyI.st g19.st h_reached
          have h_way := PyI.st g19.st h_way
          have h_paper := PyI.st g19.st h_paper
          have g0 := g0.trans g19
          refine st_next ?_
          try dsimp only
          refine st_ret (W := W19) ew_bl g0.ok hm fun r21 v_ret W21 g21 hp hm => ?_
          exact hm v_ret W21 (g0.trans g21) rfl hp
abbrev s_law : Stmt := top 53
abbrev N_law : List Str := ["script", "deal", "chart", "size", "places", "turn", "wide", "other", "most", "inside", "place"]
abbrev P_law : List Str := ["script"]
theorem sc_law : FnScope N_law P_law (defScope s_law) := ⟨rfl, rfl, rfl, by decide +kernel, rfl, by decide +kernel, by decide +kernel⟩
def m_law (a_script : List Int) : WP Bool := (WP.b1 (WP.pure ()) m__law_chart).bind fun a1_chart => (WP.add (WP.pure (1 : Int)) (WP.b2 (WP.pure ()) (WP.pure (3 : Int)) m_take)).bind fun a2_size => (WP.b2 (WP.pure a1_chart) (WP.pure a2_size) m__law_places).bind fun a3_places => (WP.not (WP.b2 ((WP.b2 (WP.pure a1_chart) (WP.pure a2_size) m_ship_places).bind fun xs => WP.pure (xs.map Dat.dat)) ((WP.pure a3_places).bind fun xs => WP.pure (xs.map Dat.dat)) m__law_same__l)).bind fun b => WP.cond b ((WP.pure false).bind fun r5 => (WP.pure r5)) ((WP.range1 (WP.pure (3 : Int))).bind fun xs6 => WP.after (WP.loop (γ := Bool) (fun c6 (y6 : Unit) => (WP.not (WP.b4 (WP.pure ()) (WP.pure a1_chart) (WP.pure a2_size) (WP.pure a3_places) m__law_sails)).bind fun b => WP.cond b ((WP.pure false).bind fun r8 => (WP.pure (.rt r8))) ((WP.pure (.nx ())))) xs6 ()) (fun (z6 : Unit) => (WP.b2 (WP.pure a1_chart) (WP.add (WP.pure a2_size) (WP.pure (1 : Int))) m_swept).bind fun a9_wide => (WP.or (WP.notB (WP.b2 (WP.b2 (WP.pure a1_chart) (WP.pure a2_size) m_swept) (WP.pure a9_wide) m_is_within) true) (WP.notB (WP.b2 (WP.pure a1_chart) (WP.b2 (WP.pure a1_chart) (WP.pure a2_size) m_swept) m_is_within) true)).bind fun b => WP.cond b ((WP.pure false).bind fun r11 => (WP.pure r11)) ((WP.not (WP.b2 ((WP.b2 (WP.pure a1_chart) (WP.pure (1 : Int)) m_swept).bind fun x => WP.pure (Dat.dat x)) ((WP.pure a1_chart).bind fun x => WP.pure (Dat.dat x)) (m__law_same 6))).bind fun b => WP.cond b ((WP.pure false).bind fun r13 => (WP.pure r13)) ((WP.b1 (WP.pure a1_chart) m_reverse).bind fun a14_other => (WP.b1 (WP.pure a14_other) m_largest_square).bind fun a15_most => (WP.lc (WP.pure a3_places) (fun c1 => (WP.and (WP.chain (fun i j => decide (i ≤ j)) (fun i j => decide (i ≤ j)) (WP.pure (0 : Int)) (WP.fst (WP.pure c1)) (WP.sub (WP.len (WP.pure a1_chart)) (WP.pure a2_size))) (WP.chain (fun i j => decide (i ≤ j)) (fun i j => decide (i ≤ j)) (WP.pure (0 : Int)) (WP.snd (WP.pure c1)) (WP.sub (WP.lenS (WP.ix (WP.pure a1_chart) (WP.pure (0 : Int)))) (WP.pure a2_size))))) (fun c1 => (WP.pure c1))).bind fun a16_inside => (WP.ne (WP.gt (WP.len (WP.pure a16_inside)) (WP.pure (0 : Int))) (WP.ge (WP.pure a15_most) (WP.pure a2_size))).bind fun b => WP.cond b ((WP.pure false).bind fun r18 => (WP.pure r18)) ((WP.and (WP.eq (WP.pure a15_most) (WP.pure a2_size)) (WP.not (WP.b2 ((WP.b1 (WP.pure a14_other) m_largest_places).bind fun xs => WP.pure (xs.map Dat.dat)) ((WP.pure a16_inside).bind fun xs => WP.pure (xs.map Dat.dat)) m__law_same__l))).bind fun b => WP.cond b ((WP.pure false).bind fun r20 => (WP.pure r20)) ((WP.b2 (WP.pure ()) (WP.pure a3_places) m__law_pick).bind fun a21_place => (WP.eqLD (WP.b1 (WP.b5 (WP.pure a1_chart) (WP.fst (WP.pure a21_place)) (WP.snd (WP.pure a21_place)) (WP.pure a2_size) (WP.pure a2_size) m_window) m__law_dry) (WP.row (WP.pure ([] : List Sq)))).bind fun r22 => (WP.pure r22)))))) (fun r => (WP.pure r)))
theorem ok_law {fa : Addr} {fd : FuncData} (LT : ∀ ns : List Int, ns.length ≤ 63 → (m_law ns).run 0 fun _ b => b = true) (F : Fun K "law" "law" s_law fa fd) (G : Glb mg) (H__law_chart : Has P w K mg base "_law_chart" 3 P__law_chart sp__law_chart) (H__law_deal : Has P w K mg base "_law_deal" 1 P__law_deal (sp_deal K)) (H__law_dry : Has P w K mg base "_law_dry" 2 P__law_dry sp__law_dry) (H__law_pick : Has P w K mg base "_law_pick" 2 P__law_pick sp__law_pick) (H__law_places : Has P w K mg base "_law_places" 3 P__law_places sp__law_places) (H__law_sails : Has P w K mg base "_law_sails" 7 P__law_sails sp__law_sails) (H__law_same : Has P w K mg base "_law_same" 7 P__law_same (sp__law_same 6)) (H__law_same__l : Has P w K mg base "_law_same" 8 P__law_same__l sp__law_same__l) (H__law_take : Has P w K mg base "_law_take" 1 P__law_take sp_take) (H_is_within : Has P w K mg base "is_within" 4 P_is_within sp_is_within) (H_largest_places : Has P w K mg base "largest_places" 4 P_largest_places sp_largest_places) (H_largest_square : Has P w K mg base "largest_square" 4 P_largest_square sp_largest_square) (H_reverse : Has P w K mg base "reverse" 3 P_reverse sp_reverse) (H_ship_places : Has P w K mg base "ship_places" 4 P_ship_places sp_ship_places) (H_swept : Has P w K mg base "swept" 5 P_swept sp_swept) (H_window : Has P w K mg base "window" 4 P_window sp_window) : FnOk P w K mg base CX0 9 fa fd P_law (sp_law K) := by
  refine F.ok sc_law (fun vs H Q E h => ?_) (fun cdv A outer s Hent vs Q E hr h => ?_)
  · obtain ⟨v_script, a_script, rfl, _⟩ := h
    rfl
  · obtain ⟨v_script, a_script, rfl, h_script, hlen, kret⟩ := h
    have hm := LT a_script hlen
    have g00 : Good ef0 ⟨Hent, fun _ => False, 0⟩ := ⟨fun _ z => z.elim, fun _ z => z.elim, True.intro⟩
    have sc := sc_law
    have g0 := Gw.refl g00
    unfold m_law at hm
    refine ⟨_, (pss_cons (ps_set (i := 1) sc.nd rfl (Or.inl rfl) (pe_user H__law_deal (hr.mono (by decide)) rfl (pa_cons (pv 0) pa_nil)))
      (pss_cons (ps_set (i := 2) sc.nd rfl (Or.inr rfl) (pe_user H__law_chart (hr.mono (by decide)) rfl (pa_cons (pv 1) pa_nil)))
      (pss_cons (ps_set (i := 3) sc.nd rfl (Or.inr rfl) (pe_op op_add pe_int (pe_user H__law_take (hr.mono (by decide)) rfl (pa_cons (pv 1) (pa_cons pe_int pa_nil)))))
      (pss_cons (ps_set (i := 4) sc.nd rfl (Or.inl rfl) (pe_user H__law_places (hr.mono (by decide)) rfl (pa_cons (pv 2) (pa_cons (pv 3) pa_nil))))
      (pss_cons (ps_if (pt_not (pt_val (pe_user H__law_same__l (hr.mono (by decide)) rfl (pa_cons (pe_user H_ship_places (hr.mono (by decide)) rfl (pa_cons (pv 2) (pa_cons (pv 3) pa_nil))) (pa_cons (pv 4) pa_nil))))) (pss_one (ps_ret pe_bl)) pss_nil)
      (pss_cons (ps_for PassesOwn.never rfl (pi_range1 rfl G.range (pa_cons pe_int pa_nil)) (pg_name (i := 5) sc.nd rfl (Or.inl rfl))
      (pss_one (ps_if (pt_not (pt_val (pe_user H__law_sails (hr.mono (by decide)) rfl (pa_cons (pv 1) (pa_cons (pv 2) (pa_cons (pv 3) (pa_cons (pv 4) pa_nil))))))) (pss_one (ps_ret pe_bl)) pss_nil)))
      (pss_cons (ps_set (i := 6) sc.nd rfl (Or.inl rfl) (pe_user H_swept (hr.mono (by decide)) rfl (pa_cons (pv 2) (pa_cons (pe_op op_add (pv 3) pe_int) pa_nil))))
      (pss_cons (ps_if (PW.pt (pw_or (pt_cmp (pc_notB (pe_user H_is_within (hr.mono (by decide)) rfl (pa_cons (pe_user H_swept (hr.mono (by decide)) rfl (pa_cons (pv 2) (pa_cons (pv 3) pa_nil))) (pa_cons (pv 6) pa_nil))))) (pw_or1 (pt_cmp (pc_notB (pe_user H_is_within (hr.mono (by decide)) rfl (pa_cons (pv 2) (pa_cons (pe_user H_swept (hr.mono (by decide)) rfl (pa_cons (pv 2) (pa_cons (pv 3) pa_nil))) pa_nil)))))))) (pss_one (ps_ret pe_bl)) pss_nil)
      (pss_cons (ps_if (pt_not (pt_val (pe_user H__law_same (hr.mono (by decide)) rfl (pa_cons (pe_user H_swept (hr.mono (by decide)) rfl (pa_cons (pv 2) (pa_cons pe_int pa_nil))) (pa_cons (pv 2) pa_nil))))) (pss_one (ps_ret pe_bl)) pss_nil)
      (pss_cons (ps_set (i := 7) sc.nd rfl (Or.inl rfl) (pe_user H_reverse (hr.mono (by decide)) rfl (pa_cons (pv 2) pa_nil)))
      (pss_cons (ps_set (i := 8) sc.nd rfl (Or.inl rfl) (pe_user H_largest_square (hr.mono (by decide)) rfl (pa_cons (pv 7) pa_nil)))
      (pss_cons (ps_setLc (i := 9) (own := [("place", 10)]) (g := gName 10) rfl sc.nd rfl rfl (sw_true rfl rfl rfl (by decide +kernel)) (pi_list (pv 4)) (blkOk_by (N := N_law) (sc := defScope s_law) (by decide +kernel)) (fun _ _ _ _ _ => (pg_name (i := 10) sc.nd rfl (Or.inl rfl))) (fun _ _ _ _ _ => (pts_one (PW.pt (pw_and (pt_chain op_le op_le pe_int (pe_ix (ix_tupK (K := K) rfl) (pv 10) pe_int (fun _ _ => rfl)) (pe_op op_sub (pe_callB (call_len_seqK (K := K) rfl) (by rfl) G.len PySem.boot_len (pa_cons (pv 2) pa_nil)) (pv 3))) (pw_and1 (pt_chain op_le op_le pe_int (pe_ix (ix_tupK (K := K) rfl) (pv 10) pe_int (fun _ _ => rfl)) (pe_op op_sub (pe_callB call_len_str (by rfl) G.len PySem.boot_len (pa_cons (pe_ix (ix_tupK (K := K) rfl) (pv 2) pe_int (fun _ _ => rfl)) pa_nil)) (pv 3)))))))) (fun _ _ _ _ _ => (pv 10)))
      (pss_cons (ps_if (pt_cmpR op_ne (pe_cmpR op_gt (pe_callB call_len_seq (by rfl) G.len PySem.boot_len (pa_cons (pv 9) pa_nil)) pe_int (nomark _)) (pe_cmpR op_ge (pv 8) (pv 3) (nomark _)) (nomark _)) (pss_one (ps_ret pe_bl)) pss_nil)
      (pss_cons (ps_if (PW.pt (pw_and (pt_cmpR op_eq (pv 8) (pv 3) (nomark _)) (pw_and1 (pt_not (pt_val (pe_user H__law_same__l (hr.mono (by decide)) rfl (pa_cons (pe_user H_largest_places (hr.mono (by decide)) rfl (pa_cons (pv 7) pa_nil)) (pa_cons (pv 9) pa_nil)))))))) (pss_one (ps_ret pe_bl)) pss_nil)
      (pss_cons (ps_set (i := 10) sc.nd rfl (Or.inl rfl) (pe_user H__law_pick (hr.mono (by decide)) rfl (pa_cons (pv 1) (pa_cons (pv 4) pa_nil))))
      (pss_one (ps_ret (pe_cmpR (op_eqD hr.units) (pe_user H__law_dry (hr.mono (by decide)) rfl (pa_cons (pe_user H_window (hr.mono (by decide)) rfl (pa_cons (pv 2) (pa_cons (pe_ix ix_tup (pv 10) pe_int (fun _ _ => rfl)) (pa_cons (pe_ix ix_tup (pv 10) pe_int (fun _ _ => rfl)) (pa_cons (pv 3) (pa_cons (pv 3) pa_nil)))))) pa_nil)) (pe_lst pa_nil) (nomark _))))))))))))))))))), ?_⟩
    refine q_deal (W := _) rfl h_script hlen g0.ok rfl fun d W1d g00 hn0 => ?_
    have hm := cast_n hn0 hm
    have g0 := Gw.refl g00
    first | refine norm_st (σ' := [some (.ref v_script), some (.ref d.p), none, none, none, none, none, none, none, none, none]) rfl ?_ | skip
    refine q_asg (W := W1d) (ev__law_chart (ew_deal rfl)) g0.ok hm fun a1_chart v_chart W1 g1 h_chart hm => ?_
    have g0 := g0.trans g1
    refine q_asg (W := W1) (ew_add ew_int (ev_take (ew_deal rfl) ew_int)) g0.ok hm fun a2_size v_size W2 g2 h_size hm => ?_
    have h_chart := PyI.st g2.st h_chart
    have g0 := g0.trans g2
    first | refine norm_st (σ' := [some (.ref v_script), some (.ref d.p), some v_chart, some v_size, none, none, none, none, none, none, none]) rfl ?_ | skip
    refine q_asg (W := W2) (ev__law_places (ew_var (v := v_chart) rfl h_chart) (ew_var (v := v_size) rfl h_size)) g0.ok hm fun a3_places v_places W3 g3 ⟨fp_places, ho0_places, hf_places⟩ hm => ?_
    have hz_places : ∀ a ∈ fp_places, W1d.H a = none := fun a m => g0.live a (hf_places a m).1
    have h_chart := PyI.st g3.st h_chart
    have h_size := PyI.st g3.st h_size
    have g0 := g0.trans g3
    have ho_places : Var (kL Sq) W1d W3 fp_places a3_places v_places := ⟨ho0_places, hz_places, fun b m => (hf_places b m).2.2⟩
    refine q_if (W := W3) (et_not (et_B (ev__law_same__l (ew_datL (ew_rd (ev_ship_places (ew_var (v := v_chart) rfl h_chart) (ew_var (v := v_size) rfl h_size)))) (ew_datL (ew_varR (v := v_places) rfl (Var.nS g00 ho_places) ho_places.own))))) g0.ok hm (fun W4 g4 hm => ?_) (fun W4 g4 hm => ?_)
    ·
      have h_chart := PyI.st g4.st h_chart
      have h_size := PyI.st g4.st h_size
      have ho_places := ho_places.go g00 g4
      have g0 := g0.trans g4
      refine st_ret (W := W4) ew_bl g0.ok hm fun r5 v_ret W5 g5 hp hm => ?_
      have hm : r5 = true := hm
      cases hp
      rw [hm]
      exact kret _
    ·
      have h_chart := PyI.st g4.st h_chart
      have h_size := PyI.st g4.st h_size
      have ho_places := ho_places.go g00 g4
      have g0 := g0.trans g4
      refine st_next ?_
      refine q_forR1 (W := W4) ew_int g0.ok hm fun W6 g6 => ?_
      have h_chart := PyI.st g6.st h_chart
      have h_size := PyI.st g6.st h_size
      have ho_places := ho_places.go g00 g6
      have g0 := g0.trans g6
      refine ⟨fun y σ' W' => ∃ (o_turn : Option V), σ' = [some (.ref v_script), some (.ref d.p), some v_chart, some v_size, some v_places, o_turn, none, none, none, none, none] ∧ Gw (efD d) W1d W' ∧ St W6 W' ∧ Var (kL Sq) W1d W' fp_places a3_places v_places, ⟨_, rfl, g0, (St.refl _), ho_places⟩, fun c6 y6 σi s2 Wi6 R6 nx6 ht hI hm kn6 kb6 kr6 => ?_, fun z6 σi Wi6 hI hm => ?_⟩
      ·
        obtain ⟨o_turn, rfl, g0, sl6, ho_places⟩ := hI
        have h_chart := PyI.st sl6 h_chart
        have h_size := PyI.st sl6 h_size
        obtain ⟨v_turn, rfl, h_turn⟩ := ht
        refine st_if (W := Wi6) (et_not (et_B (ev__law_sails (ew_deal rfl) (ew_var (v := v_chart) rfl h_chart) (ew_var (v := v_size) rfl h_size) (ew_varR (v := v_places) rfl (Var.nS g00 ho_places) ho_places.own)))) g0.ok hm (fun W7 g7 hm => ?_) (fun W7 g7 hm => ?_)
        ·
          have h_chart := PyI.st g7.st h_chart
          have h_size := PyI.st g7.st h_size
          have ho_places := ho_places.go g00 g7
          have h_turn := PyI.st g7.st h_turn
          have sl6 := sl6.trans g7.st
          have g0 := g0.trans g7
          refine st_ret (W := W7) ew_bl g0.ok hm fun r8 v_ret W8 g8 hp hm => ?_
          have hm := kr6 _ _ hm
          have hm : r8 = true := hm
          cases hp
          rw [hm]
          exact kret _
        ·
          have h_chart := PyI.st g7.st h_chart
          have h_size := PyI.st g7.st h_size
          have ho_places := ho_places.go g00 g7
          have h_turn := PyI.st g7.st h_turn
          have sl6 := sl6.trans g7.st
          have g0 := g0.trans g7
          refine st_next ?_
          exact kn6 () _ W7 ⟨_, rfl, g0, sl6, ho_places⟩ hm
      ·
        obtain ⟨o_turn, rfl, g0, sl6, ho_places⟩ := hI
        have h_chart := PyI.st sl6 h_chart
        have h_size := PyI.st sl6 h_size
        refine q_asg (W := Wi6) (ev_swept (ew_var (v := v_chart) rfl h_chart) (ew_add (ew_var (v := v_size) rfl h_size) ew_int)) g0.ok hm fun a9_wide v_wide W9 g9 h_wide hm => ?_
        have h_chart := PyI.st g9.st h_chart
        have h_size := PyI.st g9.st h_size
        have ho_places := ho_places.go g00 g9
        have g0 := g0.trans g9
        first | refine norm_st (σ' := [some (.ref v_script), some (.ref d.p), some v_chart, some v_size, some v_places, o_turn, some v_wide, none, none, none, none]) rfl ?_ | skip
        refine q_if (W := W9) (et_or (et_B (ew_notB (d := true) (ev_is_within (ev_swept (ew_var (v := v_chart) rfl h_chart) (ew_var (v := v_size) rfl h_size)) (ew_var (v := v_wide) rfl h_wide)))) (et_B (ew_notB (d := true) (ev_is_within (ew_var (v := v_chart) rfl h_chart) (ev_swept (ew_var (v := v_chart) rfl h_chart) (ew_var (v := v_size) rfl h_size)))))) g0.ok hm (fun W10 g10 hm => ?_) (fun W10 g10 hm => ?_)
        ·
          have h_chart := PyI.st g10.st h_chart
          have h_size := PyI.st g10.st h_size
          have ho_places := ho_places.go g00 g10
          have h_wide := PyI.st g10.st h_wide
          have g0 := g0.trans g10
          refine st_ret (W := W10) ew_bl g0.ok hm fun r11 v_ret W11 g11 hp hm => ?_
          have hm : r11 = true := hm
          cases hp
          rw [hm]
          exact kret _
        ·
          have h_chart := PyI.st g10.st h_chart
          have h_size := PyI.st g10.st h_size
          have ho_places := ho_places.go g00 g10
          have h_wide := PyI.st g10.st h_wide
          have g0 := g0.trans g10
          refine st_next ?_
          refine q_if (W := W10) (et_not (et_B (ev__law_same (ew_dat (ev_swept (ew_var (v := v_chart) rfl h_chart) ew_int)) (ew_dat (ew_var (v := v_chart) rfl h_chart))))) g0.ok hm (fun W12 g12 hm => ?_) (fun W12 g12 hm => ?_)
          ·
            have h_chart := PyI.st g12.st h_chart
            have h_size := PyI.st g12.st h_size
            have ho_places := ho_places.go g00 g12
            have h_wide := PyI.st g12.st h_wide
            have g0 := g0.trans g12
            refine st_ret (W := W12) ew_bl g0.ok hm fun r13 v_ret W13 g13 hp hm => ?_
            have hm : r13 = true := hm
            cases hp
            rw [hm]
            exact kret _
          ·
            have h_chart := PyI.st g12.st h_chart
            have h_size := PyI.st g12.st h_size
            have ho_places := ho_places.go g00 g12
            have h_wide := PyI.st g12.st h_wide
            have g0 := g0.trans g12
            refine st_next ?_
            refine q_asg (W := W12) (ev_reverse (ew_var (v := v_chart) rfl h_chart)) g0.ok hm fun a14_other v_other W14 g14 h_other hm => ?_
            have h_chart := PyI.st g14.st h_chart
            have h_size := PyI.st g14.st h_size
            have ho_places := ho_places.go g00 g14
            have h_wide := PyI.st g14.st h_wide
            have g0 := g0.trans g14
            refine q_asg (W := W14) (ev_largest_square (ew_var (v := v_other) rfl h_other)) g0.ok hm fun a15_most v_most W15 g15 h_most hm => ?_
            have h_chart := PyI.st g15.st h_chart
            have h_size := PyI.st g15.st h_size
            have ho_places := ho_places.go g00 g15
            have h_wide := PyI.st g15.st h_wide
            have h_other := PyI.st g15.st h_other
            have g0 := g0.trans g15
            first | refine norm_st (σ' := [some (.ref v_script), some (.ref d.p), some v_chart, some v_size, some v_places, o_turn, some v_wide, some v_other, some v_most, none, none]) rfl ?_ | skip
            refine q_asg (W := W15) (ew_lcL (ew_varR (v := v_places) rfl (Var.nS g00 ho_places) ho_places.own) takes_N (fun _ _ _ h => by obtain ⟨v_place, ec, h_place⟩ := h; subst ec; rfl) (fun c1 Wc1 s2 gc1 h => by obtain ⟨v_place, ec, h_place⟩ := h; subst ec; have h_chart := PyI.st gc1.st h_chart; have h_size := PyI.st gc1.st h_size; have ho_places := ho_places.go g00 gc1; exact (et_and (et_t (ew_chain (C := fun i j => decide (i ≤ j)) (C' := fun i j => decide (i ≤ j)) ew_int (ew_fst (ew_var (v := v_place) rfl h_place)) (ew_sub (ew_lenT (ew_var (v := v_chart) rfl h_chart)) (ew_var (v := v_size) rfl h_size)))) (et_t (ew_chain (C := fun i j => decide (i ≤ j)) (C' := fun i j => decide (i ≤ j)) ew_int (ew_snd (ew_var (v := v_place) rfl h_place)) (ew_sub (ew_lenS (ew_ixT (ew_var (v := v_chart) rfl h_chart) ew_int)) (ew_var (v := v_size) rfl h_size)))))) (fun c1 Wc1 s2 gc1 h => by obtain ⟨v_place, ec, h_place⟩ := h; subst ec; have h_chart := PyI.st gc1.st h_chart; have h_size := PyI.st gc1.st h_size; have ho_places := ho_places.go g00 gc1; exact (ew_var (v := v_place) rfl h_place))) g0.ok hm fun a16_inside v_inside W16 g16 ⟨fp_inside, ho0_inside, hf_inside⟩ hm => ?_
            have dj_places_inside : ∀ b ∈ fp_places, b ∉ fp_inside := fun b m z => (kL Sq).live ho_places.own b m (hf_inside b z).1
            have hz_inside : ∀ a ∈ fp_inside, W1d.H a = none := fun a m => g0.live a (hf_inside a m).1
            have h_chart := PyI.st g16.st h_chart
            have h_size := PyI.st g16.st h_size
            have ho_places := ho_places.go g00 g16
            have h_wide := PyI.st g16.st h_wide
            have h_other := PyI.st g16.st h_other
            have h_most := PyI.st g16.st h_most
            have g0 := g0.trans g16
            have ho_inside : Var (kL Sq) W1d W16 fp_inside a16_inside v_inside := ⟨ho0_inside, hz_inside, fun b m => (hf_inside b m).2.2⟩
            refine q_if (W := W16) (et_t (ew_ne (ew_gt (ew_lenL (ew_varR (v := v_inside) rfl (Var.nS g00 ho_inside) ho_inside.own)) ew_int) (ew_ge (ew_var (v := v_most) rfl h_most) (ew_var (v := v_size) rfl h_size)))) g0.ok hm (fun W17 g17 hm => ?_) (fun W17 g17 hm => ?_)
            ·
              have h_chart := PyI.st g17.st h_chart
              have h_size := PyI.st g17.st h_size
              have ho_places := ho_places.go g00 g17
              have h_wide := PyI.st g17.st h_wide
              have h_other := PyI.st g17.st h_other
              have h_most := PyI.st g17.st h_most
              have ho_inside := ho_inside.go g00 g17
              have g0 := g0.trans g17
              refine st_ret (W := W17) ew_bl g0.ok hm fun r18 v_ret W18 g18 hp hm => ?_
              have hm : r18 = true := hm
              cases hp
              rw [hm]
              exact kret _
            ·
              have h_chart := PyI.st g17.st h_chart
              have h_size := PyI.st g17.st h_size
              have ho_places := ho_places.go g00 g17
              have h_wide := PyI.st g17.st h_wide
              have h_other := PyI.st g17.st h_other
              have h_most := PyI.st g17.st h_most
              have ho_inside := ho_inside.go g00 g17
              have g0 := g0.trans g17
              refine st_next ?_
              refine q_if (W := W17) (et_and (et_t (ew_eq (ew_var (v := v_most) rfl h_most) (ew_var (v := v_size) rfl h_size))) (et_not (et_B (ev__law_same__l (ew_datL (ew_rd (ev_largest_places (ew_var (v := v_other) rfl h_other)))) (ew_datL (ew_varR (v := v_inside) rfl (Var.nS g00 ho_inside) ho_inside.own)))))) g0.ok hm (fun W19 g19 hm => ?_) (fun W19 g19 hm => ?_)
              ·
                have h_chart := PyI.st g19.st h_chart
                have h_size := PyI.st g19.st h_size
                have ho_places := ho_places.go g00 g19
                have h_wide := PyI.st g19.st h_wide
                have h_other := PyI.st g19.st h_other
                have h_most := PyI.st g19.st h_most
                have ho_inside := ho_inside.go g00 g19
                have g0 := g0.trans g19
                refine st_ret (W := W19) ew_bl g0.ok hm fun r20 v_ret W20 g20 hp hm => ?_
                have hm : r20 = true := hm
                cases hp
                rw [hm]
                exact kret _
              ·
                have h_chart := PyI.st g19.st h_chart
                have h_size := PyI.st g19.st h_size
                have ho_places := ho_places.go g00 g19
                have h_wide := PyI.st g19.st h_wide
                have h_other := PyI.st g19.st h_other
                have h_most := PyI.st g19.st h_most
                have ho_inside := ho_inside.go g00 g19
                have g0 := g0.trans g19
                refine st_next ?_
                refine q_asg (W := W19) (ev__law_pick (ew_deal rfl) (ew_varR (v := v_places) rfl (Var.nS g00 ho_places) ho_places.own)) g0.ok hm fun a21_place v_place W21 g21 h_place hm => ?_
                have h_chart := PyI.st g21.st h_chart
                have h_size := PyI.st g21.st h_size
                have ho_places := ho_places.go g00 g21
                have h_wide := PyI.st g21.st h_wide
                have h_other := PyI.st g21.st h_other
                have h_most := PyI.st g21.st h_most
                have ho_inside := ho_inside.go g00 g21
                have g0 := g0.trans g21
                first | refine norm_st (σ' := [some (.ref v_script), some (.ref d.p), some v_chart, some v_size, some v_places, o_turn, some v_wide, some v_other, some v_most, some v_inside, some v_place]) rfl ?_ | skip
                refine st_ret (W := W21) (ew_eqLD (ew_rd (ev__law_dry (ev_window (ew_var (v := v_chart) rfl h_chart) (ew_fst (ew_var (v := v_place) rfl h_place)) (ew_snd (ew_var (v := v_place) rfl h_place)) (ew_var (v := v_size) rfl h_size) (ew_var (v := v_size) rfl h_size)))) (ew_rd (ew_lst (eas_nil (α := Sq))))) g0.ok hm fun r22 v_ret W22 g22 hp hm => ?_
                have hm : r22 = true := hm
                cases hp
                rw [hm]
                exact kret _
end
end W
/-! working with models -/
namespace Y
open PySem L2
namespace WP
variable {α β γ s : Type}
theorem run_cond {b : Bool} {A B : WP α} {n : Nat} {Q : Nat → α → Prop} : (cond b A B).run n Q = ((b = true → A.run n Q) ∧ (b = false → B.run n Q)) := by
  cases b with
  | true => exact propext ⟨fun h => ⟨fun _ => h, (fun z => by cases z)⟩, fun h => h.1 rfl⟩
  | false => exact propext ⟨fun h => ⟨(fun z => by cases z), fun _ => h⟩, fun h => h.2 rfl⟩
theorem run_range1 {w : WP Int} {n : Nat} {Q : Nat → List Int → Prop} : (range1 w).run n Q = w.run n (fun m k => (-100000000 ≤ k ∧ k ≤ 100000000) ∧ Q m (rangeL 0 k)) := rfl
theorem run_range2 {a b : WP Int} {n : Nat} {Q : Nat → List Int → Prop} : (range2 a b).run n Q = a.run n (fun m x => b.run m fun m y => (-100000000 ≤ x ∧ x ≤ 100000000 ∧ -100000000 ≤ y ∧ y ≤ 100000000) ∧ Q m (rangeL x y)) := rfl
def afterQ {ρ : Type} (f : s → WP ρ) (r : γ → WP ρ) (Q : Nat → ρ → Prop) : Nat → Ctl s γ → Prop
  | m, .nx y => (f y).run m Q
  | m, .bk y => (f y).run m Q
  | m, .rt q => (r q).run m Q
theorem after_of {ρ : Type} {w : WP (Ctl s γ)} {n : Nat} {f : s → WP ρ} {r : γ → WP ρ} {Q : Nat → ρ → Prop} (h : w.run n (afterQ f r Q)) : (after w f r).run n Q := w.mono (fun m c hc => by
  cases c with
  | nx z => exact hc
  | bk z => exact hc
  | rt q => exact hc) h
/-- what a turn may do: I for the next one, or the end -/
def turnQ {ρ : Type} (J : Nat → s → Prop) (f : s → WP ρ) (r : γ → WP ρ) (Q : Nat → ρ → Prop) : Nat → Ctl s γ → Prop
  | m, .nx y => J m y
  | m, .bk y => (f y).run m Q
  | m, .rt q => (r q).run m Q
/-- a loop, then what follows it -/
theorem after_inv {ρ : Type} {body : α → s → WP (Ctl s γ)} {xs : List α} {x : s} {n : Nat} {f : s → WP ρ} {r : γ → WP ρ} {Q : Nat → ρ → Prop} (I : Nat → Nat → s → Prop) (h0 : I 0 n x)
    (hs : ∀ i m a y, xs[i]? = some a → I i m y → (body a y).run m (turnQ (I (i + 1)) f r Q)) (hd : ∀ m y, I xs.length m y → (f y).run m Q) : (after (loop body xs x) f r).run n Q :=
  after_of (loop_inv I h0 (fun i m a y ha hi => (body a y).mono (fun m' c hc => by
    cases c with
    | nx z => exact hc
    | bk z => exact hc
    | rt q => exact hc) (hs i m a y ha hi)) hd)
end WP
/-- the weakest condition of a model, one step after another -/
theorem rangeL0_len {k : Int} : (rangeL 0 k).length = k.toNat := by rw [rangeL_len, Int.sub_zero]
theorem rangeL0_get {k a : Int} {i : Nat} (h : (rangeL 0 k)[i]? = some a) : a = (i : Int) ∧ (i : Int) < k := by
  have hl : i < (rangeL 0 k).length := (List.getElem?_eq_some_iff.mp h).1
  rw [rangeL0_len] at hl
  rw [rangeL_get (by rw [Int.sub_zero]; exact hl)] at h
  have := Option.some.inj h
  omega
end Y

/-! plain facts: charts, breadth first search -/
namespace Y
open PySem L2
/-- the model's value is a, without a draw -/
def Is {α : Type} (w : WP α) (a : α) : Prop := ∀ n Q, Q n a → w.run n Q
/-- the model's value keeps P, without a draw -/
def Gives {α : Type} (w : WP α) (P : α → Prop) : Prop := ∀ n Q, (∀ b, P b → Q n b) → w.run n Q
/-- the model's value keeps P, with at most k draws -/
def Draws {α : Type} (w : WP α) (k : Nat) (P : α → Prop) : Prop := ∀ n Q, n + k ≤ 1000000 → (∀ m b, n ≤ m → m ≤ n + k → P b → Q m b) → w.run n Q
def wid (ch : List Str) : Nat := (ixD ch 0).length
structure Ch (ch : List Str) : Prop where
  ne : 0 < ch.length
  hl : ch.length ≤ 300
  w : ∀ s ∈ ch, s.length = wid ch
  w0 : 0 < wid ch
  wl : wid ch ≤ 300
def isSq (ch : List Str) (q : Sq) : Bool := (decide (0 ≤ q.1) && decide (q.1 < (ch.length : Int))) && (decide (0 ≤ q.2) && decide (q.2 < (wid ch : Int)))
def isLd (ch : List Str) (q : Sq) : Bool := isSq ch q && decide (sgn (ixD ch q.1) q.2 = "x")
theorem isSq_iff {ch : List Str} {q : Sq} : isSq ch q = true ↔ 0 ≤ q.1 ∧ q.1 < (ch.length : Int) ∧ 0 ≤ q.2 ∧ q.2 < (wid ch : Int) := by
  unfold isSq
  simp only [Bool.and_eq_true, decide_eq_true_eq]
  exact ⟨fun ⟨⟨a, b⟩, c, d⟩ => ⟨a, b, c, d⟩, fun ⟨a, b, c, d⟩ => ⟨⟨a, b⟩, c, d⟩⟩
theorem isLd_iff {ch : List Str} {q : Sq} : isLd ch q = true ↔ isSq ch q = true ∧ sgn (ixD ch q.1) q.2 = "x" := by
  unfold isLd
  rw [Bool.and_eq_true, decide_eq_true_eq]
theorem isLd_sq {ch : List Str} {q : Sq} (h : isLd ch q = true) : isSq ch q = true := (isLd_iff.mp h).1
theorem ixD_get {α : Type} [Inhabited α] {xs : List α} {i : Int} (h0 : 0 ≤ i) (h : i < xs.length) : ∃ hl : i.toNat < xs.length, ixD xs i = xs[i.toNat] := by
  have hl : i.toNat < xs.length := by omega
  refine ⟨hl, ?_⟩
  have e : ixD xs ((i.toNat : Nat) : Int) = xs[i.toNat] := ixD_nat hl
  have e2 : ((i.toNat : Nat) : Int) = i := by omega
  rw [e2] at e
  exact e
theorem ixD_mem {α : Type} [Inhabited α] {xs : List α} {i : Int} (h0 : 0 ≤ i) (h : i < xs.length) : ixD xs i ∈ xs := by
  obtain ⟨hl, e⟩ := ixD_get h0 h
  rw [e]; exact List.getElem_mem hl
theorem ixD_of {α : Type} [Inhabited α] {xs : List α} {i : Nat} {a : α} (h : xs[i]? = some a) : ixD xs (i : Int) = a := by
  obtain ⟨hl, e⟩ := List.getElem?_eq_some_iff.mp h
  rw [ixD_nat hl, e]
section
variable {ch : List Str} {q : Sq} (c : Ch ch)
include c
theorem Ch.ok0 : okI ch.length 0 := ⟨by have := c.ne; omega, by have := c.ne; omega⟩
theorem Ch.wl0 : (ixD ch 0).length ≤ 100000 := by have := c.wl; unfold wid at this; omega
theorem Ch.ok1 (h : isSq ch q = true) : okI ch.length q.1 := by
  have := isSq_iff.mp h
  exact ⟨by omega, by omega⟩
theorem Ch.len1 (h : isSq ch q = true) : (ixD ch q.1).length = wid ch := by
  have := isSq_iff.mp h
  exact c.w _ (ixD_mem this.1 this.2.1)
theorem Ch.wl1 (h : isSq ch q = true) : (ixD ch q.1).length ≤ 100000 := by
  rw [c.len1 h]; have := c.wl; omega
theorem Ch.ok2 (h : isSq ch q = true) : okI (ixD ch q.1).length q.2 := by
  have := isSq_iff.mp h
  rw [c.len1 h]
  exact ⟨by omega, by omega⟩
end
def sides (q : Sq) : List Sq := [(q.1 - 1, q.2), (q.1, q.2 - 1), (q.1, q.2 + 1), (q.1 + 1, q.2)]
def ldBeside (ch : List Str) (q : Sq) : List Sq := (sides q).filter (isLd ch)
theorem sides_symm {p q : Sq} (h : q ∈ sides p) : p ∈ sides q := by
  obtain ⟨a, b⟩ := p
  obtain ⟨c, d⟩ := q
  simp only [sides, List.mem_cons, Prod.mk.injEq, List.not_mem_nil, or_false] at h ⊢
  omega
/-- every square of a chart -/
def allSq (ch : List Str) : List Sq := (List.range ch.length).flatMap fun (r : Nat) => (List.range (wid ch)).map fun (c : Nat) => (((r : Int), (c : Int)) : Sq)
theorem mem_allSq {ch : List Str} {q : Sq} : q ∈ allSq ch ↔ isSq ch q = true := by
  rw [isSq_iff]
  unfold allSq
  simp only [List.mem_flatMap, List.mem_map, List.mem_range]
  constructor
  · rintro ⟨r, hr, c, hc, rfl⟩
    exact ⟨by simp, by simpa using hr, by simp, by simpa using hc⟩
  · rintro ⟨h1, h2, h3, h4⟩
    exact ⟨q.1.toNat, by omega, q.2.toNat, by omega, by apply Prod.ext <;> simp <;> omega⟩
theorem flatMap_len {α β : Type} (xs : List α) (f : α → List β) (n : Nat) (h : ∀ x ∈ xs, (f x).length = n) : (xs.flatMap f).length = xs.length * n := by
  induction xs with
  | nil => simp
  | cons x xs ih =>
    rw [List.flatMap_cons, List.length_append, h x List.mem_cons_self, ih fun y hy => h y (List.mem_cons_of_mem _ hy), List.length_cons, Nat.succ_mul, Nat.add_comm]
theorem allSq_len (ch : List Str) : (allSq ch).length = ch.length * wid ch := by
  unfold allSq
  rw [flatMap_len _ _ (wid ch) (fun x _ => by simp), List.length_range]
theorem Ch.area {ch : List Str} (c : Ch ch) : (allSq ch).length ≤ 90000 := by
  rw [allSq_len]
  exact Nat.mul_le_mul c.hl c.wl
/-- no list without repeats in U is longer -/
theorem nodup_le {α : Type} [DecidableEq α] {xs U : List α} (nd : xs.Nodup) (h : ∀ x ∈ xs, x ∈ U) : xs.length ≤ U.length := by
  induction xs generalizing U with
  | nil => exact Nat.zero_le _
  | cons x xs ih =>
    have hx : x ∈ U := h x List.mem_cons_self
    have h1 : ∀ y ∈ xs, y ∈ U.erase x := fun y hy => by
      have : y ≠ x := fun z => (List.nodup_cons.mp nd).1 (z ▸ hy)
      exact (List.mem_erase_of_ne this).mpr (h y (List.mem_cons_of_mem _ hy))
    have h2 := ih (List.nodup_cons.mp nd).2 h1
    rw [List.length_erase_of_mem hx] at h2
    have : 0 < U.length := List.length_pos_of_mem hx
    rw [List.length_cons]; omega

/-! ### what steps lead to -/
inductive Rch (st : Sq → List Sq) (s : Sq) : Sq → Prop where
  | refl : Rch st s s
  | step {p q : Sq} : Rch st s p → q ∈ st p → Rch st s q
theorem Rch.trans {st : Sq → List Sq} {a b c : Sq} (h : Rch st a b) (h' : Rch st b c) : Rch st a c := by
  induction h' with
  | refl => exact h
  | step _ hq ih => exact .step ih hq
theorem Rch.one {st : Sq → List Sq} {a b : Sq} (h : b ∈ st a) : Rch st a b := .step .refl h
theorem Rch.mono {st st' : Sq → List Sq} {a b : Sq} (h : ∀ p q, q ∈ st p → q ∈ st' p) (r : Rch st a b) : Rch st' a b := by
  induction r with
  | refl => exact .refl
  | step _ hq ih => exact .step ih (h _ _ hq)
def Wk (st : Sq → List Sq) : Nat → Sq → Sq → Prop
  | 0, s, q => s = q
  | n + 1, s, q => ∃ p, Wk st n s p ∧ q ∈ st p
theorem Wk.rch {st : Sq → List Sq} : ∀ {n : Nat} {s q : Sq}, Wk st n s q → Rch st s q
  | 0, _, _, w => by cases w; exact .refl
  | _ + 1, _, _, ⟨_, w, h⟩ => .step w.rch h
theorem Rch.wk {st : Sq → List Sq} {s q : Sq} (r : Rch st s q) : ∃ n, Wk st n s q := by
  induction r with
  | refl => exact ⟨0, rfl⟩
  | step _ h ih => exact ⟨ih.choose + 1, _, ih.choose_spec, h⟩
/-! dicts -/
section
variable {β : Type}
theorem lookK_some {kvs : List (Sq × β)} {q : Sq} {d : β} (h : lookK kvs q = some d) : (q, d) ∈ kvs := by
  unfold lookK at h
  obtain ⟨p, hp, rfl⟩ := Option.map_eq_some_iff.mp h
  have h1 := List.find?_some hp
  have h2 := List.mem_of_find?_eq_some hp
  have : p.1 = q := of_decide_eq_true h1
  rw [← this]; exact h2
theorem lookK_none {kvs : List (Sq × β)} {q : Sq} (h : lookK kvs q = none) : q ∉ kvs.map (·.1) := by
  unfold lookK at h
  rw [Option.map_eq_none_iff, List.find?_eq_none] at h
  intro hm
  obtain ⟨p, hp, e⟩ := List.mem_map.mp hm
  exact h p hp (decide_eq_true e)
theorem hasK_iff {kvs : List (Sq × β)} {q : Sq} : hasK kvs q = true ↔ q ∈ kvs.map (·.1) := by
  unfold hasK
  constructor
  · intro h
    obtain ⟨d, hd⟩ := Option.isSome_iff_exists.mp h
    exact List.mem_map.mpr ⟨_, lookK_some hd, rfl⟩
  · intro h
    cases e : lookK kvs q with
    | none => exact absurd h (lookK_none e)
    | some d => rfl
theorem hasK_false {kvs : List (Sq × β)} {q : Sq} : hasK kvs q = false ↔ q ∉ kvs.map (·.1) := by
  rw [← hasK_iff, Bool.not_eq_true]
theorem lookK_mem {kvs : List (Sq × β)} (nd : (kvs.map (·.1)).Nodup) {q : Sq} {d : β} (h : (q, d) ∈ kvs) : lookK kvs q = some d := by
  cases e : lookK kvs q with
  | none => exact absurd (List.mem_map.mpr ⟨(q, d), h, rfl⟩) (lookK_none e)
  | some d' =>
    have h' := lookK_some e
    obtain ⟨i, hi, ei⟩ := List.mem_iff_getElem.mp h
    obtain ⟨j, hj, ej⟩ := List.mem_iff_getElem.mp h'
    have : i = j := by
      have hi' : i < (kvs.map (·.1)).length := by rw [List.length_map]; exact hi
      have hj' : j < (kvs.map (·.1)).length := by rw [List.length_map]; exact hj
      have : (kvs.map (·.1))[i] = (kvs.map (·.1))[j] := by simp [ei, ej]
      exact (List.getElem_inj nd).mp this
    subst this
    rw [ei] at ej
    injection ej with _ e2
    rw [e2]
theorem putQ_new {kvs : List (Sq × β)} {q : Sq} {b : β} (h : hasK kvs q = false) : putQ kvs q b = kvs ++ [(q, b)] := by
  unfold putQ
  rw [h]; rfl
theorem putQ_old {kvs : List (Sq × β)} {q : Sq} {b : β} (h : hasK kvs q = true) : putQ kvs q b = kvs.map (fun p => if p.1 = q then (p.1, b) else p) := by
  unfold putQ
  rw [h]; rfl
end
theorem get_snoc {α : Type} {xs : List α} {x y : α} {i : Nat} (h : (xs ++ [x])[i]? = some y) : xs[i]? = some y ∨ (i = xs.length ∧ y = x) := by
  by_cases hi : i < xs.length
  · rw [List.getElem?_append_left hi] at h
    exact .inl h
  · rw [List.getElem?_append_right (by omega)] at h
    have : i - xs.length = 0 := by
      cases e : i - xs.length with
      | zero => rfl
      | succ k => rw [e] at h; simp at h
    rw [this] at h
    simp at h
    exact .inr ⟨by omega, h.symm⟩
/-! ### a breadth first search with ghost distances: gs, at the place a -/
structure Bfs (st : Sq → List Sq) (s : Sq) (gs : List (Sq × Nat)) (a : Nat) : Prop where
  nd : (gs.map (·.1)).Nodup
  le : a ≤ gs.length
  pos : 0 < gs.length
  hd : gs[0]? = some (s, 0)
  wk : ∀ p ∈ gs, Wk st p.2 s p.1
  srt : ∀ (i j : Nat) (p q : Sq × Nat), i ≤ j → gs[i]? = some p → gs[j]? = some q → p.2 ≤ q.2
  top : ∀ (p : Sq × Nat), gs[a]? = some p → ∀ q ∈ gs, q.2 ≤ p.2 + 1
  don : ∀ (i : Nat) (p : Sq × Nat), i < a → gs[i]? = some p → ∀ q ∈ st p.1, ∃ r ∈ gs, r.1 = q ∧ r.2 ≤ p.2 + 1
/-- within the turn of the place a, i of the candidates L looked at -/
structure BfsI (st : Sq → List Sq) (s : Sq) (gs : List (Sq × Nat)) (a : Nat) (c : Sq) (d : Nat) (L : List Sq) (i : Nat) : Prop extends Bfs st s gs a where
  cur : gs[a]? = some (c, d)
  nb : ∀ q ∈ L.take i, ∃ r ∈ gs, r.1 = q ∧ r.2 ≤ d + 1
section
variable {st : Sq → List Sq} {s : Sq} {gs : List (Sq × Nat)} {a : Nat} {c : Sq} {d : Nat} {L : List Sq} {i : Nat} {q : Sq}
theorem Bfs.start : Bfs st s [(s, 0)] 0 where
  nd := by simp
  le := Nat.zero_le _
  pos := by simp
  hd := rfl
  wk := by intro p hp; simp at hp; subst hp; rfl
  srt := by
    intro i j p q _ h1 h2
    have e1 : p = (s, 0) := by
      cases i with
      | zero => simpa using h1.symm
      | succ i => simp at h1
    rw [e1]; exact Nat.zero_le _
  top := by intro p hp q hq; simp at hp hq; subst hp; subst hq; show 0 ≤ 0 + 1; decide
  don := by intro i p hi; omega
theorem Bfs.open (b : Bfs st s gs a) (h : gs[a]? = some (c, d)) : BfsI st s gs a c d L 0 :=
  { b with cur := h, nb := by intro q hq; simp at hq }
theorem BfsI.old (b : BfsI st s gs a c d L i) (h : L[i]? = some q) (hh : q ∈ gs.map (·.1)) : BfsI st s gs a c d L (i + 1) :=
  ⟨b.toBfs, b.cur, fun r hr => by
      rw [List.take_add_one, h] at hr
      rcases List.mem_append.mp hr with hr | hr
      · exact b.nb r hr
      · have : r = q := by simpa using hr
        subst this
        obtain ⟨p, hp, e⟩ := List.mem_map.mp hh
        exact ⟨p, hp, e, b.top _ b.cur p hp⟩⟩
theorem BfsI.new (b : BfsI st s gs a c d L i) (h : L[i]? = some q) (hs : q ∈ st c) (hnk : q ∉ gs.map (·.1)) : BfsI st s (gs ++ [(q, d + 1)]) a c d L (i + 1) := by
  have hal : a < gs.length := (List.getElem?_eq_some_iff.mp b.cur).1
  have top : ∀ p ∈ gs, p.2 ≤ d + 1 := fun p hp => b.top _ b.cur p hp
  refine { nd := ?_, le := ?_, pos := ?_, hd := ?_, wk := ?_, srt := ?_, top := ?_, don := ?_, cur := ?_, nb := ?_ }
  · rw [List.map_append, List.nodup_append]
    refine ⟨b.nd, by simp, fun x hx y hy => ?_⟩
    have : y = q := by simpa using hy
    subst this
    exact fun z => hnk (z ▸ hx)
  · rw [List.length_append]; have := b.le; omega
  · rw [List.length_append]; have := b.pos; omega
  · rw [List.getElem?_append_left b.pos]; exact b.hd
  · intro p hp
    rcases List.mem_append.mp hp with hp | hp
    · exact b.wk p hp
    · have : p = (q, d + 1) := by simpa using hp
      subst this
      exact ⟨c, b.wk _ (List.mem_of_getElem? b.cur), hs⟩
  · intro i j p r hij h1 h2
    rcases get_snoc h1 with h1 | ⟨e1, f1⟩
    · rcases get_snoc h2 with h2 | ⟨e2, f2⟩
      · exact b.srt i j p r hij h1 h2
      · rw [f2]; exact top p (List.mem_of_getElem? h1)
    · rcases get_snoc h2 with h2 | ⟨e2, f2⟩
      · have := (List.getElem?_eq_some_iff.mp h2).1
        omega
      · rw [f1, f2]; exact Nat.le_refl _
  · intro p hp r hr
    rw [List.getElem?_append_left hal, b.cur] at hp
    have := Option.some.inj hp
    subst this
    rcases List.mem_append.mp hr with hr | hr
    · exact top r hr
    · have : r = (q, d + 1) := by simpa using hr
      subst this; exact Nat.le_refl _
  · intro i p hi hp r hr
    rw [List.getElem?_append_left (by omega)] at hp
    obtain ⟨x, hx, e1, e2⟩ := b.don i p hi hp r hr
    exact ⟨x, List.mem_append_left _ hx, e1, e2⟩
  · rw [List.getElem?_append_left hal]; exact b.cur
  · intro r hr
    rw [List.take_add_one, h] at hr
    rcases List.mem_append.mp hr with hr | hr
    · obtain ⟨x, hx, e1, e2⟩ := b.nb r hr
      exact ⟨x, List.mem_append_left _ hx, e1, e2⟩
    · have : r = q := by simpa using hr
      subst this
      exact ⟨(r, d + 1), List.mem_append_right _ (by simp), rfl, Nat.le_refl _⟩
theorem BfsI.close (b : BfsI st s gs a c d (st c) (st c).length) : Bfs st s gs (a + 1) := by
  have hal : a < gs.length := (List.getElem?_eq_some_iff.mp b.cur).1
  refine { b.toBfs with le := by omega, top := ?_, don := ?_ }
  · intro p hp q hq
    have h1 := b.top _ b.cur q hq
    have h2 := b.srt a (a + 1) _ p (by omega) b.cur hp
    have h3 : d ≤ p.2 := h2
    have h4 : q.2 ≤ d + 1 := h1
    omega
  · intro i p hi hp q hq
    by_cases e : i = a
    · subst e
      rw [b.cur] at hp
      have := Option.some.inj hp
      subst this
      exact b.nb q (by rw [List.take_length]; exact hq)
    · exact b.don i p (by omega) hp q hq
end
/-- what a search has found in the end -/
structure Far (st : Sq → List Sq) (s : Sq) (gs : List (Sq × Nat)) : Prop where
  nd : (gs.map (·.1)).Nodup
  hd : gs[0]? = some (s, 0)
  wk : ∀ p ∈ gs, Wk st p.2 s p.1
  srt : ∀ (i j : Nat) (p q : Sq × Nat), i ≤ j → gs[i]? = some p → gs[j]? = some q → p.2 ≤ q.2
  all : ∀ (n : Nat) (q : Sq), Wk st n s q → ∃ r ∈ gs, r.1 = q ∧ r.2 ≤ n
theorem Bfs.far {st : Sq → List Sq} {s : Sq} {gs : List (Sq × Nat)} {a : Nat} (b : Bfs st s gs a) (h : gs.length ≤ a) : Far st s gs := by
  refine ⟨b.nd, b.hd, b.wk, b.srt, fun n => ?_⟩
  induction n with
  | zero =>
    intro q w
    cases w
    exact ⟨(s, 0), List.mem_of_getElem? b.hd, rfl, Nat.le_refl _⟩
  | succ n ih =>
    rintro q ⟨p, w, hq⟩
    obtain ⟨r, hr, e1, e2⟩ := ih p w
    obtain ⟨i, hi, ei⟩ := List.mem_iff_getElem.mp hr
    obtain ⟨x, hx, f1, f2⟩ := b.don i r (by omega) (by rw [List.getElem?_eq_getElem hi, ei]) q (by rw [e1]; exact hq)
    exact ⟨x, hx, f1, by omega⟩
/-- the dict of met_from beside the ghost -/
structure Par (st : Sq → List Sq) (s : Sq) (kvs : List (Sq × Option Sq)) (gs : List (Sq × Nat)) : Prop where
  keys : kvs.map (·.1) = gs.map (·.1)
  hd : kvs[0]? = some (s, none)
  non : ∀ q, (q, none) ∈ kvs → q = s
  par : ∀ q p, (q, some p) ∈ kvs → q ∈ st p ∧ ∃ d, (p, d) ∈ gs ∧ (q, d + 1) ∈ gs
/-- what met_from returns -/
structure Met (st : Sq → List Sq) (s : Sq) (kvs : List (Sq × Option Sq)) : Prop where
  ex : ∃ gs, Far st s gs ∧ Par st s kvs gs
section
variable {st : Sq → List Sq} {s : Sq} {kvs : List (Sq × Option Sq)} (m : Met st s kvs)
include m
theorem Met.nd : (kvs.map (·.1)).Nodup := by
  obtain ⟨gs, f, p⟩ := m.ex
  rw [p.keys]; exact f.nd
theorem Met.mem {q : Sq} : q ∈ kvs.map (·.1) ↔ Rch st s q := by
  obtain ⟨gs, f, p⟩ := m.ex
  rw [p.keys]
  constructor
  · intro h
    obtain ⟨r, hr, e⟩ := List.mem_map.mp h
    rw [← e]; exact (f.wk r hr).rch
  · intro h
    obtain ⟨n, w⟩ := h.wk
    obtain ⟨r, hr, e, _⟩ := f.all n q w
    exact List.mem_map.mpr ⟨r, hr, e⟩
theorem Met.has {q : Sq} : hasK kvs q = true ↔ Rch st s q := by rw [hasK_iff, m.mem]
end
/-! ### values without draws -/
section
variable {α β γ δ : Type}
theorem Is.pure {a : α} : Is (WP.pure a) a := fun _ _ q => q
theorem Is.bind {w : WP α} {a : α} {f : α → WP β} {b : β} (h : Is w a) (k : Is (f a) b) : Is (w.bind f) b := fun n Q q => h n _ (k n Q q)
theorem Is.req {P : Prop} {a : α} (p : P) : Is (WP.req P a) a := fun _ _ q => ⟨p, q⟩
theorem Is.eq {w : WP α} {a b : α} (h : Is w a) (e : a = b) : Is w b := e ▸ h
theorem Is.cond {b : Bool} {A B : WP α} {x : α} (h : b = true → Is A x) (k : b = false → Is B x) : Is (WP.cond b A B) x := by
  cases b with
  | true => exact h rfl
  | false => exact k rfl
theorem Is.and {a b : WP Bool} {x y : Bool} (h : Is a x) (k : x = true → Is b y) : Is (WP.and a b) (x && y) := h.bind (by
  cases x with
  | true => exact k rfl
  | false => exact Is.pure)
theorem Is.or {a b : WP Bool} {x y : Bool} (h : Is a x) (k : x = false → Is b y) : Is (WP.or a b) (x || y) := h.bind (by
  cases x with
  | true => exact Is.pure
  | false => exact k rfl)
theorem Is.not {a : WP Bool} {x : Bool} (h : Is a x) : Is (WP.not a) (!x) := h.bind Is.pure
theorem Is.ite {c : WP Bool} {a b : WP α} {x : Bool} {y z : α} (h : Is c x) (ha : x = true → Is a y) (hb : x = false → Is b z) : Is (WP.ite c a b) (if x then y else z) := h.bind (by
  cases x with
  | true => exact ha rfl
  | false => exact hb rfl)
theorem Is.b1 {a : WP α} {x : α} {f : α → WP β} {z : β} (h : Is a x) (k : Is (f x) z) : Is (WP.b1 a f) z := h.bind k
theorem Is.b2 {a : WP α} {b : WP β} {x : α} {y : β} {f : α → β → WP γ} {z : γ} (h : Is a x) (h' : Is b y) (k : Is (f x y) z) : Is (WP.b2 a b f) z := h.bind (h'.bind k)
theorem Is.b3 {a : WP α} {b : WP β} {c : WP γ} {x : α} {y : β} {z : γ} {f : α → β → γ → WP δ} {u : δ} (h : Is a x) (h' : Is b y) (h2 : Is c z) (k : Is (f x y z) u) : Is (WP.b3 a b c f) u := h.bind (h'.bind (h2.bind k))
theorem Is.chain {C C' : Int → Int → Bool} {a b c : WP Int} {x y z : Int} (h : Is a x) (h' : Is b y) (h2 : C x y = true → Is c z) : Is (WP.chain C C' a b c) (C x y && C' y z) := h.bind (h'.bind (by
  cases e : C x y with
  | true => exact (h2 e).bind Is.pure
  | false => exact Is.pure))
theorem Is.ret {w : WP α} {a : α} (h : Is w a) : Is (w.bind fun r => WP.pure r) a := h.bind Is.pure
theorem Is.comp {c : α → WP Bool} {f : α → WP β} {p : α → Bool} {g : α → β} : ∀ {xs : List α}, (∀ x ∈ xs, Is (c x) (p x)) → (∀ x ∈ xs, p x = true → Is (f x) (g x)) → Is (WP.comp c f xs) ((xs.filter p).map g)
  | [], _, _ => Is.pure
  | x :: xs, h, k => (h x List.mem_cons_self).bind (by
    have ih := Is.comp (xs := xs) (fun y m => h y (List.mem_cons_of_mem _ m)) (fun y m => k y (List.mem_cons_of_mem _ m))
    rw [List.filter_cons]
    cases e : p x with
    | true => exact (k x List.mem_cons_self e).bind (ih.bind Is.pure)
    | false => exact ih)
theorem Is.lc {w : WP (List α)} {xs : List α} {c : α → WP Bool} {f : α → WP β} {p : α → Bool} {g : α → β} (hw : Is w xs) (hl : xs.length ≤ 100000) (h : ∀ x ∈ xs, Is (c x) (p x)) (k : ∀ x ∈ xs, p x = true → Is (f x) (g x)) : Is (WP.lc w c f) ((xs.filter p).map g) :=
  hw.bind ((Is.req hl).bind (Is.comp h k))
theorem Is.lcM {w : WP (List α)} {xs : List α} {f : α → WP β} {g : α → β} (hw : Is w xs) (hl : xs.length ≤ 100000) (k : ∀ x ∈ xs, Is (f x) (g x)) : Is (WP.lc w (fun _ => WP.pure true) f) (xs.map g) := by
  have h := Is.lc (p := fun _ => true) hw hl (fun _ _ => Is.pure) (fun x m _ => k x m)
  rwa [List.filter_eq_self.mpr (fun _ _ => rfl)] at h
theorem Is.lcF {w : WP (List α)} {xs : List α} {c : α → WP Bool} {p : α → Bool} (hw : Is w xs) (hl : xs.length ≤ 100000) (h : ∀ x ∈ xs, Is (c x) (p x)) : Is (WP.lc w c fun x => WP.pure x) (xs.filter p) := by
  have h := Is.lc (g := id) hw hl h (fun x m _ => Is.pure)
  rwa [List.map_id] at h
/-- a loop by an invariant, then what follows -/
theorem Is.loop {s ρ : Type} {body : α → s → WP (Ctl s γ)} {xs : List α} {x : s} {f : s → WP ρ} {r : γ → WP ρ} (g : Nat → s) (h0 : g 0 = x) (hs : ∀ i a, xs[i]? = some a → Is (body a (g i)) (.nx (g (i + 1)))) {z : ρ} (hd : Is (f (g xs.length)) z) : Is (WP.after (WP.loop body xs x) f r) z := by
  intro n Q q
  refine WP.after_inv (fun i m y => m = n ∧ y = g i) ⟨rfl, h0.symm⟩ (fun i m a y ha hi => ?_) (fun m y hy => ?_)
  · obtain ⟨rfl, rfl⟩ := hi
    exact hs i a ha _ _ ⟨rfl, rfl⟩
  · obtain ⟨rfl, rfl⟩ := hy
    exact hd _ _ q
/-! values with draws -/
theorem Is.draws {w : WP α} {a : α} {k : Nat} (h : Is w a) : Draws w k (· = a) := fun n Q _ q => h n Q (q n a (Nat.le_refl _) (Nat.le_add_right _ _) rfl)
theorem Draws.bind {w : WP α} {k k' : Nat} {P : α → Prop} {P' : β → Prop} {f : α → WP β} (h : Draws w k P) (h' : ∀ a, P a → Draws (f a) k' P') : Draws (w.bind f) (k + k') P' := fun n Q hn q =>
  h n _ (by omega) fun m b h1 h2 hb => h' b hb m Q (by omega) fun m' c h3 h4 hc => q m' c (by omega) (by omega) hc
theorem Draws.pure {a : α} {P : α → Prop} (h : P a) : Draws (WP.pure a) 0 P := fun n Q _ q => q n a (Nat.le_refl _) (Nat.le_refl _) h
theorem Draws.imp {w : WP α} {k k' : Nat} {P P' : α → Prop} (h : Draws w k P) (hk : k ≤ k') (hp : ∀ a, P a → P' a) : Draws w k' P' := fun n Q hn q =>
  h n Q (by omega) fun m b h1 h2 hb => q m b h1 (by omega) (hp b hb)
theorem Draws.take {many : Int} (h : 0 < many) : Draws (WP.take many) 1 (fun x => 0 ≤ x ∧ x < many) := fun n Q hn q => ⟨by omega, h, fun x h1 h2 => q _ x (by omega) (by omega) ⟨h1, h2⟩⟩
end
namespace WP
variable {s γ ρ : Type}
/-- a while, then what follows it -/
theorem after_whilst {t : s → WP Bool} {body : s → WP (Ctl s γ)} {x : s} {n : Nat} {f : s → WP ρ} {r : γ → WP ρ} {Q : Nat → ρ → Prop} (I : Nat → Nat → s → Prop) (h0 : ∃ m, I m n x)
    (hs : ∀ m n y, I m n y → (t y).run n fun n' b => (b = true → (body y).run n' (turnQ (fun n2 z => ∃ m', m' < m ∧ I m' n2 z) f r Q)) ∧ (b = false → (f y).run n' Q)) : (after (whilst t body x) f r).run n Q :=
  after_of ⟨I, h0, fun m n y hi => (t y).mono (fun n' b h => by
    cases b with
    | true => exact (body y).mono (fun n2 c hc => by
        cases c with
        | nx z => exact hc
        | bk z => exact hc
        | rt q => exact hc) (h.1 rfl)
    | false => exact h.2 rfl) (hs m n y hi)⟩
end WP
theorem Par.new {st : Sq → List Sq} {s : Sq} {kvs : List (Sq × Option Sq)} {gs : List (Sq × Nat)} {q c : Sq} {d : Nat} (p : Par st s kvs gs) (hq : q ∈ st c) (hc : (c, d) ∈ gs) : Par st s (kvs ++ [(q, some c)]) (gs ++ [(q, d + 1)]) := by
  have h0 : 0 < kvs.length := (List.getElem?_eq_some_iff.mp p.hd).1
  refine ⟨by rw [List.map_append, List.map_append, p.keys]; rfl, by rw [List.getElem?_append_left h0]; exact p.hd, fun r hr => ?_, fun r o hr => ?_⟩
  · rcases List.mem_append.mp hr with hr | hr
    · exact p.non r hr
    · simp at hr
  · rcases List.mem_append.mp hr with hr | hr
    · obtain ⟨a, e, b, c⟩ := p.par r o hr
      exact ⟨a, e, List.mem_append_left _ b, List.mem_append_left _ c⟩
    · simp at hr
      obtain ⟨rfl, rfl⟩ := hr
      exact ⟨hq, d, List.mem_append_left _ hc, List.mem_append_right _ (by simp)⟩
def met_fromM (a_chart : (List Str)) (a_start : Sq) (a_steps : ((List Str) → Sq → WP (List Sq))) : WP (List (Sq × (Option Sq))) := (WP.b2 (WP.pure a_start) (WP.pure (none : (Option Sq))) fun x b => WP.pure [(x, b)]).bind fun a1_before => (WP.row (WP.consE (WP.pure a_start) (WP.pure ([] : List Sq)))).bind fun a2_queue => (WP.pure (0 : Int)).bind fun a3_at => WP.after (WP.whilst (γ := (List (Sq × (Option Sq)))) (fun (y4 : (List (Sq × (Option Sq))) × (List Sq) × Int) => (WP.lt (WP.pure y4.2.2) (WP.len (WP.pure y4.2.1)))) (fun (y4 : (List (Sq × (Option Sq))) × (List Sq) × Int) => (WP.b2 (WP.pure a_chart) (WP.ix (WP.pure y4.2.1) (WP.pure y4.2.2)) a_steps).bind fun xs5 => WP.after (WP.loop (γ := (List (Sq × (Option Sq)))) (fun c5 (y5 : (List (Sq × (Option Sq))) × (List Sq)) => ((WP.not (WP.din (WP.pure c5) (WP.pure y5.1))).bind fun b => WP.cond b ((WP.b2 (WP.some' (WP.ix (WP.pure y5.2) (WP.pure y4.2.2))) (WP.pure c5) fun b q => WP.req (y5.1.length < 100000) (putQ y5.1 q b)).bind fun a7_before => ((WP.pure c5).bind fun a => WP.req (y5.2.length < 100000) (y5.2 ++ [a])).bind fun a8_queue => (WP.pure (a7_before, a8_queue))) ((WP.pure (y5.1, y5.2)))).bind fun (y6 : (List (Sq × (Option Sq))) × (List Sq)) => (WP.pure (.nx (y6.1, y6.2)))) xs5 (y4.1, y4.2.1)) (fun (z5 : (List (Sq × (Option Sq))) × (List Sq)) => ((WP.pure (1 : Int)).bind fun b => WP.pure (y4.2.2 + b)).bind fun a9_at => (WP.pure (.nx (z5.1, z5.2, a9_at)))) (fun r => (WP.pure (.rt r)))) (a1_before, a2_queue, a3_at)) (fun (z4 : (List (Sq × (Option Sq))) × (List Sq) × Int) => (WP.pure z4.1)) (fun r => (WP.pure r))
theorem gets_map {gs : List (Sq × Nat)} {i : Nat} {c : Sq} {d : Nat} (h : gs[i]? = some (c, d)) : (gs.map (·.1))[i]? = some c := by
  rw [List.getElem?_map, h]; rfl
theorem met_gives {ch : List Str} {s : Sq} {steps : List Str → Sq → WP (List Sq)} {st : Sq → List Sq} {U : List Sq} (hst : ∀ q, Rch st s q → Is (steps ch q) (st q)) (hU : ∀ q, Rch st s q → q ∈ U) (hl : U.length < 100000) : Gives (met_fromM ch s steps) (Met st s) := by
  intro n Q hQ
  unfold met_fromM
  (simp only [WP.run_bind, WP.run_pure, WP.run_req, WP.run_any, WP.run_take, WP.run_cond, WP.run_range1, WP.run_range2, decide_eq_true_eq, decide_eq_false_iff_not, Bool.not_eq_true', Bool.not_eq_false'])
  refine ⟨by simp, ?_⟩
  have bnd : ∀ {gs : List (Sq × Nat)} {a : Nat}, Bfs st s gs a → gs.length ≤ U.length := fun {gs a} b => by
    have := nodup_le (U := U) b.nd fun x hx => by
      obtain ⟨p, hp, e⟩ := List.mem_map.mp hx
      rw [← e]; exact hU _ (b.wk p hp).rch
    rwa [List.length_map] at this
  refine WP.after_whilst (fun m n' y => n' = n ∧ ∃ gs a, Bfs st s gs a ∧ Par st s y.1 gs ∧ y.2.1 = gs.map (·.1) ∧ y.2.2 = (a : Int) ∧ m = U.length - a)
    ⟨U.length, rfl, [(s, 0)], 0, Bfs.start, ⟨rfl, rfl, by simp, by simp⟩, rfl, rfl, rfl⟩ ?_
  rintro m n' ⟨kvs, queue, at'⟩ ⟨rfl, gs, a, b, p, e1, e2, e3⟩
  dsimp only at e1 e2 e3 p
  subst e1; subst e2; subst e3
  (simp only [WP.run_bind, WP.run_pure, WP.run_req, WP.run_any, WP.run_take, WP.run_cond, WP.run_range1, WP.run_range2, decide_eq_true_eq, decide_eq_false_iff_not, Bool.not_eq_true', Bool.not_eq_false'])
  refine ⟨fun hlt => ?_, fun hge => hQ _ ⟨gs, b.far (by rw [List.length_map] at hge; omega), p⟩⟩
  rw [List.length_map] at hlt
  have hal : a < gs.length := by omega
  have hcur : gs[a]? = some (gs[a].1, gs[a].2) := List.getElem?_eq_getElem hal
  have ec : ixD (gs.map (·.1)) (a : Int) = gs[a].1 := ixD_of (gets_map hcur)
  refine ⟨⟨by omega, by rw [List.length_map]; omega⟩, ?_⟩
  rw [ec]
  refine hst _ (b.wk _ (List.getElem_mem hal)).rch _ _ ?_
  refine WP.after_inv (fun i m y => m = n' ∧ ∃ gs', BfsI st s gs' a gs[a].1 gs[a].2 (st gs[a].1) i ∧ Par st s y.1 gs' ∧ y.2 = gs'.map (·.1)) ⟨rfl, gs, b.open hcur, p, rfl⟩ ?_ ?_
  · rintro i m q ⟨kv, qu⟩ hq ⟨rfl, gs', b', p', e⟩
    dsimp only at e p'
    subst e
    (simp only [WP.run_bind, WP.run_pure, WP.run_req, WP.run_any, WP.run_take, WP.run_cond, WP.run_range1, WP.run_range2, decide_eq_true_eq, decide_eq_false_iff_not, Bool.not_eq_true', Bool.not_eq_false'])
    have hq' : q ∈ st gs[a].1 := List.mem_of_getElem? hq
    refine ⟨fun hn => ?_, fun hy => ?_⟩
    · have hnk : q ∉ gs'.map (·.1) := by
        rw [← p'.keys]; exact hasK_false.mp hn
      have b2 := b'.new hq hq' hnk
      have hb := bnd b2.toBfs
      rw [List.length_append, List.length_singleton] at hb
      have hkl : kv.length = gs'.length := by
        have := congrArg List.length p'.keys
        rwa [List.length_map, List.length_map] at this
      have hal' : a < gs'.length := (List.getElem?_eq_some_iff.mp b'.cur).1
      refine ⟨⟨by omega, by rw [List.length_map]; omega⟩, by omega, by rw [List.length_map]; omega, ?_⟩
      show _ ∧ _
      refine ⟨rfl, _, b2, ?_, by rw [List.map_append]; rfl⟩
      show Par st s (putQ kv q (some (ixD (gs'.map (·.1)) (a : Int)))) _
      rw [putQ_new hn, ixD_of (gets_map b'.cur)]
      exact p'.new hq' (List.mem_of_getElem? b'.cur)
    · have hk : q ∈ gs'.map (·.1) := by
        rw [← p'.keys]; exact hasK_iff.mp hy
      exact ⟨rfl, gs', b'.old hq hk, p', rfl⟩
  · rintro m ⟨kv, qu⟩ ⟨rfl, gs', b', p', e⟩
    (simp only [WP.run_bind, WP.run_pure, WP.run_req, WP.run_any, WP.run_take, WP.run_cond, WP.run_range1, WP.run_range2, decide_eq_true_eq, decide_eq_false_iff_not, Bool.not_eq_true', Bool.not_eq_false'])
    have b2 := b'.close
    have := bnd b2
    refine ⟨U.length - (a + 1), ?_, rfl, gs', a + 1, b2, p', e, by simp, rfl⟩
    have := b2.le
    omega
/-! ### the chart's functions -/
def is_squareM (ch : List Str) (q : Sq) : WP Bool := (WP.pure q).bind fun x => (WP.and (WP.chain (fun i j => decide (i ≤ j)) (fun i j => decide (i < j)) (WP.pure (0 : Int)) (WP.pure x.1) (WP.len (WP.pure ch))) (WP.chain (fun i j => decide (i ≤ j)) (fun i j => decide (i < j)) (WP.pure (0 : Int)) (WP.pure x.2) (WP.lenS (WP.ix (WP.pure ch) (WP.pure (0 : Int)))))).bind fun r2 => (WP.pure r2)
theorem Is.len {α : Type} {w : WP (List α)} {xs : List α} (h : Is w xs) : Is (WP.len w) ((xs.length : Nat) : Int) := h.bind Is.pure
theorem Is.wid0 {ch : List Str} (c : Ch ch) : Is (WP.lenS (WP.ix (WP.pure ch) (WP.pure (0 : Int)))) ((wid ch : Nat) : Int) := fun n Q q => by
  (simp only [WP.run_bind, WP.run_pure, WP.run_req, WP.run_any, WP.run_take, WP.run_cond, WP.run_range1, WP.run_range2, decide_eq_true_eq, decide_eq_false_iff_not, Bool.not_eq_true', Bool.not_eq_false'])
  exact ⟨c.ok0, c.wl0, q⟩
theorem is_square_is {ch : List Str} (c : Ch ch) (q : Sq) : Is (is_squareM ch q) (isSq ch q) :=
  Is.pure.bind (Is.ret (Is.and (Is.chain Is.pure Is.pure fun _ => Is.len Is.pure) fun _ => Is.chain Is.pure Is.pure fun _ => Is.wid0 c))
def is_landM (a_chart : (List Str)) (a_square : Sq) : WP Bool := (WP.and (WP.b2 (WP.pure a_chart) (WP.pure a_square) is_squareM) (WP.eq (WP.ixS (WP.ix (WP.pure a_chart) (WP.fst (WP.pure a_square))) (WP.snd (WP.pure a_square))) (WP.pure ("x" : Str)))).bind fun r1 => (WP.pure r1)
theorem Is.sign {ch : List Str} (c : Ch ch) {q : Sq} (h : isSq ch q = true) : Is (WP.ixS (WP.ix (WP.pure ch) (WP.fst (WP.pure q))) (WP.snd (WP.pure q))) (sgn (ixD ch q.1) q.2) := fun n Q z => by
  (simp only [WP.run_bind, WP.run_pure, WP.run_req, WP.run_any, WP.run_take, WP.run_cond, WP.run_range1, WP.run_range2, decide_eq_true_eq, decide_eq_false_iff_not, Bool.not_eq_true', Bool.not_eq_false'])
  exact ⟨c.ok1 h, ⟨c.wl1 h, c.ok2 h⟩, z⟩
theorem is_land_is {ch : List Str} (c : Ch ch) (q : Sq) : Is (is_landM ch q) (isLd ch q) :=
  Is.ret (Is.and (Is.b2 Is.pure Is.pure (is_square_is c q)) fun h => Is.b2 (Is.sign c h) Is.pure Is.pure)
def side_neighboursM (a_square : Sq) : WP (List Sq) := (WP.pure a_square).bind fun a1_row_column => (WP.row (WP.consE (WP.pair (WP.sub (WP.pure a1_row_column.1) (WP.pure (1 : Int))) (WP.pure a1_row_column.2)) (WP.consE (WP.pair (WP.pure a1_row_column.1) (WP.sub (WP.pure a1_row_column.2) (WP.pure (1 : Int)))) (WP.consE (WP.pair (WP.pure a1_row_column.1) (WP.add (WP.pure a1_row_column.2) (WP.pure (1 : Int)))) (WP.consE (WP.pair (WP.add (WP.pure a1_row_column.1) (WP.pure (1 : Int))) (WP.pure a1_row_column.2)) (WP.pure ([] : List Sq))))))).bind fun r2 => (WP.pure r2)
theorem side_neighbours_is (q : Sq) : Is (side_neighboursM q) (sides q) := fun n Q z => ⟨by simp, z⟩
theorem rch_land {ch : List Str} {s q : Sq} (h : Rch (ldBeside ch) s q) : q = s ∨ isLd ch q = true := by
  induction h with
  | refl => exact .inl rfl
  | step _ h _ => exact .inr (List.mem_filter.mp h).2
end Y

/-! plain facts: texts of signs, reliefs -/
namespace Y
open PySem L2
theorem join_nil (ys : List Str) : (Txt.join (Str.ofString "") ys).cps.toList = (ys.map fun y => y.cps.toList).flatten := by
  show (Builtin.Str.glued (Str.ofString "") ys).cps.toList = _
  rw [StrLaws.glued_eq_join]
  have := TL.tl_join (Str.ofString "") ys
  have e0 : TL.tl (Str.ofString "") = [] := by decide +kernel
  rw [e0] at this
  have e1 : ∀ l : List (List Nat), TL.joinL [] l = l.flatten := fun l => by
    induction l with
    | nil => rfl
    | cons a l ih => cases l with
      | nil => simp [TL.joinL]
      | cons b l =>
        show a ++ ([] ++ TL.joinL [] (b :: l)) = _
        rw [ih]; simp
  rw [e1] at this
  exact this
def mkS (cs : List Nat) : Str := ⟨cs.toArray⟩
theorem str_ext {a b : Str} (h : a.cps.toList = b.cps.toList) : a = b := by
  obtain ⟨a⟩ := a
  obtain ⟨b⟩ := b
  have : a = b := by
    have h' : a.toList = b.toList := h
    exact Array.toList_inj.mp h'
  rw [this]
theorem mkS_tl (s : Str) : mkS s.cps.toList = s := by
  obtain ⟨a⟩ := s
  unfold mkS
  simp
theorem tl_mkS (cs : List Nat) : (mkS cs).cps.toList = cs := by unfold mkS; simp
theorem mkS_len (cs : List Nat) : (mkS cs).length = cs.length := by
  show (mkS cs).cps.size = _
  unfold mkS; simp
theorem tl_len (s : Str) : s.cps.toList.length = s.length := Array.length_toList
theorem join1 (cs : List Nat) : Txt.join (Str.ofString "") (cs.map fun c => (⟨#[c]⟩ : Str)) = mkS cs := by
  apply str_ext
  rw [join_nil, tl_mkS, List.map_map]
  induction cs with
  | nil => rfl
  | cons c cs ih => rw [List.map_cons, List.flatten_cons, ih]; rfl
theorem ones (cs : List Nat) : ((cs.map fun c => (⟨#[c]⟩ : Str)).map (·.length)).sum = cs.length := by
  induction cs with
  | nil => rfl
  | cons c cs ih =>
    rw [List.map_cons, List.map_cons, List.sum_cons, ih, List.length_cons]
    have : (⟨#[c]⟩ : Str).length = 1 := rfl
    omega
theorem join1_is {w : WP (List Str)} {cs : List Nat} (h : Is w (cs.map fun c => (⟨#[c]⟩ : Str))) (hl : cs.length ≤ 100000) : Is (WP.join (WP.pure (Str.ofString "")) w) (mkS cs) := Is.pure.bind (h.bind ((Is.req (by
  rw [ones, List.length_map]
  have : (Str.ofString "").length = 0 := by decide +kernel
  rw [this]; omega)).eq (join1 cs)))
/-! digits -/
structure Rel (rel : List Str) : Prop where
  ch : Ch rel
  dg : ∀ s ∈ rel, ∀ c ∈ s.cps.toList, 48 ≤ c ∧ c ≤ 57
def hg (rel : List Str) (q : Sq) : Int := ((ixD (ixD rel q.1).cps.toList q.2 : Nat) : Int) - 48
section
variable {rel : List Str} {q : Sq} (r : Rel rel)
include r
theorem Rel.at (h : isSq rel q = true) : 48 ≤ ixD (ixD rel q.1).cps.toList q.2 ∧ ixD (ixD rel q.1).cps.toList q.2 ≤ 57 := by
  have hh := isSq_iff.mp h
  refine r.dg _ (ixD_mem hh.1 hh.2.1) _ (ixD_mem hh.2.2.1 ?_)
  rw [tl_len, r.ch.len1 h]; exact hh.2.2.2
theorem Rel.hg (h : isSq rel q = true) : 0 ≤ hg rel q ∧ hg rel q ≤ 9 := by
  have := r.at h
  unfold Y.hg
  omega
theorem Rel.sgn (h : isSq rel q = true) : sgn (ixD rel q.1) q.2 = ⟨#[(48 + (Y.hg rel q).toNat)]⟩ := by
  have := r.at h
  unfold Y.sgn Y.hg
  congr 3
  omega
end
/-! the chart at a level -/
def lvS (L : Int) (s : Str) : Str := mkS (s.cps.toList.map fun (c : Nat) => if L ≤ (c : Int) - 48 then 120 else 46)
def lvl (rel : List Str) (L : Int) : List Str := rel.map (lvS L)
theorem lvS_len (L : Int) (s : Str) : (lvS L s).length = s.length := by
  unfold lvS
  rw [mkS_len, List.length_map, tl_len]
theorem ixD_map {α β : Type} [Inhabited α] [Inhabited β] {xs : List α} {f : α → β} {i : Int} (h0 : 0 ≤ i) (h : i < xs.length) : ixD (xs.map f) i = f (ixD xs i) := by
  obtain ⟨h1, e1⟩ := ixD_get h0 h
  obtain ⟨h2, e2⟩ := ixD_get (xs := xs.map f) h0 (by rw [List.length_map]; exact h)
  rw [e1, e2, List.getElem_map]
theorem lvl_wid {rel : List Str} (c : Ch rel) (L : Int) : wid (lvl rel L) = wid rel := by
  unfold wid lvl
  rw [ixD_map (by omega) (by have := c.ne; omega), lvS_len]
theorem lvl_sq {rel : List Str} (c : Ch rel) (L : Int) (q : Sq) : isSq (lvl rel L) q = isSq rel q := by
  unfold isSq
  rw [lvl_wid c]
  unfold lvl
  rw [List.length_map]
theorem lvl_ld {rel : List Str} (r : Ch rel) (L : Int) (q : Sq) : isLd (lvl rel L) q = (isSq rel q && decide (L ≤ hg rel q)) := by
  unfold isLd
  rw [lvl_sq r]
  cases h : isSq rel q with
  | false => rfl
  | true =>
    have hh := isSq_iff.mp h
    rw [Bool.true_and, Bool.true_and]
    have e : sgn (ixD (lvl rel L) q.1) q.2 = ⟨#[if L ≤ hg rel q then 120 else 46]⟩ := by
      unfold lvl
      rw [ixD_map hh.1 hh.2.1]
      unfold sgn lvS hg
      rw [tl_mkS, ixD_map hh.2.2.1 (by rw [tl_len, r.len1 h]; exact hh.2.2.2)]
    rw [e]
    by_cases g : L ≤ hg rel q
    · rw [if_pos g, decide_eq_true g]; decide +kernel
    · rw [if_neg g, decide_eq_false g]; decide +kernel
theorem signs_map (s : Str) : signs s = s.cps.toList.map fun c => (⟨#[c]⟩ : Str) := rfl
/-! joined at a level -/
def Jn (rel : List Str) (L : Int) (a b : Sq) : Prop := Rch (ldBeside (lvl rel L)) a b
theorem mem_ldB {ch : List Str} {p q : Sq} : q ∈ ldBeside ch p ↔ q ∈ sides p ∧ isLd ch q = true := by
  unfold ldBeside
  rw [List.mem_filter]
theorem rch_symm {ch : List Str} {a b : Sq} (ha : isLd ch a = true) (h : Rch (ldBeside ch) a b) : Rch (ldBeside ch) b a := by
  induction h with
  | refl => exact .refl
  | @step p q hp hq ih =>
    have hp' : isLd ch p = true := by
      rcases rch_land hp with e | e
      · rw [e]; exact ha
      · exact e
    exact (Rch.one (mem_ldB.mpr ⟨sides_symm (mem_ldB.mp hq).1, hp'⟩)).trans ih
theorem Jn.mono {rel : List Str} {L L' : Int} {a b : Sq} (r : Rel rel) (hl : L ≤ L') (h : Jn rel L' a b) : Jn rel L a b :=
  Rch.mono (fun p q hq => by
    obtain ⟨h1, h2⟩ := mem_ldB.mp hq
    rw [lvl_ld r.ch, Bool.and_eq_true, decide_eq_true_eq] at h2
    refine mem_ldB.mpr ⟨h1, ?_⟩
    rw [lvl_ld r.ch, Bool.and_eq_true, decide_eq_true_eq]
    exact ⟨h2.1, by omega⟩) h
theorem Jn.symm {rel : List Str} {L : Int} {a b : Sq} (r : Rel rel) (ha : isSq rel a = true) (hl : L ≤ hg rel a) (h : Jn rel L a b) : Jn rel L b a :=
  rch_symm (by rw [lvl_ld r.ch, ha, decide_eq_true hl]; rfl) h
/-- in a chart that is all land all is joined -/
theorem rch_full {ch : List Str} (h : ∀ q, isSq ch q = true → isLd ch q = true) {a b : Sq} (ha : isSq ch a = true) (hb : isSq ch b = true) : Rch (ldBeside ch) a b := by
  have step : ∀ {p q : Sq}, isSq ch q = true → q ∈ sides p → Rch (ldBeside ch) p q := fun hq hs => Rch.one (mem_ldB.mpr ⟨hs, h _ hq⟩)
  have rows : ∀ n : Nat, ∀ c : Int, isSq ch ((n : Int), c) = true → Rch (ldBeside ch) (0, c) ((n : Int), c) := fun n => by
    induction n with
    | zero => intro c _; exact .refl
    | succ n ih =>
      intro c hc
      have hh := isSq_iff.mp hc
      have : isSq ch ((n : Int), c) = true := isSq_iff.mpr ⟨by show (0 : Int) ≤ n; omega, by have := hh.2.1; simp only at this ⊢; omega, hh.2.2⟩
      refine (ih c this).trans (step hc ?_)
      simp [sides]
  have cols : ∀ n : Nat, isSq ch (0, (n : Int)) = true → Rch (ldBeside ch) (0, 0) (0, (n : Int)) := fun n => by
    induction n with
    | zero => intro _; exact .refl
    | succ n ih =>
      intro hc
      have hh := isSq_iff.mp hc
      have : isSq ch (0, (n : Int)) = true := isSq_iff.mpr ⟨hh.1, hh.2.1, by show (0 : Int) ≤ n; omega, by have := hh.2.2.2; simp only at this ⊢; omega⟩
      refine (ih this).trans (step hc ?_)
      simp [sides]
  have zero : ∀ q : Sq, isSq ch q = true → isSq ch (0, 0) = true ∧ Rch (ldBeside ch) (0, 0) q := fun q hq => by
    have hh := isSq_iff.mp hq
    obtain ⟨r, c⟩ := q
    simp only at hh
    have h0 : isSq ch (0, c) = true := isSq_iff.mpr ⟨Int.le_refl _, by show (0 : Int) < _; omega, hh.2.2⟩
    have h00 : isSq ch (0, 0) = true := isSq_iff.mpr ⟨Int.le_refl _, by show (0 : Int) < _; omega, Int.le_refl _, by show (0 : Int) < _; omega⟩
    have e1 : ((r.toNat : Nat) : Int) = r := by omega
    have e2 : ((c.toNat : Nat) : Int) = c := by omega
    have g1 := cols c.toNat (by rw [e2]; exact h0)
    have g2 := rows r.toNat c (by rw [e1]; exact hq)
    rw [e2] at g1
    rw [e1] at g2
    exact ⟨h00, g1.trans g2⟩
  have g := zero a ha
  exact (rch_symm (h _ g.1) g.2).trans (zero b hb).2
theorem Jn.zero {rel : List Str} (r : Rel rel) {a b : Sq} (ha : isSq rel a = true) (hb : isSq rel b = true) : Jn rel 0 a b := by
  refine rch_full (fun q hq => ?_) (by rw [lvl_sq r.ch]; exact ha) (by rw [lvl_sq r.ch]; exact hb)
  rw [lvl_sq r.ch] at hq
  rw [lvl_ld r.ch, hq, decide_eq_true (r.hg hq).1]; rfl
structure Sad (rel : List Str) (a b : Sq) (L : Int) : Prop where
  lo : 0 ≤ L
  la : L ≤ hg rel a
  lb : L ≤ hg rel b
  j : Jn rel L a b
  top : ∀ L', L < L' → L' ≤ hg rel a → L' ≤ hg rel b → ¬ Jn rel L' a b
theorem Sad.inj {rel : List Str} {a b : Sq} {L L' : Int} (h : Sad rel a b L) (h' : Sad rel a b L') : L = L' := by
  rcases Int.lt_trichotomy L L' with g | g | g
  · exact absurd h'.j (h.top L' g h'.la h'.lb)
  · exact g
  · exact absurd h.j (h'.top L g h.la h.lb)
theorem Sad.symm {rel : List Str} (r : Rel rel) {a b : Sq} (ha : isSq rel a = true) (hb : isSq rel b = true) {L : Int} (h : Sad rel a b L) : Sad rel b a L :=
  ⟨h.lo, h.lb, h.la, h.j.symm r ha h.la, fun L' h1 h2 h3 h4 => h.top L' h1 h3 h2 (h4.symm r hb h2)⟩
end Y

/-! plain facts: draws, drawn reliefs, tables over all squares -/
namespace Y
open PySem L2
/-! all squares, gone through -/
def colsTo (r j : Nat) : List Sq := (List.range j).map fun (c : Nat) => (((r : Int), (c : Int)) : Sq)
def rowsTo (ch : List Str) (i : Nat) : List Sq := (List.range i).flatMap fun (r : Nat) => colsTo r (wid ch)
theorem colsTo_succ (r j : Nat) : colsTo r (j + 1) = colsTo r j ++ [((r : Int), (j : Int))] := by
  unfold colsTo
  rw [List.range_succ, List.map_append]; rfl
theorem rowsTo_succ {ch : List Str} {i : Nat} : rowsTo ch i ++ colsTo i (wid ch) = rowsTo ch (i + 1) := by
  unfold rowsTo
  rw [List.range_succ, List.flatMap_append]
  simp
theorem rowsTo_all (ch : List Str) : rowsTo ch ch.length = allSq ch := rfl
theorem rowsTo_len (ch : List Str) (i : Nat) : (rowsTo ch i).length = i * wid ch := by
  unfold rowsTo
  rw [flatMap_len _ _ (wid ch) (fun x _ => by unfold colsTo; simp), List.length_range]
theorem all_small {ch : List Str} (c : Ch ch) {i j : Nat} (hi : i < ch.length) (hj : j < wid ch) : (rowsTo ch i ++ colsTo i j).length < 100000 := by
  have h2 : (colsTo i j).length = j := by unfold colsTo; simp
  rw [List.length_append, rowsTo_len, h2]
  have := Nat.mul_le_mul (show i ≤ 300 by have := c.hl; omega) c.wl
  have := c.wl
  omega
def law_allM (a_relief : (List Str)) : WP (List Sq) := (WP.row (WP.pure ([] : List Sq))).bind fun a1_found => (WP.range1 (WP.len (WP.pure a_relief))).bind fun xs2 => WP.after (WP.loop (γ := (List Sq)) (fun c2 (y2 : (List Sq)) => (WP.range1 (WP.lenS (WP.ix (WP.pure a_relief) (WP.pure (0 : Int))))).bind fun xs3 => WP.after (WP.loop (γ := (List Sq)) (fun c3 (y3 : (List Sq)) => ((WP.pair (WP.pure c2) (WP.pure c3)).bind fun a => WP.req (y3.length < 100000) (y3 ++ [a])).bind fun a4_found => (WP.pure (.nx a4_found))) xs3 y2) (fun (z3 : (List Sq)) => (WP.pure (.nx z3))) (fun r => (WP.pure (.rt r)))) xs2 a1_found) (fun (z2 : (List Sq)) => (WP.pure z2)) (fun r => (WP.pure r))
theorem Is.range1 {w : WP Int} {k : Nat} (h : Is w (k : Int)) (hk : k ≤ 100000) : Is (WP.range1 w) (rangeL 0 (k : Int)) := h.bind (Is.req ⟨by omega, by omega⟩)
theorem law_all_is {ch : List Str} (c : Ch ch) : Is (law_allM ch) (allSq ch) := by
  have hh := c.hl
  have hw := c.wl
  refine (Is.req (by simp)).bind ((Is.range1 (Is.len Is.pure) (by omega)).bind ?_)
  refine Is.loop (fun i => rowsTo ch i) rfl (fun i a ha => ?_) ?_
  · obtain ⟨rfl, hi⟩ := rangeL0_get ha
    refine (Is.range1 (Is.wid0 c) (by omega)).bind ?_
    refine Is.loop (fun j => rowsTo ch i ++ colsTo i j) (by simp [colsTo]) (fun j b hb => ?_) ?_
    · obtain ⟨rfl, hj⟩ := rangeL0_get hb
      refine Is.bind (a := rowsTo ch i ++ colsTo i (j + 1)) (Is.bind (Is.b2 Is.pure Is.pure Is.pure) ((Is.req (all_small c (by omega) (by omega))).eq ?_)) Is.pure
      rw [colsTo_succ, List.append_assoc]
    · rw [rangeL0_len, Int.toNat_natCast, rowsTo_succ]
      exact Is.pure
  · rw [rangeL0_len, Int.toNat_natCast, rowsTo_all]
    exact Is.pure
/-! tables -/
section
variable {β : Type}
end
/-! ### the widest ways, by raising -/
structure Snd (rel : List Str) (s : Sq) (f : Sq → Int) : Prop where
  at' : f s = hg rel s
  all : ∀ q, isSq rel q = true → f q = -1 ∨ (0 ≤ f q ∧ f q ≤ hg rel q ∧ f q ≤ hg rel s ∧ Jn rel (f q) s q)
def law_sidesM (a_square : Sq) : WP (List Sq) := side_neighboursM a_square
/-- within a round -/
structure Rn (rel : List Str) (s : Sq) (f f' : Sq → Int) (c : Bool) : Prop where
  snd : Snd rel s f'
  le : ∀ q, isSq rel q = true → f q ≤ f' q
  same : c = false → f' = f
end Y

/-! plain facts: what laws draw -/
namespace Y
open PySem L2
theorem Draws.comp {α β : Type} {f : α → WP β} {k : Nat} {P : β → Prop} : ∀ {xs : List α}, (∀ x ∈ xs, Draws (f x) k P) → Draws (WP.comp (fun _ => WP.pure true) f xs) (xs.length * k) (fun ys => ys.length = xs.length ∧ ∀ y ∈ ys, P y)
  | [], _ => fun n Q _ q => q n [] (Nat.le_refl _) (by omega) ⟨rfl, fun _ h => by cases h⟩
  | x :: xs, h => fun n Q hn q => by
    have e : (x :: xs).length * k = xs.length * k + k := by rw [List.length_cons, Nat.succ_mul]
    refine h x List.mem_cons_self n _ (by omega) fun m y h1 h2 hy => ?_
    refine Draws.comp (fun z m => h z (List.mem_cons_of_mem _ m)) m _ (by omega) fun m' ys h3 h4 ⟨hl, hys⟩ => ?_
    refine q m' (y :: ys) (by omega) (by omega) ⟨by rw [List.length_cons, List.length_cons, hl], fun z hz => ?_⟩
    rcases List.mem_cons.mp hz with e | hz
    · rw [e]; exact hy
    · exact hys z hz
theorem Draws.lcM {α β : Type} {w : WP (List α)} {xs : List α} {f : α → WP β} {k : Nat} {P : β → Prop} (hw : Is w xs) (hl : xs.length ≤ 100000) (h : ∀ x ∈ xs, Draws (f x) k P) : Draws (WP.lc w (fun _ => WP.pure true) f) (xs.length * k) (fun ys => ys.length = xs.length ∧ ∀ y ∈ ys, P y) := fun n Q hn q =>
  hw n _ ⟨hl, Draws.comp h n Q hn q⟩
/-- what a grid of numbers is -/
structure NGrid (G : List (List Int)) (k m : Nat) : Prop where
  len : G.length = k
  row : ∀ r ∈ G, r.length = m ∧ ∀ d ∈ r, 0 ≤ d ∧ d ≤ 9
theorem setL_mem {α : Type} {xs : List α} {r : Int} {v x : α} (h : x ∈ setL xs r v) : x ∈ xs ∨ x = v := by
  unfold setL at h
  split at h
  · exact (List.mem_or_eq_of_mem_set h)
  · exact .inl h
theorem setL_len {α : Type} (xs : List α) (r : Int) (v : α) : (setL xs r v).length = xs.length := by
  unfold setL
  split
  · rw [List.length_set]
  · rfl
theorem NGrid.set {G : List (List Int)} {k m : Nat} (g : NGrid G k m) {r c v : Int} (hr : 0 ≤ r) (hr2 : r < k) (h0 : 0 ≤ v) (h9 : v ≤ 9) : NGrid (setG G r c v) k m := by
  unfold setG
  refine ⟨by rw [setL_len]; exact g.len, fun x hx => ?_⟩
  rcases setL_mem hx with hx | rfl
  · exact g.row x hx
  · have hm := ixD_mem (xs := G) hr (by rw [g.len]; exact hr2)
    refine ⟨by rw [setL_len]; exact (g.row _ hm).1, fun d hd => ?_⟩
    rcases setL_mem hd with hd | rfl
    · exact (g.row _ hm).2 d hd
    · exact ⟨h0, h9⟩
theorem Draws.loop {s α γ ρ : Type} {body : α → s → WP (Ctl s γ)} {xs : List α} {x : s} {f : s → WP ρ} {r : γ → WP ρ} (I : Nat → s → Prop) (k : Nat) {k' : Nat} {P : ρ → Prop} (h0 : I 0 x) (hs : ∀ i a y, xs[i]? = some a → I i y → Draws (body a y) k fun c => ∃ z, c = .nx z ∧ I (i + 1) z) (hd : ∀ y, I xs.length y → Draws (f y) k' P) : Draws (WP.after (WP.loop body xs x) f r) (xs.length * k + k') P := by
  intro n Q hn q
  refine WP.after_inv (fun i m y => i ≤ xs.length ∧ n ≤ m ∧ m ≤ n + i * k ∧ I i y) ⟨Nat.zero_le _, Nat.le_refl _, by omega, h0⟩ (fun i m a y ha hi => ?_) (fun m y hy => ?_)
  · obtain ⟨_, h1, h2, h3⟩ := hi
    have hil : i < xs.length := (List.getElem?_eq_some_iff.mp ha).1
    have := Nat.mul_le_mul_right k (show i + 1 ≤ xs.length from hil)
    have e : (i + 1) * k = i * k + k := Nat.succ_mul i k
    refine hs i a y ha h3 m _ (by omega) fun m' c g1 g2 ⟨z, hz, hI⟩ => ?_
    subst hz
    exact ⟨hil, by omega, by omega, hI⟩
  · obtain ⟨_, h1, h2, h3⟩ := hy
    exact hd y h3 m Q (by omega) fun m' b g1 g2 hb => q m' b (by omega) (by omega) hb
end Y

/-! plain facts: loops that look at all, comprehensions of two clauses, more of the charts -/
namespace Y
open PySem L2
section
variable {α β γ ρ : Type}
theorem Is.loopAll {body : α → Unit → WP (Ctl Unit γ)} {xs : List α} {p : α → Bool} {no : γ} (h : ∀ x ∈ xs, Is (body x ()) (if p x then .nx () else .rt no)) : Is (WP.loop body xs ()) (if xs.all p then .nx () else .rt no) := by
  induction xs with
  | nil => exact Is.pure
  | cons x xs ih =>
    have ih := ih fun y m => h y (List.mem_cons_of_mem _ m)
    refine (h x List.mem_cons_self).bind ?_
    rw [List.all_cons]
    cases e : p x with
    | true => exact ih
    | false => exact Is.pure
theorem Is.afterAll {w : WP (Ctl Unit γ)} {b : Bool} {no : γ} {f : Unit → WP ρ} {r : γ → WP ρ} {z : ρ} (h : Is w (if b then .nx () else .rt no)) (h1 : b = true → Is (f ()) z) (h2 : b = false → Is (r no) z) : Is (WP.after w f r) z := by
  refine h.bind ?_
  cases b with
  | true => exact h1 rfl
  | false => exact h2 rfl
theorem Is.comp1 {c : β → WP Bool} {f : β → WP γ} {p : β → Bool} {g : β → γ} : ∀ {xs : List β} {k : Nat}, k + xs.length ≤ 100000 → (∀ x ∈ xs, Is (c x) (p x)) → (∀ x ∈ xs, p x = true → Is (f x) (g x)) → Is (WP.comp1 c f k xs) ((xs.filter p).map g)
  | [], _, _, _, _ => Is.pure
  | x :: xs, k, hk, h, h' => (h x List.mem_cons_self).bind (by
    rw [List.length_cons] at hk
    rw [List.filter_cons]
    cases e : p x with
    | true => exact (h' x List.mem_cons_self e).bind ((Is.req (by omega)).bind ((Is.comp1 (by omega) (fun y m => h y (List.mem_cons_of_mem _ m)) (fun y m => h' y (List.mem_cons_of_mem _ m))).bind Is.pure))
    | false => exact Is.comp1 (by omega) (fun y m => h y (List.mem_cons_of_mem _ m)) (fun y m => h' y (List.mem_cons_of_mem _ m)))
theorem Is.comp2 {c : α → WP Bool} {w : α → WP (List β)} {c1 : α → β → WP Bool} {f : α → β → WP γ} {ys : α → List β} {g : α → β → γ} : ∀ {xs : List α} {k : Nat}, k + (xs.flatMap fun x => (ys x).map (g x)).length ≤ 100000 → (∀ x ∈ xs, Is (c x) true) → (∀ x ∈ xs, Is (w x) (ys x)) → (∀ x ∈ xs, ∀ y ∈ ys x, Is (c1 x y) true) → (∀ x ∈ xs, ∀ y ∈ ys x, Is (f x y) (g x y)) → Is (WP.comp2 c w c1 f k xs) (xs.flatMap fun x => (ys x).map (g x))
  | [], _, _, _, _, _, _ => Is.pure
  | x :: xs, k, hk, h1, h2, h3, h4 => (h1 x List.mem_cons_self).bind ((h2 x List.mem_cons_self).bind (by
    rw [List.flatMap_cons, List.length_append, List.length_map] at hk
    have e : Is (WP.comp1 (c1 x) (f x) k (ys x)) ((ys x).map (g x)) := by
      have := Is.comp1 (k := k) (p := fun _ => true) (g := g x) (by omega) (fun y m => h3 x List.mem_cons_self y m) (fun y m _ => h4 x List.mem_cons_self y m)
      rwa [List.filter_eq_self.mpr (fun _ _ => rfl)] at this
    refine e.bind ((Is.comp2 (by rw [List.length_map]; omega) (fun y m => h1 y (List.mem_cons_of_mem _ m)) (fun y m => h2 y (List.mem_cons_of_mem _ m)) (fun y m => h3 y (List.mem_cons_of_mem _ m)) (fun y m => h4 y (List.mem_cons_of_mem _ m))).bind ?_)
    rw [List.flatMap_cons]
    exact Is.pure))
theorem Is.ne {α : Type} [DecidableEq α] {a b : WP α} {x y : α} (h : Is a x) (h' : Is b y) : Is (WP.ne a b) (!decide (x = y)) := h.bind (h'.bind Is.pure)
theorem Is.eqv {α : Type} [DecidableEq α] {a b : WP α} {x y : α} (h : Is a x) (h' : Is b y) : Is (WP.eq a b) (decide (x = y)) := h.bind (h'.bind Is.pure)
theorem Is.lenS {w : WP Str} {z : Str} (h : Is w z) (hz : z.length ≤ 100000) : Is (WP.lenS w) ((z.length : Nat) : Int) := h.bind (Is.req hz)
theorem Is.ix [Inhabited α] {w : WP (List α)} {k : WP Int} {xs : List α} {i : Int} (h : Is w xs) (h' : Is k i) (ho : okI xs.length i) : Is (WP.ix w k) (ixD xs i) := h.bind (h'.bind (Is.req ho))
/-- if no: return, else go on -/
theorem Is.guard {s : Type} {t : WP Bool} {b : Bool} {no : γ} {w : WP (Ctl s γ)} {x : Ctl s γ} (h : Is t (!b)) (h1 : b = true → Is w x) : Is (t.bind fun b => WP.cond b ((WP.pure no).bind fun r => WP.pure (.rt r)) w) (if b then x else .rt no) := h.bind (by
  cases b with
  | true => exact h1 rfl
  | false => exact Is.pure)
end
def squares_ofM (a_chart : (List Str)) : WP (List Sq) := (WP.lc2 (WP.range1 (WP.len (WP.pure a_chart))) (fun c1 => (WP.pure true)) (fun c1 => (WP.range1 (WP.lenS (WP.ix (WP.pure a_chart) (WP.pure (0 : Int)))))) (fun c1 d1 => (WP.pure true)) (fun c1 d1 => (WP.pair (WP.pure c1) (WP.pure d1)))).bind fun r1 => (WP.pure r1)
def land_squaresM (a_chart : (List Str)) : WP (List Sq) := (WP.lc (WP.b1 (WP.pure a_chart) squares_ofM) (fun c1 => (WP.b2 (WP.pure a_chart) (WP.pure c1) is_landM)) (fun c1 => (WP.pure c1))).bind fun r1 => (WP.pure r1)
def is_withinM (a_chart : (List Str)) (a_other : (List Str)) : WP Bool := (WP.eq (WP.len (WP.lc (WP.b1 (WP.pure a_chart) land_squaresM) (fun c1 => (WP.not (WP.b2 (WP.pure a_other) (WP.pure c1) is_landM))) (fun c1 => (WP.pure c1)))) (WP.pure (0 : Int))).bind fun r1 => (WP.pure r1)
theorem squares_of_is {ch : List Str} (c : Ch ch) : Is (squares_ofM ch) (allSq ch) := by
  have hh := c.hl
  have hw := c.wl
  have e : allSq ch = (rangeL 0 (ch.length : Int)).flatMap fun r => (rangeL 0 (wid ch : Int)).map fun c => (r, c) := by
    unfold allSq rangeL
    simp [List.flatMap_map]
    rfl
  refine Is.ret ((Is.range1 (Is.len Is.pure) (by omega)).bind ?_)
  rw [e]
  refine Is.comp2 (by rw [← e]; have := c.area; omega) (fun _ _ => Is.pure) (fun _ _ => Is.range1 (Is.wid0 c) (by omega)) (fun _ _ _ _ => Is.pure) (fun _ _ _ _ => Is.b2 Is.pure Is.pure Is.pure)
theorem land_squares_is {ch : List Str} (c : Ch ch) : Is (land_squaresM ch) ((allSq ch).filter (isLd ch)) :=
  Is.ret (Is.lcF (Is.b1 Is.pure (squares_of_is c)) (by have := c.area; omega) fun x _ => Is.b2 Is.pure Is.pure (is_land_is c x))
theorem is_within_is {ch o : List Str} (c : Ch ch) (c' : Ch o) : Is (is_withinM ch o) (decide ((((((allSq ch).filter (isLd ch)).filter fun q => !isLd o q).length : Nat) : Int) = 0)) :=
  Is.ret (Is.eqv (Is.len (Is.lcF (Is.b1 Is.pure (land_squares_is c)) (Nat.le_trans (List.length_filter_le _ _) (by have := c.area; omega)) fun x _ => Is.not (Is.b2 Is.pure Is.pure (is_land_is c' x)))) Is.pure)
theorem one_eq {c d : Nat} : ((⟨#[c]⟩ : Str) = ⟨#[d]⟩) ↔ c = d := by
  constructor
  · intro h
    injection h with h
    have := congrArg Array.toList h
    simpa using this
  · intro h; rw [h]
theorem x_str : ("x" : Str) = ⟨#[120]⟩ := by decide +kernel
theorem dot_str : ("." : Str) = ⟨#[46]⟩ := by decide +kernel
end Y

/-! plain facts: parts of texts and rows -/
namespace Y
open PySem L2
end Y

/-! == of data is equality -/
namespace Y
open PySem L2
open Dat (dat)
class EqD (α : Type) [PyI α] [Dat α] where
  ok : α → Prop
  dep : Nat
  lay : ∀ a : α, ok a → PyData.canLay0 (dat a) = true
  depth : ∀ a : α, PyData.depth (dat a) ≤ dep
  eqv : ∀ a b : α, PyData.eqv (dat a) (dat b) = true ↔ a = b
instance : EqD Int := ⟨fun _ => True, 0, fun _ _ => by simp only [dat, PyData.canLay0], fun _ => by simp only [dat, PyData.depth]; exact Nat.le_refl _, fun a b => by simp only [dat, PyData.eqv]; exact beq_iff_eq⟩
instance : EqD Bool := ⟨fun _ => True, 0, fun _ _ => by simp only [dat, PyData.canLay0], fun _ => by simp only [dat, PyData.depth]; exact Nat.le_refl _, fun a b => by simp only [dat, PyData.eqv]; exact beq_iff_eq⟩
theorem str_beq {a b : Str} : (a == b) = true ↔ a = b := by
  first
    | exact beq_iff_eq
    | simp
instance : EqD Str := ⟨fun s => PyData.canLay0 (.str s) = true, 0, fun _ h => h, fun _ => by simp only [dat, PyData.depth]; exact Nat.le_refl _, fun a b => by simp only [dat, PyData.eqv]; exact str_beq⟩
section
variable {α β : Type} [PyI α] [PyI β] [Dat α] [Dat β] [EqD α] [EqD β]
instance : EqD (α × β) := ⟨fun c => EqD.ok c.1 ∧ EqD.ok c.2, max (EqD.dep α) (EqD.dep β) + 1, fun c h => by
  simp only [dat, PyData.canLay0, PyData.canLayAll0, Bool.and_true]
  rw [Bool.and_eq_true]
  exact ⟨EqD.lay _ h.1, EqD.lay _ h.2⟩, fun c => by
  have h1 := EqD.depth c.1
  have h2 := EqD.depth c.2
  simp only [dat, PyData.depth, PyData.depthAll] at h1 h2 ⊢
  omega, fun a b => by
  have h1 := EqD.eqv a.1 b.1
  have h2 := EqD.eqv a.2 b.2
  obtain ⟨a1, a2⟩ := a
  obtain ⟨b1, b2⟩ := b
  simp only [dat, PyData.eqv, PyData.eqvAll, Bool.and_true] at h1 h2 ⊢
  rw [Bool.and_eq_true, h1, h2, Prod.mk.injEq]⟩
theorem lay_all {xs : List α} (h : ∀ a ∈ xs, EqD.ok a) : PyData.canLayAll0 (xs.map dat) = true := by
  induction xs with
  | nil => simp only [List.map_nil, PyData.canLayAll0]
  | cons x xs ih =>
    simp only [List.map_cons, PyData.canLayAll0]
    rw [Bool.and_eq_true]
    exact ⟨EqD.lay x (h x List.mem_cons_self), ih fun a m => h a (List.mem_cons_of_mem _ m)⟩
theorem depth_all (xs : List α) : PyData.depthAll (xs.map dat) ≤ EqD.dep α := by
  induction xs with
  | nil => simp only [List.map_nil, PyData.depthAll]; exact Nat.zero_le _
  | cons x xs ih =>
    have := EqD.depth x
    simp only [List.map_cons, PyData.depthAll]
    omega
theorem eqv_all : ∀ xs ys : List α, PyData.eqvAll (xs.map dat) (ys.map dat) = true ↔ xs = ys
  | [], [] => by simp [PyData.eqvAll]
  | [], _ :: _ => by simp [PyData.eqvAll]
  | _ :: _, [] => by simp [PyData.eqvAll]
  | x :: xs, y :: ys => by
    simp only [List.map_cons, PyData.eqvAll]
    rw [Bool.and_eq_true, EqD.eqv, eqv_all xs ys, List.cons.injEq]
instance : EqD (List α) := ⟨fun xs => ∀ a ∈ xs, EqD.ok a, EqD.dep α + 1, fun xs h => by
  simp only [dat, PyData.canLay0]
  exact lay_all h, fun xs => by
  have := depth_all xs
  simp only [dat, PyData.depth] at this ⊢
  omega, fun a b => by
  have := eqv_all a b
  simp only [dat, PyData.eqv] at this ⊢
  exact this⟩
instance : EqD (Ls α) := ⟨fun xs => ∀ a ∈ xs.l, EqD.ok a, EqD.dep α + 1, fun xs h => by
  simp only [dat, PyData.canLay0]
  exact lay_all h, fun xs => by
  have := depth_all xs.l
  simp only [dat, PyData.depth] at this ⊢
  omega, fun a b => by
  have := eqv_all a.l b.l
  obtain ⟨a⟩ := a
  obtain ⟨b⟩ := b
  simp only [dat, PyData.eqv] at this ⊢
  rw [this, Ls.mk.injEq]⟩
theorem shaped_of {a : α} (h : EqD.ok a) (hd : EqD.dep α ≤ 64 := by decide) : SeqAt.shaped (dat a) = true := by
  show ((dat a).canLay0 && decide ((dat a).depth ≤ 64)) = true
  rw [Bool.and_eq_true]
  exact ⟨EqD.lay a h, decide_eq_true (Nat.le_trans (EqD.depth a) hd)⟩
theorem shaped_L {xs : List α} (h : ∀ a ∈ xs, EqD.ok a) (hd : EqD.dep α ≤ 63 := by decide) : SeqAt.shaped (.list (xs.map dat)) = true := by
  show (PyData.canLay0 (.list (xs.map dat)) && decide (PyData.depth (.list (xs.map dat)) ≤ 64)) = true
  rw [Bool.and_eq_true]
  have := depth_all xs
  exact ⟨by simp only [PyData.canLay0]; exact lay_all h, decide_eq_true (by simp only [PyData.depth]; omega)⟩
theorem eqv_dec [DecidableEq α] (a b : α) : PyData.eqv (dat a) (dat b) = decide (a = b) := by
  have := EqD.eqv a b
  by_cases h : a = b
  · rw [decide_eq_true h]; exact this.mpr h
  · rw [decide_eq_false h]
    cases e : PyData.eqv (dat a) (dat b) with
    | true => exact absurd (this.mp e) h
    | false => rfl
theorem eqv_decL [DecidableEq α] (a b : List α) : PyData.eqv (.list (a.map dat)) (.list (b.map dat)) = decide (a = b) := by
  have := eqv_all a b
  have e : PyData.eqv (.list (a.map dat)) (.list (b.map dat)) = PyData.eqvAll (a.map dat) (b.map dat) := by simp only [PyData.eqv]
  rw [e]
  by_cases h : a = b
  · rw [decide_eq_true h]; exact this.mpr h
  · rw [decide_eq_false h]
    cases e : PyData.eqvAll (a.map dat) (b.map dat) with
    | true => exact absurd (this.mp e) h
    | false => rfl
theorem Is.eqD [DecidableEq α] {a b : WP α} {x y : α} (ha : Is a x) (hb : Is b y) (hx : EqD.ok x) (hy : EqD.ok y) (hd : EqD.dep α ≤ 64 := by decide) : Is (WP.eqD a b) (decide (x = y)) := ha.bind (hb.bind ((Is.req ⟨shaped_of hx hd, shaped_of hy hd⟩).eq (eqv_dec x y)))
theorem Is.neD [DecidableEq α] {a b : WP α} {x y : α} (ha : Is a x) (hb : Is b y) (hx : EqD.ok x) (hy : EqD.ok y) (hd : EqD.dep α ≤ 64 := by decide) : Is (WP.neD a b) (!decide (x = y)) := ha.bind (hb.bind ((Is.req ⟨shaped_of hx hd, shaped_of hy hd⟩).eq (by rw [eqv_dec])))
theorem Is.eqLD [DecidableEq α] {a b : WP (List α)} {x y : List α} (ha : Is a x) (hb : Is b y) (hx : ∀ z ∈ x, EqD.ok z) (hy : ∀ z ∈ y, EqD.ok z) (hd : EqD.dep α ≤ 63 := by decide) : Is (WP.eqLD a b) (decide (x = y)) := ha.bind (hb.bind ((Is.req ⟨shaped_L hx hd, shaped_L hy hd⟩).eq (eqv_decL x y)))
end
theorem ok_sq (q : Sq) : EqD.ok q := ⟨trivial, trivial⟩
end Y

/-! plain facts: drawn charts, squares set -/
namespace Y
open PySem L2
structure ChO (n m : Int) (ch : List Str) : Prop where
  good : Ch ch
  len : (ch.length : Int) = n
  wd : (wid ch : Int) = m
  sg : ∀ s ∈ ch, ∀ c ∈ s.cps.toList, c = 120 ∨ c = 46
/-- a grid of signs -/
structure SGrid (G : List (List Str)) (k m : Nat) : Prop where
  len : G.length = k
  row : ∀ r ∈ G, r.length = m ∧ ∀ d ∈ r, d = ⟨#[120]⟩ ∨ d = ⟨#[46]⟩
theorem SGrid.set {G : List (List Str)} {k m : Nat} (g : SGrid G k m) {r c : Int} {v : Str} (hr : 0 ≤ r) (hr2 : r < k) (hv : v = ⟨#[120]⟩ ∨ v = ⟨#[46]⟩) : SGrid (setG G r c v) k m := by
  unfold setG
  refine ⟨by rw [setL_len]; exact g.len, fun x hx => ?_⟩
  rcases setL_mem hx with hx | rfl
  · exact g.row x hx
  · have hm := ixD_mem (xs := G) hr (by rw [g.len]; exact hr2)
    refine ⟨by rw [setL_len]; exact (g.row _ hm).1, fun d hd => ?_⟩
    rcases setL_mem hd with hd | rfl
    · exact (g.row _ hm).2 d hd
    · exact hv
def cod (s : Str) : Nat := ixD s.cps.toList 0
theorem cod_one {s : Str} (h : s = ⟨#[120]⟩ ∨ s = ⟨#[46]⟩) : s = ⟨#[cod s]⟩ ∧ (cod s = 120 ∨ cod s = 46) := by
  rcases h with h | h <;> subst h <;> exact ⟨by decide, by decide⟩
theorem rowC_is {r : List Str} (h : ∀ d ∈ r, d = ⟨#[120]⟩ ∨ d = ⟨#[46]⟩) (hl : r.length ≤ 100000) : Is (WP.join (WP.pure (Str.ofString "")) (WP.pure r)) (mkS (r.map cod)) := by
  refine join1_is (h := ?_) (by rw [List.length_map]; exact hl)
  have : r = (r.map cod).map fun c => (⟨#[c]⟩ : Str) := by
    rw [List.map_map]
    conv => lhs; rw [← List.map_id r]
    exact List.map_congr_left fun d hd => (cod_one (h d hd)).1
  rw [← this]
  exact Is.pure
theorem chO_of {G : List (List Str)} {k m : Nat} (g : SGrid G k m) (hk : 0 < k) (hk2 : k ≤ 300) (hm : 0 < m) (hm2 : m ≤ 300) : ChO (k : Int) (m : Int) (G.map fun r => mkS (r.map cod)) := by
  have hw : ∀ s ∈ G.map (fun r => mkS (r.map cod)), s.length = m := fun s hs => by
    obtain ⟨r, hr, rfl⟩ := List.mem_map.mp hs
    rw [mkS_len, List.length_map]
    exact (g.row r hr).1
  have hl : (G.map fun r => mkS (r.map cod)).length = k := by rw [List.length_map]; exact g.len
  have hwid : wid (G.map fun r => mkS (r.map cod)) = m := hw _ (ixD_mem (by omega) (by omega))
  refine ⟨⟨by omega, by omega, fun s hs => by rw [hwid]; exact hw s hs, by omega, by omega⟩, by rw [hl], by rw [hwid], fun s hs c hc => ?_⟩
  obtain ⟨r, hr, rfl⟩ := List.mem_map.mp hs
  rw [tl_mkS] at hc
  obtain ⟨d, hd, rfl⟩ := List.mem_map.mp hc
  exact (cod_one ((g.row r hr).2 d hd)).2
theorem x_of : (Str.ofString "x") = ⟨#[120]⟩ := by decide +kernel
theorem dot_of : (Str.ofString ".") = ⟨#[46]⟩ := by decide +kernel
theorem Gives.bind {α β : Type} {w : WP α} {P : α → Prop} {f : α → WP β} {P' : β → Prop} (h : Gives w P) (h' : ∀ a, P a → Gives (f a) P') : Gives (w.bind f) P' := fun n Q q => h n _ fun a ha => h' a ha n Q q
theorem Gives.pure {α : Type} {a : α} {P : α → Prop} (h : P a) : Gives (WP.pure a) P := fun n Q q => q a h
theorem Is.gives {α : Type} {w : WP α} {a : α} {P : α → Prop} (h : Is w a) (hp : P a) : Gives w P := fun n Q q => h n Q (q a hp)
theorem Gives.draws {α : Type} {w : WP α} {P : α → Prop} {k : Nat} (h : Gives w P) : Draws w k P := fun n Q _ q => h n Q fun a ha => q n a (Nat.le_refl _) (by omega) ha
theorem Gives.cond {α : Type} {b : Bool} {A B : WP α} {P : α → Prop} (h : b = true → Gives A P) (k : b = false → Gives B P) : Gives (WP.cond b A B) P := by
  cases b with
  | true => exact h rfl
  | false => exact k rfl
theorem Draws.cond {α : Type} {b : Bool} {A B : WP α} {k : Nat} {P : α → Prop} (h : b = true → Draws A k P) (h' : b = false → Draws B k P) : Draws (WP.cond b A B) k P := by
  cases b with
  | true => exact h rfl
  | false => exact h' rfl
abbrev tt {α : Type} : α → Prop := fun _ => True
/-- a sign put behind a row -/
theorem sign_app {y : List Str} {j : Nat} (b : Bool) (hl : y.length = j) (hj : j < 300) (h : ∀ d ∈ y, d = (⟨#[120]⟩ : Str) ∨ d = ⟨#[46]⟩) : Gives (((WP.ite (WP.pure b) (WP.pure (Str.ofString "x")) (WP.pure (Str.ofString "."))).bind fun a => WP.req (y.length < 100000) (y ++ [a])).bind fun a14_row => (WP.pure (α := Ctl (List Str) (List Str)) (.nx a14_row))) (fun c => ∃ z, c = .nx z ∧ z.length = j + 1 ∧ ∀ d ∈ z, d = (⟨#[120]⟩ : Str) ∨ d = ⟨#[46]⟩) := by
  have fin : ∀ v : Str, (v = ⟨#[120]⟩ ∨ v = ⟨#[46]⟩) → (y ++ [v]).length = j + 1 ∧ ∀ d ∈ y ++ [v], d = (⟨#[120]⟩ : Str) ∨ d = ⟨#[46]⟩ := fun v hv => by
    refine ⟨by rw [List.length_append, hl]; rfl, fun d hd => ?_⟩
    rcases List.mem_append.mp hd with hd | hd
    · exact h d hd
    · rw [List.mem_singleton.mp hd]; exact hv
  intro n Q q
  (simp only [WP.run_bind, WP.run_pure, WP.run_req, WP.run_any, WP.run_take, WP.run_cond, WP.run_range1, WP.run_range2, decide_eq_true_eq, decide_eq_false_iff_not, Bool.not_eq_true', Bool.not_eq_false'])
  exact ⟨fun _ => ⟨by omega, q _ ⟨_, rfl, fin _ (.inl x_of)⟩⟩, fun _ => ⟨by omega, q _ ⟨_, rfl, fin _ (.inr dot_of)⟩⟩⟩
theorem grid_end {G : List (List Str)} {k m : Nat} (g : SGrid G k m) (hk : 0 < k) (hk2 : k ≤ 300) (hm : 0 < m) (hm2 : m ≤ 300) : Gives (((WP.lc (WP.pure G) (fun c1 => (WP.pure true)) (fun c1 => (WP.join (WP.pure (Str.ofString "")) (WP.pure c1)))).bind fun xs => WP.pure (α := List _) xs).bind fun r26 => (WP.pure r26)) (ChO (k : Int) (m : Int)) :=
  Is.gives (Is.ret (Is.bind (Is.lcM (g := fun r => mkS (r.map cod)) Is.pure (by rw [g.len]; omega) fun r hr => rowC_is (g.row r hr).2 (by rw [(g.row r hr).1]; omega)) Is.pure)) (chO_of g hk hk2 hm hm2)
/-- a sign turned -/
theorem grid_turn {G : List (List Str)} {k m : Nat} (g : SGrid G k m) {rows columns : Int} (hr : rows = (k : Int)) (hc : columns = (m : Int)) (hk : 0 < k) (hk2 : k ≤ 300) (hm : 0 < m) (hm2 : m ≤ 300) : Draws ((WP.b2 (WP.pure ()) (WP.pure rows) m_take).bind fun a23_r => (WP.b2 (WP.pure ()) (WP.pure columns) m_take).bind fun a24_c => (WP.gset G (WP.ite (WP.eq (WP.ix (WP.ix (WP.pure G) (WP.pure a23_r)) (WP.pure a24_c)) (WP.pure (Str.ofString "x"))) (WP.pure (Str.ofString ".")) (WP.pure (Str.ofString "x"))) (WP.pure a23_r) (WP.pure a24_c)).bind fun a25_grid => (WP.pure (α := Ctl (List (List Str)) (List Str)) (.nx a25_grid))) 2 (fun c => ∃ z, c = .nx z ∧ SGrid z k m) := by
  intro n Q hn q
  (simp only [WP.run_bind, WP.run_pure, WP.run_req, WP.run_any, WP.run_take, WP.run_cond, WP.run_range1, WP.run_range2, decide_eq_true_eq, decide_eq_false_iff_not, Bool.not_eq_true', Bool.not_eq_false'])
  refine ⟨by omega, by omega, fun r r1 r2 => ⟨by omega, by omega, fun c c1 c2 => ?_⟩⟩
  have hl := g.len
  have hrow := (g.row _ (ixD_mem r1 (by omega))).1
  have o1 : okI G.length r := ⟨by omega, by omega⟩
  have o2 : okI (ixD G r).length c := ⟨by omega, by omega⟩
  refine ⟨o1, o2, fun _ => ⟨o1, o2, ?_⟩, fun _ => ⟨o1, o2, ?_⟩⟩
  · exact q _ _ (by omega) (by omega) ⟨_, rfl, g.set r1 (by omega) (.inr dot_of)⟩
  · exact q _ _ (by omega) (by omega) ⟨_, rfl, g.set r1 (by omega) (.inl x_of)⟩
theorem edge_ok {rows columns r c : Int} : Gives (WP.eq (WP.mod (WP.min4 (WP.pure r) (WP.pure c) (WP.sub (WP.sub (WP.pure rows) (WP.pure (1 : Int))) (WP.pure r)) (WP.sub (WP.sub (WP.pure columns) (WP.pure (1 : Int))) (WP.pure c))) (WP.pure (2 : Int))) (WP.pure (0 : Int))) tt := by
  intro n Q q
  (simp only [WP.run_bind, WP.run_pure, WP.run_req, WP.run_any, WP.run_take, WP.run_cond, WP.run_range1, WP.run_range2, decide_eq_true_eq, decide_eq_false_iff_not, Bool.not_eq_true', Bool.not_eq_false'])
  exact ⟨by decide, q _ trivial⟩
theorem wind_ok {columns r c : Int} : Gives (WP.or (WP.eq (WP.mod (WP.pure r) (WP.pure (2 : Int))) (WP.pure (0 : Int))) (WP.eq (WP.pure c) (WP.ix (WP.row (WP.consE (WP.pure (0 : Int)) (WP.consE (WP.sub (WP.pure columns) (WP.pure (1 : Int))) (WP.pure ([] : List Int))))) (WP.mod (WP.fdiv (WP.pure r) (WP.pure (2 : Int))) (WP.pure (2 : Int)))))) tt := by
  intro n Q q
  (simp only [WP.run_bind, WP.run_pure, WP.run_req, WP.run_any, WP.run_take, WP.run_cond, WP.run_range1, WP.run_range2, decide_eq_true_eq, decide_eq_false_iff_not, Bool.not_eq_true', Bool.not_eq_false'])
  have e3 : ([0, columns - 1] : List Int).length = 2 := rfl
  refine ⟨by decide, fun _ => q _ trivial, fun _ => ⟨by rw [e3]; decide, ⟨by decide, by decide⟩, by decide, ⟨by omega, by omega⟩, q _ trivial⟩⟩
theorem style_if {t : WP Bool} {A : WP Bool} {y : Bool} (ht : Gives t tt) (hA : Gives A tt) : Gives (t.bind fun b => WP.cond b (A.bind fun a => (WP.pure a)) (WP.pure y)) tt := ht.bind fun b _ => Gives.cond (fun _ => hA.bind fun _ _ => Gives.pure trivial) fun _ => Gives.pure trivial
theorem eq_ok {a b : Int} : Gives (WP.eq (WP.pure a) (WP.pure b)) tt := fun _ _ q => q _ trivial
/-! squares drawn and set -/
def setCh (ch : List Str) (q : Sq) (k : Nat) : List Str := ch.set q.1.toNat (mkS ((ixD ch q.1).cps.toList.set q.2.toNat k))
theorem ixD_set {α : Type} [Inhabited α] {xs : List α} {n : Nat} {a : α} {i : Int} (h0 : 0 ≤ i) (h : i < xs.length) : ixD (xs.set n a) i = if n = i.toNat then a else ixD xs i := by
  obtain ⟨h1, e1⟩ := ixD_get h0 h
  obtain ⟨h2, e2⟩ := ixD_get (xs := xs.set n a) h0 (by rw [List.length_set]; exact h)
  rw [e1, e2, List.getElem_set]
section
variable {ch : List Str} {q : Sq} (c : Ch ch) (h : isSq ch q = true) (k : Nat)
include c h
theorem setCh_wid : wid (setCh ch q k) = wid ch := by
  unfold wid setCh
  rw [ixD_set (by omega) (by have := c.ne; omega)]
  split
  · rw [mkS_len, List.length_set, tl_len, c.len1 h]; rfl
  · rfl
theorem setCh_sq (p : Sq) : isSq (setCh ch q k) p = isSq ch p := by
  unfold isSq
  rw [setCh_wid c h k]
  unfold setCh
  rw [List.length_set]
theorem setCh_ch : Ch (setCh ch q k) := by
  have hl : (setCh ch q k).length = ch.length := by unfold setCh; rw [List.length_set]
  refine ⟨by rw [hl]; exact c.ne, by rw [hl]; exact c.hl, fun s hs => ?_, by rw [setCh_wid c h]; exact c.w0, by rw [setCh_wid c h]; exact c.wl⟩
  rw [setCh_wid c h]
  rcases List.mem_or_eq_of_mem_set hs with hs | hs
  · exact c.w s hs
  · rw [hs, mkS_len, List.length_set, tl_len, c.len1 h]
theorem setCh_ld (p : Sq) : isLd (setCh ch q k) p = if p = q then decide (k = 120) else isLd ch p := by
  have hh := isSq_iff.mp h
  unfold isLd
  rw [setCh_sq c h k]
  cases e : isSq ch p with
  | false =>
    rw [Bool.false_and]
    split
    · rename_i g; subst g; rw [e] at h; cases h
    · rfl
  | true =>
    have hp := isSq_iff.mp e
    rw [Bool.true_and, Bool.true_and]
    have e1 : ixD (setCh ch q k) p.1 = if q.1.toNat = p.1.toNat then mkS ((ixD ch q.1).cps.toList.set q.2.toNat k) else ixD ch p.1 := by
      unfold setCh
      exact ixD_set hp.1 hp.2.1
    rw [e1]
    by_cases g1 : q.1.toNat = p.1.toNat
    · rw [if_pos g1]
      have g1' : q.1 = p.1 := by omega
      have e2 : sgn (mkS ((ixD ch q.1).cps.toList.set q.2.toNat k)) p.2 = ⟨#[if q.2.toNat = p.2.toNat then k else ixD (ixD ch q.1).cps.toList p.2]⟩ := by
        unfold sgn
        rw [tl_mkS, ixD_set hp.2.2.1 (by rw [tl_len, c.len1 h]; exact hp.2.2.2)]
      rw [e2]
      by_cases g2 : q.2.toNat = p.2.toNat
      · have : p = q := by apply Prod.ext <;> omega
        rw [if_pos g2, if_pos this, x_str]
        simp only [one_eq]
      · have : p ≠ q := fun z => g2 (by rw [z])
        rw [if_neg g2, if_neg this, g1']
        rfl
    · have : p ≠ q := fun z => g1 (by rw [z])
      rw [if_neg g1, if_neg this]
theorem setCh_sg (hs : ∀ s ∈ ch, ∀ c ∈ s.cps.toList, c = 120 ∨ c = 46) (hk : k = 120 ∨ k = 46) : ∀ s ∈ setCh ch q k, ∀ c ∈ s.cps.toList, c = 120 ∨ c = 46 := by
  intro s hm x hx
  have hh := isSq_iff.mp h
  rcases List.mem_or_eq_of_mem_set hm with hm | hm
  · exact hs s hm x hx
  · rw [hm, tl_mkS] at hx
    rcases List.mem_or_eq_of_mem_set hx with hx | hx
    · exact hs _ (ixD_mem hh.1 hh.2.1) x hx
    · rw [hx]; exact hk
end
end Y

/-! plain facts: charts whose signs are told, squares filled one after another -/
namespace Y
open PySem L2
structure GC (ch : List Str) : Prop where
  good : Ch ch
  sg : ∀ s ∈ ch, ∀ c ∈ s.cps.toList, c = 120 ∨ c = 46
theorem GC.of {n m : Int} {c : List Str} (h : ChO n m c) : GC c := ⟨h.good, h.sg⟩
theorem GC.ok {c : List Str} (h : GC c) : EqD.ok c := fun s hs => by
  show PyData.canLay0 (.str s) = true
  simp only [PyData.canLay0]
  unfold PyData.strOk
  rw [Array.all_eq_true_iff_forall_mem]
  intro x hx
  have := h.sg s hs x (by simpa using hx)
  rcases this with e | e <;> rw [e] <;> decide
/-- the sign of a square -/
def sgn' (ch : List Str) (q : Sq) : Nat := ixD (ixD ch q.1).cps.toList q.2
theorem isLd_at {ch : List Str} {q : Sq} : isLd ch q = (isSq ch q && decide (sgn' ch q = 120)) := by
  unfold isLd sgn' sgn
  rw [x_str]
  simp only [one_eq]
/-- the same size -/
structure Sz (a b : List Str) : Prop where
  l : a.length = b.length
  w : wid a = wid b
theorem Sz.sq {a b : List Str} (h : Sz a b) (q : Sq) : isSq a q = isSq b q := by unfold isSq; rw [h.l, h.w]
theorem Sz.all {a b : List Str} (h : Sz a b) : allSq a = allSq b := by unfold allSq; rw [h.l, h.w]
theorem Sz.refl (a : List Str) : Sz a a := ⟨rfl, rfl⟩
theorem Sz.symm {a b : List Str} (h : Sz a b) : Sz b a := ⟨h.l.symm, h.w.symm⟩
theorem Sz.trans {a b c : List Str} (h : Sz a b) (h' : Sz b c) : Sz a c := ⟨h.l.trans h'.l, h.w.trans h'.w⟩
theorem sz_set {ch : List Str} {q : Sq} (c : Ch ch) (h : isSq ch q = true) (k : Nat) : Sz (setCh ch q k) ch := ⟨by unfold setCh; rw [List.length_set], setCh_wid c h k⟩
theorem gc_set {ch : List Str} {q : Sq} (c : GC ch) (h : isSq ch q = true) {k : Nat} (hk : k = 120 ∨ k = 46) : GC (setCh ch q k) := ⟨setCh_ch c.good h k, setCh_sg c.good h k c.sg hk⟩
/-- charts of one size with the same land are one chart -/
theorem gc_ext {a b : List Str} (ha : GC a) (hb : GC b) (hs : Sz a b) (h : ∀ q, isLd a q = isLd b q) : a = b := by
  apply List.ext_getElem hs.l
  intro r hr hr'
  apply str_ext
  have la : a[r].cps.toList.length = wid a := by rw [tl_len]; exact ha.good.w _ (List.getElem_mem hr)
  have lb : b[r].cps.toList.length = wid b := by rw [tl_len]; exact hb.good.w _ (List.getElem_mem hr')
  apply List.ext_getElem (by rw [la, lb, hs.w])
  intro c hc hc'
  have hsq : isSq a ((r : Int), (c : Int)) = true := isSq_iff.mpr ⟨by show (0 : Int) ≤ r; omega, by show (r : Int) < _; omega, by show (0 : Int) ≤ c; omega, by show (c : Int) < _; omega⟩
  have ea : sgn' a ((r : Int), (c : Int)) = a[r].cps.toList[c] := by
    unfold sgn'
    rw [ixD_nat hr, ixD_nat hc]
  have eb : sgn' b ((r : Int), (c : Int)) = b[r].cps.toList[c] := by
    unfold sgn'
    rw [ixD_nat hr', ixD_nat hc']
  have hh := h ((r : Int), (c : Int))
  rw [isLd_at, isLd_at, ← hs.sq, hsq, ea, eb, Bool.true_and, Bool.true_and] at hh
  have g1 := ha.sg _ (List.getElem_mem hr) _ (List.getElem_mem hc)
  have g2 := hb.sg _ (List.getElem_mem hr') _ (List.getElem_mem hc')
  rcases g1 with e1 | e1 <;> rcases g2 with e2 | e2 <;> rw [e1, e2] <;> rw [e1, e2] at hh <;> simp at hh
/-! ### squares that lie between -/
def btwB (ch : List Str) (q : Sq) : Bool := ((rangeL 0 q.2).any (fun c => isLd ch (q.1, c)) && (rangeL (q.2 + 1) (wid ch : Int)).any (fun c => isLd ch (q.1, c))) || ((rangeL 0 q.1).any (fun r => isLd ch (r, q.2)) && (rangeL (q.1 + 1) (ch.length : Int)).any (fun r => isLd ch (r, q.2)))
theorem Is.range2 {a b : WP Int} {x y : Int} (h : Is a x) (h' : Is b y) (hx : -1000 ≤ x) (hx' : x ≤ 1000) (hy : -1000 ≤ y) (hy' : y ≤ 1000) : Is (WP.range2 a b) (rangeL x y) := Is.b2 h h' (Is.req ⟨by omega, by omega, by omega, by omega⟩)
def Sub (a b : List Str) : Prop := ∀ q, isLd a q = true → isLd b q = true
theorem btw_mono {a b : List Str} (hs : Sz a b) (h : Sub a b) {q : Sq} (hb : btwB a q = true) : btwB b q = true := by
  unfold btwB at hb ⊢
  rw [← hs.l, ← hs.w]
  have mono : ∀ (xs : List Int) (f : Int → Sq), xs.any (fun c => isLd a (f c)) = true → xs.any (fun c => isLd b (f c)) = true := fun xs f hx => by
    rw [List.any_eq_true] at hx ⊢
    obtain ⟨x, h1, h2⟩ := hx
    exact ⟨x, h1, h _ h2⟩
  rw [Bool.or_eq_true, Bool.and_eq_true, Bool.and_eq_true] at hb ⊢
  rcases hb with ⟨h1, h2⟩ | ⟨h1, h2⟩
  · exact .inl ⟨mono _ (fun c => (q.1, c)) h1, mono _ (fun c => (q.1, c)) h2⟩
  · exact .inr ⟨mono _ (fun r => (r, q.2)) h1, mono _ (fun r => (r, q.2)) h2⟩
def opens (ch : List Str) : List Sq := (allSq ch).filter fun q => !isLd ch q && btwB ch q
theorem mem_opens {ch : List Str} {q : Sq} : q ∈ opens ch ↔ isSq ch q = true ∧ isLd ch q = false ∧ btwB ch q = true := by
  unfold opens
  rw [List.mem_filter, mem_allSq, Bool.and_eq_true, Bool.not_eq_true']
/-! ### one after another -/
def Val : List Str → List Sq → Prop
  | _, [] => True
  | ch, q :: qs => (isSq ch q = true ∧ isLd ch q = false ∧ btwB ch q = true) ∧ Val (setCh ch q 120) qs
def Fin' (ch : List Str) (qs : List Sq) : List Str := qs.foldl (fun c q => setCh c q 120) ch
/-- what is filled lies within every closed chart around -/
theorem within : ∀ {qs : List Sq} {ch D : List Str}, Ch ch → Sz ch D → Val ch qs → Sub ch D → opens D = [] → Sub (Fin' ch qs) D
  | [], _, _, _, _, _, h, _ => h
  | q :: qs, ch, D, c, z, ⟨hq, hv⟩, h, ho => by
    show Sub (Fin' (setCh ch q 120) qs) D
    refine within (setCh_ch c hq.1 120) ((sz_set c hq.1 120).trans z) hv (fun p hp => ?_) ho
    rw [setCh_ld c hq.1] at hp
    split at hp
    · rename_i e
      subst e
      cases e : isLd D p with
      | true => rfl
      | false =>
        have : p ∈ opens D := mem_opens.mpr ⟨by rw [← z.sq]; exact hq.1, e, btw_mono z h hq.2.2⟩
        rw [ho] at this
        cases this
    · exact h p hp
theorem Is.loopNx {s α γ ρ : Type} {body : α → s → WP (Ctl s γ)} {a : α} {as : List α} {x y : s} {f : s → WP ρ} {r : γ → WP ρ} {z : ρ} (h : Is (body a x) (.nx y)) (h' : Is (WP.after (WP.loop body as y) f r) z) : Is (WP.after (WP.loop body (a :: as) x) f r) z := fun n Q q => h n _ (h' n Q q)
theorem Is.loopNil {s α γ ρ : Type} {body : α → s → WP (Ctl s γ)} {x : s} {f : s → WP ρ} {r : γ → WP ρ} {z : ρ} (h : Is (f x) z) : Is (WP.after (WP.loop body [] x) f r) z := fun n Q q => h n Q q
/-! grids of signs of a chart -/
theorem signs_set (l : List Nat) (n k : Nat) : signs (mkS (l.set n k)) = (signs (mkS l)).set n ⟨#[k]⟩ := by
  rw [signs_map, signs_map, tl_mkS, tl_mkS, List.map_set]
theorem setL_nat {α : Type} {xs : List α} {i : Int} {v : α} (h0 : 0 ≤ i) (h : i < xs.length) : setL xs i v = xs.set i.toNat v := by
  unfold setL ixN
  rw [if_pos h0, if_pos h]
theorem grid_set {ch : List Str} {q : Sq} (c : Ch ch) (h : isSq ch q = true) (k : Nat) : setG (ch.map signs) q.1 q.2 ⟨#[k]⟩ = (setCh ch q k).map signs := by
  have hh := isSq_iff.mp h
  unfold setG setCh
  rw [ixD_map hh.1 hh.2.1]
  have hl : (signs (ixD ch q.1)).length = wid ch := by rw [signs_map, List.length_map, tl_len, c.len1 h]
  rw [setL_nat hh.1 (by rw [List.length_map]; exact hh.2.1), setL_nat hh.2.2.1 (by rw [hl]; exact hh.2.2.2), List.map_set, signs_set, mkS_tl]
theorem joinS_is {s : Str} (hl : s.length ≤ 100000) : Is (WP.join (WP.pure (Str.ofString "")) (WP.pure (signs s))) s :=
  (join1_is (cs := s.cps.toList) Is.pure (by rw [tl_len]; exact hl)).eq (mkS_tl s)
end Y

/-! plain facts: squares of land soaked one after another -/
namespace Y
open PySem L2
def wets (ch : List Str) (q : Sq) : List Sq := (sides q).filter fun p => isSq ch p && !isLd ch p
/-! the wet rim -/
def rimOf (ch : List Str) (q : Sq) : Int := if isLd ch q then 0 else 4 - (((wets ch q).length : Nat) : Int)
def rim (ch : List Str) : Int := ((allSq ch).map (rimOf ch)).sum
end Y

/-! in for data; lengths of displays; chains -/
namespace Y
open PySem L2
open Dat (dat)
theorem any_eqv {α : Type} [PyI α] [Dat α] [EqD α] [DecidableEq α] (x : α) (ys : List α) : ((ys.map dat).any fun z => PyData.eqv z (dat x)) = decide (x ∈ ys) := by
  rw [Bool.eq_iff_iff, List.any_eq_true, decide_eq_true_eq]
  constructor
  · rintro ⟨z, hz, e⟩
    obtain ⟨y, hy, rfl⟩ := List.mem_map.mp hz
    rw [← (EqD.eqv y x).mp e]; exact hy
  · intro h
    exact ⟨dat x, List.mem_map.mpr ⟨x, h, rfl⟩, (EqD.eqv x x).mpr rfl⟩
theorem Is.inD {α : Type} [PyI α] [Dat α] [EqD α] [DecidableEq α] {a : WP α} {b : WP (List α)} {x : α} {ys : List α} (ha : Is a x) (hb : Is b ys) (hx : EqD.ok x) (hy : ∀ y ∈ ys, EqD.ok y) (hd : EqD.dep α ≤ 63 := by decide) : Is (WP.inD a b) (decide (x ∈ ys)) :=
  (Is.b2 ha hb (Is.req ⟨shaped_of hx (by omega), shaped_L hy hd⟩)).eq (any_eqv x ys)
/-! lengths -/
def Le {α : Type} (n : Nat) (xs : List α) : Prop := xs.length ≤ n
theorem Gives.imp {α : Type} {w : WP α} {P P' : α → Prop} (h : Gives w P) (k : ∀ a, P a → P' a) : Gives w P' := fun n Q q => h n Q fun a ha => q a (k a ha)
theorem Gives.b2 {α β γ : Type} {a : WP α} {b : WP β} {f : α → β → WP γ} {P : α → Prop} {P' : β → Prop} {P2 : γ → Prop} (h : Gives a P) (h' : Gives b P') (k : ∀ x y, P x → P' y → Gives (f x y) P2) : Gives (WP.b2 a b f) P2 := h.bind fun x hx => h'.bind fun y hy => k x y hx hy
theorem Gives.req {α : Type} {p : Prop} {a : α} {P : α → Prop} (h : p) (k : P a) : Gives (WP.req p a) P := fun n Q q => ⟨h, q a k⟩
theorem cutL_le {α : Type} (xs : List α) (a b : Option Int) : (cutL xs a b).length ≤ xs.length := by
  unfold cutL
  rw [List.length_take, List.length_drop]; omega
theorem Gives.cut {α : Type} {w : WP (List α)} {l h : WP (Option Int)} {n : Nat} (hw : Gives w (Le n)) (hl : Gives l tt) (hh : Gives h tt) : Gives (WP.cut w l h) (Le n) :=
  hw.bind fun xs hx => hl.bind fun _ _ => hh.bind fun _ _ => Gives.pure (Nat.le_trans (cutL_le _ _ _) hx)
theorem Gives.none {α : Type} : Gives (WP.pure (none : Option α)) tt := Gives.pure trivial
theorem Gives.some {w : WP Int} (h : Gives w tt) : Gives (w.bind fun x => WP.pure (some x)) tt := h.bind fun _ _ => Gives.pure trivial
theorem Gives.any {α : Type} {a : α} : Gives (WP.pure a) tt := Gives.pure trivial
theorem Gives.frz {α : Type} {w : WP (List α)} {n : Nat} (h : Gives w (Le n)) : Gives (w.bind fun xs => WP.pure (⟨xs⟩ : Ls α)) (fun x => Le n x.l) := h.bind fun _ hx => Gives.pure hx
/-- a display whose items all keep P -/
def All {α : Type} (P : α → Prop) (n : Nat) (xs : List α) : Prop := xs.length ≤ n ∧ ∀ x ∈ xs, P x
theorem Gives.consE {α : Type} {w : WP α} {ws : WP (List α)} {P : α → Prop} {n : Nat} (h : Gives w P) (h' : Gives ws (All P n)) : Gives (WP.consE w ws) (All P (n + 1)) :=
  Gives.b2 h h' fun x xs hx hs => Gives.pure ⟨by rw [List.length_cons]; have := hs.1; omega, fun y hy => by
    rcases List.mem_cons.mp hy with e | e
    · rw [e]; exact hx
    · exact hs.2 y e⟩
theorem Gives.row {α : Type} {ws : WP (List α)} {P : α → Prop} {n : Nat} (h : Gives ws (All P n)) (hn : n ≤ 100000) : Gives (WP.row ws) (All P n) := h.bind fun xs hx => Gives.req (by have := hx.1; omega) hx
theorem Gives.app {α : Type} {w : WP α} {y : List α} {P : α → Prop} {n : Nat} (h : Gives w P) (hy : All P n y) (hn : n < 100000) : Gives (w.bind fun a => WP.req (y.length < 100000) (y ++ [a])) (All P (n + 1)) := h.bind fun a ha => Gives.req (by have := hy.1; omega) ⟨by have := hy.1; rw [List.length_append, List.length_singleton]; omega, fun z hz => by
    rcases List.mem_append.mp hz with e | e
    · exact hy.2 z e
    · rw [List.mem_singleton.mp e]; exact ha⟩
theorem Gives.pair {α β : Type} {a : WP α} {b : WP β} {P : α → Prop} {P' : β → Prop} (h : Gives a P) (h' : Gives b P') : Gives (WP.pair a b) (fun c => P c.1 ∧ P' c.2) := Gives.b2 h h' fun x y hx hy => Gives.pure ⟨hx, hy⟩
theorem Gives.ix {α : Type} [Inhabited α] {xs : List α} {k : WP Int} {P : α → Prop} {i : Int} (h : Is k i) (ho : okI xs.length i) (hp : P (ixD xs i)) : Gives (WP.ix (WP.pure xs) k) P := (Is.pure.bind (h.bind (Is.req ho)) : Is (WP.ix (WP.pure xs) k) (ixD xs i)).gives hp
theorem Gives.lcM {α β : Type} {w : WP (List α)} {f : α → WP β} {P : β → Prop} {n : Nat} (hw : Gives w (Le n)) (hn : n ≤ 100000) (h : ∀ x, Gives (f x) P) : Gives (WP.lc w (fun _ => WP.pure true) f) (All P n) := by
  intro m Q q
  refine hw m _ fun xs hx => ?_
  unfold Le at hx
  have key : ∀ (ys : List α) (m : Nat) (Q : Nat → List β → Prop), (∀ zs, All P ys.length zs → Q m zs) → (WP.comp (fun _ => WP.pure true) f ys).run m Q := fun ys => by
    induction ys with
    | nil => intro m Q q; exact q [] ⟨Nat.le_refl _, fun _ h => by cases h⟩
    | cons y ys ih =>
      intro m Q q
      refine h y m _ fun z hz => ih m _ fun zs hzs => q _ ⟨by rw [List.length_cons, List.length_cons]; have := hzs.1; omega, fun t ht => ?_⟩
      rcases List.mem_cons.mp ht with e | e
      · rw [e]; exact hz
      · exact hzs.2 t e
  first
    | exact ⟨by omega, key xs m _ fun zs hzs => q zs ⟨by have := hzs.1; omega, hzs.2⟩⟩
    | exact key xs m _ fun zs hzs => q zs ⟨by have := hzs.1; omega, hzs.2⟩
/-! the same with draws -/
theorem Draws.any {α : Type} {a : α} : Draws (WP.pure a) 0 tt := Draws.pure trivial
theorem Draws.b2 {α β γ : Type} {a : WP α} {b : WP β} {f : α → β → WP γ} {P : α → Prop} {P' : β → Prop} {P2 : γ → Prop} {k k' k2 : Nat} (h : Draws a k P) (h' : Draws b k' P') (g : ∀ x y, P x → P' y → Draws (f x y) k2 P2) : Draws (WP.b2 a b f) (k + (k' + k2)) P2 := h.bind fun x hx => h'.bind fun y hy => g x y hx hy
theorem Draws.req {α : Type} {p : Prop} {a : α} {P : α → Prop} (h : p) (k : P a) : Draws (WP.req p a) 0 P := Gives.draws (Gives.req h k)
theorem Draws.cut {α : Type} {w : WP (List α)} {l h : WP (Option Int)} {n k : Nat} (hw : Draws w k (Le n)) (hl : Gives l tt) (hh : Gives h tt) : Draws (WP.cut w l h) (k + 0) (Le n) :=
  hw.bind fun xs hx => Gives.draws (hl.bind fun _ _ => hh.bind fun _ _ => Gives.pure (Nat.le_trans (cutL_le _ _ _) hx))
theorem Draws.frz {α : Type} {w : WP (List α)} {n k : Nat} (N : Nat) (h : Draws w k (Le n)) (hn : n ≤ N) : Draws (w.bind fun xs => WP.pure (⟨xs⟩ : Ls α)) (k + 0) (fun x => Le N x.l) := h.bind fun _ hx => Draws.pure (Nat.le_trans hx hn)
theorem Draws.consE {α : Type} {w : WP α} {ws : WP (List α)} {P : α → Prop} {n k k' : Nat} (h : Draws w k P) (h' : Draws ws k' (All P n)) : Draws (WP.consE w ws) (k + (k' + 0)) (All P (n + 1)) :=
  Draws.b2 h h' fun x xs hx hs => Draws.pure ⟨by rw [List.length_cons]; have := hs.1; omega, fun y hy => by
    rcases List.mem_cons.mp hy with e | e
    · rw [e]; exact hx
    · exact hs.2 y e⟩
theorem Draws.row {α : Type} {ws : WP (List α)} {P : α → Prop} {n k : Nat} (h : Draws ws k (All P n)) (hn : n ≤ 100000) : Draws (WP.row ws) (k + 0) (All P n) := h.bind fun xs hx => Draws.req (by have := hx.1; omega) hx
theorem Draws.app {α : Type} {w : WP α} {y : List α} {P : α → Prop} {n k : Nat} (h : Draws w k P) (hy : All P n y) (hn : n < 100000) : Draws (w.bind fun a => WP.req (y.length < 100000) (y ++ [a])) (k + 0) (All P (n + 1)) := h.bind fun a ha => Draws.req (by have := hy.1; omega) ⟨by have := hy.1; rw [List.length_append, List.length_singleton]; omega, fun z hz => by
    rcases List.mem_append.mp hz with e | e
    · exact hy.2 z e
    · rw [List.mem_singleton.mp e]; exact ha⟩
/-! chains -/
def Chn {α : Type} (R : α → α → Prop) : List α → Prop
  | [] => True
  | [_] => True
  | a :: b :: l => R a b ∧ Chn R (b :: l)
theorem Chn.tail {α : Type} {R : α → α → Prop} : ∀ {a : α} {l : List α}, Chn R (a :: l) → Chn R l
  | _, [], _ => trivial
  | _, _ :: _, h => h.2
theorem Chn.app {α : Type} {R : α → α → Prop} : ∀ {xs ys : List α}, Chn R xs → Chn R ys → (∀ a b, xs.getLast? = some a → ys.head? = some b → R a b) → Chn R (xs ++ ys)
  | [], _, _, h, _ => h
  | [x], [], _, _, _ => trivial
  | [x], y :: ys, _, h, k => ⟨k x y rfl rfl, h⟩
  | x :: y :: l, ys, h, h', k => ⟨h.1, Chn.app (xs := y :: l) h.2 h' fun a b e e' => k a b (by rw [List.getLast?_cons_cons]; exact e) e'⟩
theorem Chn.left {α : Type} {R : α → α → Prop} : ∀ {xs ys : List α}, Chn R (xs ++ ys) → Chn R xs
  | [], _, _ => trivial
  | [_], _, _ => trivial
  | _ :: y :: l, ys, h => ⟨h.1, Chn.left (xs := y :: l) (ys := ys) h.2⟩
theorem Chn.right {α : Type} {R : α → α → Prop} : ∀ {xs ys : List α}, Chn R (xs ++ ys) → Chn R ys
  | [], _, h => h
  | _ :: l, ys, h => Chn.right (xs := l) (Chn.tail (l := l ++ ys) h)
theorem Chn.take {α : Type} {R : α → α → Prop} {xs : List α} (h : Chn R xs) (n : Nat) : Chn R (xs.take n) := Chn.left (ys := xs.drop n) (by rw [List.take_append_drop]; exact h)
theorem Chn.drop {α : Type} {R : α → α → Prop} {xs : List α} (h : Chn R xs) (n : Nat) : Chn R (xs.drop n) := Chn.right (xs := xs.take n) (by rw [List.take_append_drop]; exact h)
theorem Chn.map {α β : Type} {R : α → α → Prop} {R' : β → β → Prop} {f : α → β} (k : ∀ a b, R a b → R' (f a) (f b)) : ∀ {xs : List α}, Chn R xs → Chn R' (xs.map f)
  | [], _ => trivial
  | [_], _ => trivial
  | _ :: y :: l, h => ⟨k _ _ h.1, Chn.map k (xs := y :: l) h.2⟩
theorem Chn.get {α : Type} {R : α → α → Prop} : ∀ {xs : List α}, Chn R xs → ∀ {i : Nat} {a b : α}, xs[i]? = some a → xs[i + 1]? = some b → R a b
  | [], _, _, _, _, h, _ => by cases h
  | [_], _, 0, _, _, _, h => by cases h
  | [_], _, _ + 1, _, _, h, _ => by cases h
  | x :: y :: l, h, 0, _, _, e, e' => by cases e; cases e'; exact h.1
  | x :: y :: l, h, i + 1, _, _, e, e' => Chn.get (xs := y :: l) h.2 (i := i) e e'
theorem Chn.snoc {α : Type} {R : α → α → Prop} {xs : List α} {b : α} (h : Chn R xs) (k : ∀ a, xs.getLast? = some a → R a b) : Chn R (xs ++ [b]) := h.app trivial fun a c e e' => by cases e'; exact k a e
end Y

/-! sizes: what is drawn and built stays small; rules by the form of the code -/
namespace Y
open PySem L2
class Bdd (α : Type) where
  bd : Nat → α → Prop
  mono : ∀ {n m : Nat} {a : α}, n ≤ m → bd n a → bd m a
instance : Bdd Int := ⟨fun n i => -(n : Int) ≤ i ∧ i ≤ n, fun h q => ⟨by omega, by omega⟩⟩
instance : Bdd Bool := ⟨fun _ _ => True, fun _ q => q⟩
instance : Bdd Unit := ⟨fun _ _ => True, fun _ q => q⟩
instance : Bdd Str := ⟨fun n s => s.length ≤ n, fun h q => Nat.le_trans q h⟩
section
variable {α β γ δ ε s : Type} [Bdd α] [Bdd β] [Bdd γ] [Bdd δ] [Bdd ε] [Bdd s]
instance : Bdd (Option α) := ⟨fun n o => ∀ a, o = some a → Bdd.bd n a, fun h q a e => Bdd.mono h (q a e)⟩
instance : Bdd (α × β) := ⟨fun n c => Bdd.bd n c.1 ∧ Bdd.bd n c.2, fun h q => ⟨Bdd.mono h q.1, Bdd.mono h q.2⟩⟩
instance : Bdd (Tri α β γ) := ⟨fun n c => Bdd.bd n c.a ∧ Bdd.bd n c.b ∧ Bdd.bd n c.c, fun h q => ⟨Bdd.mono h q.1, Bdd.mono h q.2.1, Bdd.mono h q.2.2⟩⟩
instance : Bdd (T4 α β γ δ) := ⟨fun n c => Bdd.bd n c.a ∧ Bdd.bd n c.b ∧ Bdd.bd n c.c ∧ Bdd.bd n c.d, fun h q => ⟨Bdd.mono h q.1, Bdd.mono h q.2.1, Bdd.mono h q.2.2.1, Bdd.mono h q.2.2.2⟩⟩
instance : Bdd (HL2 α β) := ⟨fun n c => Bdd.bd n c.a ∧ Bdd.bd n c.b, fun h q => ⟨Bdd.mono h q.1, Bdd.mono h q.2⟩⟩
instance : Bdd (HL3 α β γ) := ⟨fun n c => Bdd.bd n c.a ∧ Bdd.bd n c.b ∧ Bdd.bd n c.c, fun h q => ⟨Bdd.mono h q.1, Bdd.mono h q.2.1, Bdd.mono h q.2.2⟩⟩
instance : Bdd (List α) := ⟨fun n xs => xs.length ≤ n ∧ ∀ x ∈ xs, Bdd.bd n x, fun h q => ⟨Nat.le_trans q.1 h, fun x m => Bdd.mono h (q.2 x m)⟩⟩
instance : Bdd (Ls α) := ⟨fun n xs => Bdd.bd n xs.l, fun h q => Bdd.mono (α := List α) h q⟩
instance : Bdd (Fd α) := ⟨fun n d => Bdd.bd n d.kvs, fun h q => Bdd.mono (α := List (Sq × α)) h q⟩
instance : Bdd (Ctl s γ) := ⟨fun n c => match c with | .nx z => Bdd.bd n z | .bk z => Bdd.bd n z | .rt r => Bdd.bd n r, fun {n m a} h q => by
  cases a with
  | nx z => exact Bdd.mono (α := s) h q
  | bk z => exact Bdd.mono (α := s) h q
  | rt r => exact Bdd.mono (α := γ) h q⟩
/-- safe, with at most k draws, its value at most n -/
abbrev Sf {α : Type} [Bdd α] (w : WP α) (k n : Nat) : Prop := Draws w k (Bdd.bd n)
theorem Sf.imp {w : WP α} {k k' n n' : Nat} (h : Sf w k n) (hk : k ≤ k') (hn : n ≤ n') : Sf w k' n' := Draws.imp h hk fun _ q => Bdd.mono hn q
theorem Sf.of_is {w : WP α} {a : α} {n : Nat} (h : Is w a) (hb : Bdd.bd n a) : Sf w 0 n := Gives.draws (h.gives hb)
theorem Sf.pure {a : α} {n : Nat} (h : Bdd.bd n a) : Sf (WP.pure a) 0 n := Draws.pure h
theorem Sf.int {i : Int} : Sf (WP.pure i) 0 i.natAbs := Draws.pure ⟨by omega, by omega⟩
theorem Sf.bool {b : Bool} : Sf (WP.pure b) 0 0 := Draws.pure trivial
theorem Sf.nil : Sf (WP.pure ([] : List α)) 0 0 := Draws.pure ⟨Nat.le_refl _, fun _ h => by cases h⟩
theorem Sf.non : Sf (WP.pure (none : Option α)) 0 0 := Draws.pure fun _ h => by cases h
theorem Sf.some {w : WP α} {k n : Nat} (h : Sf w k n) : Sf (w.bind fun x => WP.pure (some x)) k n := Draws.imp (k := k + 0) (h.bind fun a ha => Draws.pure (fun b e => by cases e; exact ha)) (Nat.le_refl _) fun _ h => h
theorem Sf.bind {w : WP α} {f : α → WP β} {k k' n n' : Nat} (h : Sf w k n) (h' : ∀ a, Bdd.bd n a → Sf (f a) k' n') : Sf (w.bind f) (k + k') n' := Draws.bind h h'
theorem Sf.req {P : Prop} {a : α} {n : Nat} (h : Bdd.bd n a) (p : P) : Sf (WP.req P a) 0 n := Draws.req p h
theorem Sf.b2 {a : WP α} {b : WP β} {f : α → β → WP γ} {k k' k2 n n' n2 : Nat} (h : Sf a k n) (h' : Sf b k' n') (g : ∀ x y, Bdd.bd n x → Bdd.bd n' y → Sf (f x y) k2 n2) : Sf (WP.b2 a b f) (k + (k' + k2)) n2 := h.bind fun x hx => h'.bind fun y hy => g x y hx hy
theorem Sf.b3 {a : WP α} {b : WP β} {c : WP δ} {f : α → β → δ → WP γ} {k k' k2 k3 n n' n2 n3 : Nat} (h : Sf a k n) (h' : Sf b k' n') (h2 : Sf c k2 n2) (g : ∀ x y z, Bdd.bd n x → Bdd.bd n' y → Bdd.bd n2 z → Sf (f x y z) k3 n3) : Sf (WP.b3 a b c f) (k + (k' + (k2 + k3))) n3 := h.bind fun x hx => h'.bind fun y hy => h2.bind fun z hz => g x y z hx hy hz
theorem Sf.add {a b : WP Int} {k k' n n' : Nat} (h : Sf a k n) (h' : Sf b k' n') : Sf (WP.add a b) (k + k') (n + n') := Sf.b2 (k2 := 0) h h' fun x y hx hy => Draws.pure ⟨by have := hx.1; have := hy.1; omega, by have := hx.2; have := hy.2; omega⟩
theorem Sf.sub {a b : WP Int} {k k' n n' : Nat} (h : Sf a k n) (h' : Sf b k' n') : Sf (WP.sub a b) (k + k') (n + n') := Sf.b2 (k2 := 0) h h' fun x y hx hy => Draws.pure ⟨by have := hx.1; have := hy.2; omega, by have := hx.2; have := hy.1; omega⟩
theorem abs_mul_le {x y : Int} {n m : Nat} (hx : x.natAbs ≤ n) (hy : y.natAbs ≤ m) : (x * y).natAbs ≤ n * m := by rw [Int.natAbs_mul]; exact Nat.mul_le_mul hx hy
theorem Sf.mul {a b : WP Int} {k k' n n' : Nat} (h : Sf a k n) (h' : Sf b k' n') (hn : n < 2 ^ 64) : Sf (WP.mul a b) (k + k') (n * n') := Sf.b2 (k2 := 0) h h' fun x y hx hy => Draws.req (.inl ⟨by have := hx.1; omega, by have := hx.2; omega⟩) (by
  have := abs_mul_le (x := x) (y := y) (n := n) (m := n') (by have := hx.1; have := hx.2; omega) (by have := hy.1; have := hy.2; omega)
  exact ⟨by omega, by omega⟩)
theorem Sf.neg {a : WP Int} {k n : Nat} (h : Sf a k n) : Sf (WP.neg a) k n := h.bind (k' := 0) fun x hx => Draws.pure ⟨by have := hx.2; omega, by have := hx.1; omega⟩
theorem Sf.lt {a b : WP Int} {k k' n n' : Nat} (h : Sf a k n) (h' : Sf b k' n') : Sf (WP.lt a b) (k + k') 0 := Sf.b2 (k2 := 0) h h' fun _ _ _ _ => Sf.bool
theorem Sf.le {a b : WP Int} {k k' n n' : Nat} (h : Sf a k n) (h' : Sf b k' n') : Sf (WP.le a b) (k + k') 0 := Sf.b2 (k2 := 0) h h' fun _ _ _ _ => Sf.bool
theorem Sf.gt {a b : WP Int} {k k' n n' : Nat} (h : Sf a k n) (h' : Sf b k' n') : Sf (WP.gt a b) (k + k') 0 := Sf.b2 (k2 := 0) h h' fun _ _ _ _ => Sf.bool
theorem Sf.ge {a b : WP Int} {k k' n n' : Nat} (h : Sf a k n) (h' : Sf b k' n') : Sf (WP.ge a b) (k + k') 0 := Sf.b2 (k2 := 0) h h' fun _ _ _ _ => Sf.bool
theorem Sf.eq [DecidableEq α] {a b : WP α} {k k' n n' : Nat} (h : Sf a k n) (h' : Sf b k' n') : Sf (WP.eq a b) (k + k') 0 := Sf.b2 (k2 := 0) h h' fun _ _ _ _ => Sf.bool
theorem Sf.ne [DecidableEq α] {a b : WP α} {k k' n n' : Nat} (h : Sf a k n) (h' : Sf b k' n') : Sf (WP.ne a b) (k + k') 0 := Sf.b2 (k2 := 0) h h' fun _ _ _ _ => Sf.bool
theorem Sf.not {a : WP Bool} {k n : Nat} (h : Sf a k n) : Sf (WP.not a) k 0 := h.bind (k' := 0) fun _ _ => Sf.bool
theorem Sf.cond {b : Bool} {A B : WP α} {k k' n n' : Nat} (h : Sf A k n) (h' : Sf B k' n') : Sf (WP.cond b A B) (max k k') (max n n') := by
  cases b with
  | true => exact h.imp (Nat.le_max_left _ _) (Nat.le_max_left _ _)
  | false => exact h'.imp (Nat.le_max_right _ _) (Nat.le_max_right _ _)
theorem Sf.and {a b : WP Bool} {k k' n n' : Nat} (h : Sf a k n) (h' : Sf b k' n') : Sf (WP.and a b) (k + k') 0 := h.bind fun x _ => (Sf.cond h' Sf.bool).imp (Nat.max_le.mpr ⟨Nat.le_refl _, Nat.zero_le _⟩) (Nat.le_refl _) |> fun z => Draws.imp z (Nat.le_refl _) fun _ _ => trivial
theorem Sf.or {a b : WP Bool} {k k' n n' : Nat} (h : Sf a k n) (h' : Sf b k' n') : Sf (WP.or a b) (k + k') 0 := h.bind fun x _ => (Sf.cond Sf.bool h').imp (Nat.max_le.mpr ⟨Nat.zero_le _, Nat.le_refl _⟩) (Nat.le_refl _) |> fun z => Draws.imp z (Nat.le_refl _) fun _ _ => trivial
theorem Sf.ite {c : WP Bool} {A B : WP α} {k k' k2 n n' n2 : Nat} (h : Sf c k n) (h' : Sf A k' n') (h2 : Sf B k2 n2) : Sf (WP.ite c A B) (k + max k' k2) (max n' n2) := h.bind fun _ _ => Sf.cond h' h2
theorem Sf.chain {C C' : Int → Int → Bool} {a b c : WP Int} {k k' k2 n n' n2 : Nat} (h : Sf a k n) (h' : Sf b k' n') (h2 : Sf c k2 n2) : Sf (WP.chain C C' a b c) (k + (k' + k2)) 0 := h.bind fun x _ => h'.bind fun y _ => (Sf.cond (h2.bind (k' := 0) (n' := 0) fun _ _ => Sf.bool) Sf.bool).imp (Nat.max_le.mpr ⟨Nat.le_refl _, Nat.zero_le _⟩) (Nat.le_refl _)
theorem Sf.fst {w : WP (α × β)} {k n : Nat} (h : Sf w k n) : Sf (WP.fst w) k n := h.bind (k' := 0) fun _ q => Draws.pure q.1
theorem Sf.snd {w : WP (α × β)} {k n : Nat} (h : Sf w k n) : Sf (WP.snd w) k n := h.bind (k' := 0) fun _ q => Draws.pure q.2
theorem Sf.pair {a : WP α} {b : WP β} {k k' n n' : Nat} (h : Sf a k n) (h' : Sf b k' n') : Sf (WP.pair a b) (k + k') (max n n') := Sf.b2 (k2 := 0) h h' fun _ _ hx hy => Draws.pure ⟨Bdd.mono (Nat.le_max_left _ _) hx, Bdd.mono (Nat.le_max_right _ _) hy⟩
theorem Sf.len {w : WP (List α)} {k n : Nat} (h : Sf w k n) : Sf (WP.len w) k n := h.bind (k' := 0) fun xs q => Draws.pure ⟨by omega, by have := q.1; omega⟩
theorem Sf.lenS {w : WP Str} {k n : Nat} (h : Sf w k n) (hn : n ≤ 100000) : Sf (WP.lenS w) k n := h.bind (k' := 0) fun xs q => Draws.req (Nat.le_trans q hn) ⟨by omega, by have : xs.length ≤ n := q; omega⟩
theorem bd_sub {xs ys : List α} {n : Nat} (h : Bdd.bd n xs) (hl : ys.length ≤ xs.length) (hm : ∀ y ∈ ys, y ∈ xs) : Bdd.bd n ys := ⟨Nat.le_trans hl h.1, fun y m => h.2 y (hm y m)⟩
theorem cutL_mem {xs : List α} {a b : Option Int} {x : α} (h : x ∈ cutL xs a b) : x ∈ xs := List.mem_of_mem_drop (List.mem_of_mem_take h)
theorem Sf.cut {w : WP (List α)} {l h : WP (Option Int)} {k k' k2 n n' n2 : Nat} (hw : Sf w k n) (hl : Sf l k' n') (hh : Sf h k2 n2) : Sf (WP.cut w l h) (k + (k' + k2)) n := Sf.b3 (k3 := 0) hw hl hh fun xs _ _ hx _ _ => Draws.pure (bd_sub hx (cutL_le _ _ _) fun _ m => cutL_mem m)
theorem Sf.frz {w : WP (List α)} {k n : Nat} (h : Sf w k n) : Sf (w.bind fun xs => WP.pure (⟨xs⟩ : Ls α)) k n := h.bind (k' := 0) fun _ q => Draws.pure q
theorem Sf.ret {w : WP α} {k n : Nat} (h : Sf w k n) : Sf (w.bind fun r => WP.pure r) k n := h.bind (k' := 0) fun _ q => Draws.pure q
theorem Sf.consE {w : WP α} {ws : WP (List α)} {k k' n n' : Nat} (h : Sf w k n) (h' : Sf ws k' n') : Sf (WP.consE w ws) (k + k') (max n (n' + 1)) := Sf.b2 (k2 := 0) h h' fun x xs hx hs => Draws.pure ⟨by rw [List.length_cons]; have := hs.1; omega, fun y hy => by
  rcases List.mem_cons.mp hy with e | e
  · rw [e]; exact Bdd.mono (Nat.le_max_left _ _) hx
  · exact Bdd.mono (by omega) (hs.2 y e)⟩
theorem Sf.row {w : WP (List α)} {k n : Nat} (h : Sf w k n) (hn : n ≤ 100000) : Sf (WP.row w) k n := h.bind (k' := 0) fun xs q => Draws.req (Nat.le_trans q.1 hn) q
theorem Sf.app {w : WP α} {y : List α} {k n m : Nat} (h : Sf w k n) (hy : Bdd.bd m y) (hn : m < 100000) : Sf (w.bind fun a => WP.req (y.length < 100000) (y ++ [a])) k (max n (m + 1)) := h.bind (k' := 0) fun a ha => Draws.req (by have := hy.1; omega) ⟨by have := hy.1; rw [List.length_append, List.length_singleton]; omega, fun z hz => by
  rcases List.mem_append.mp hz with e | e
  · exact Bdd.mono (by omega) (hy.2 z e)
  · rw [List.mem_singleton.mp e]; exact Bdd.mono (by omega) ha⟩
theorem Sf.take {many : Int} (h : 0 < many) : Sf (WP.b2 (WP.pure ()) (WP.pure many) m_take) 1 many.natAbs := fun n Q hn q => ⟨by omega, h, fun x h1 h2 => q _ x (by omega) (by omega) ⟨by omega, by omega⟩⟩
theorem bd_ix [Inhabited α] {xs : List α} {i : Int} {n : Nat} (h : Bdd.bd n xs) (ho : okI xs.length i) : Bdd.bd n (ixD xs i) := by
  obtain ⟨j, hj, hl⟩ := ixN_ok ho
  have e : ixD xs i = xs[j] := by
    unfold ixD atI
    rw [hj]
    show (xs[j]?).getD default = _
    rw [List.getElem?_eq_getElem hl]; rfl
  rw [e]; exact h.2 _ (List.getElem_mem hl)
theorem Sf.ix [Inhabited α] {xs : List α} {j : WP Int} {n : Nat} {i : Int} (h : Is j i) (hx : Bdd.bd n xs) (ho : okI xs.length i) : Sf (WP.ix (WP.pure xs) j) 0 n := Sf.of_is (Is.ix Is.pure h ho) (bd_ix hx ho)
theorem sf_comp {c : α → WP Bool} {f : α → WP β} {k k' n m j : Nat} (hc : ∀ x, Bdd.bd n x → Sf (c x) k j) (hf : ∀ x, Bdd.bd n x → Sf (f x) k' m) : ∀ xs : List α, (∀ x ∈ xs, Bdd.bd n x) → Draws (WP.comp c f xs) (xs.length * (k + k')) (fun ys : List β => ys.length ≤ xs.length ∧ ∀ y ∈ ys, Bdd.bd m y)
  | [], _ => by
    rw [List.length_nil, Nat.zero_mul]
    exact Draws.pure ⟨Nat.le_refl _, fun _ h => by cases h⟩
  | x :: xs, h => by
    have ih := sf_comp hc hf xs fun y m => h y (List.mem_cons_of_mem _ m)
    refine Draws.imp (k := k + (k' + (xs.length * (k + k') + 0))) ?_ (by rw [List.length_cons, Nat.succ_mul]; omega) (fun _ h => h)
    refine Draws.bind (hc x (h x List.mem_cons_self)) fun b _ => ?_
    cases b with
    | true =>
      refine Draws.bind (hf x (h x List.mem_cons_self)) fun z hz => Draws.bind ih fun zs hzs => Draws.pure ⟨by rw [List.length_cons, List.length_cons]; have := hzs.1; omega, fun t ht => ?_⟩
      rcases List.mem_cons.mp ht with e | e
      · rw [e]; exact hz
      · exact hzs.2 t e
    | false => exact Draws.imp ih (by omega) fun ys hy => ⟨by rw [List.length_cons]; have := hy.1; omega, hy.2⟩
theorem Sf.lc {w : WP (List α)} {c : α → WP Bool} {f : α → WP β} {k k1 k2 n m j : Nat} (hw : Sf w k n) (hc : ∀ x, Bdd.bd n x → Sf (c x) k1 j) (hf : ∀ x, Bdd.bd n x → Sf (f x) k2 m) (hn : n ≤ 100000) : Sf (WP.lc w c f) (k + n * (k1 + k2)) (max n m) :=
  Draws.imp (k := k + (0 + n * (k1 + k2))) (P := Bdd.bd (max n m)) (Draws.bind hw fun xs hx => Draws.bind (P := fun ys => ys = xs) (Draws.req (Nat.le_trans hx.1 hn) rfl) fun ys e => Draws.imp (sf_comp hc hf ys (by rw [e]; exact hx.2)) (by rw [e]; exact Nat.mul_le_mul_right _ hx.1) fun zs h => (show zs.length ≤ max n m ∧ ∀ z ∈ zs, Bdd.bd (max n m) z from ⟨by have := h.1; have := hx.1; rw [← e] at this; omega, fun y hy => Bdd.mono (by omega) (h.2 y hy)⟩)) (by omega) fun ys h => h
theorem Sf.loop {body : α → s → WP (Ctl s γ)} {xs : List α} {x : s} {f : s → WP β} {r : γ → WP β} {A L n0 kb k1 k2 n1 n2 : Nat} (c : Nat) (hx : Bdd.bd n0 x) (hl : xs.length ≤ L) (ha : ∀ a ∈ xs, Bdd.bd A a)
    (hb : ∀ m a y, m ≤ n0 + L * c → Bdd.bd A a → Bdd.bd m y → Sf (body a y) kb (m + c)) (hf : ∀ y, Bdd.bd (n0 + L * c) y → Sf (f y) k1 n1) (hr : ∀ g, Bdd.bd (n0 + L * c) g → Sf (r g) k2 n2) : Sf (WP.after (WP.loop body xs x) f r) (L * kb + max k1 k2) (max n1 n2) := by
  intro n Q hn q
  have hL : ∀ i, i ≤ xs.length → i * kb ≤ L * kb := fun i hi => Nat.mul_le_mul_right _ (Nat.le_trans hi hl)
  have hC : ∀ i, i ≤ xs.length → i * c ≤ L * c := fun i hi => Nat.mul_le_mul_right _ (Nat.le_trans hi hl)
  refine WP.after_inv (fun i m y => n ≤ m ∧ m ≤ n + i * kb ∧ Bdd.bd (n0 + i * c) y) ⟨by omega, by omega, by rw [Nat.zero_mul]; exact hx⟩ (fun i m a y hai hy => ?_) (fun m y hy => ?_)
  · have hi := (List.getElem?_eq_some_iff.mp hai).1
    have h1 := hL (i + 1) (by omega)
    have h2 := hC (i + 1) (by omega)
    have e1 : (i + 1) * kb = i * kb + kb := Nat.succ_mul _ _
    have e2 : (i + 1) * c = i * c + c := Nat.succ_mul _ _
    obtain ⟨g1, g2, g3⟩ := hy
    refine hb (n0 + i * c) a y (by omega) (ha a (List.mem_of_getElem? hai)) g3 m _ (by omega) fun m' ctl l1 l2 hctl => ?_
    cases ctl with
    | nx z => exact ⟨by omega, by omega, by rw [e2, ← Nat.add_assoc]; exact hctl⟩
    | bk z => exact hf z (Bdd.mono (by omega) hctl) m' Q (by omega) fun m2 b h3 h4 hb => q m2 b (by omega) (by omega) (Bdd.mono (by omega) hb)
    | rt g => exact hr g (Bdd.mono (by omega) hctl) m' Q (by omega) fun m2 b h3 h4 hb => q m2 b (by omega) (by omega) (Bdd.mono (by omega) hb)
  · have h1 := hL _ (Nat.le_refl _)
    have h2 := hC _ (Nat.le_refl _)
    exact hf y (Bdd.mono (by omega) hy.2.2) m Q (by have := hy.2.1; omega) fun m2 b h3 h4 hb => q m2 b (by have := hy.1; omega) (by have := hy.2.1; omega) (Bdd.mono (by omega) hb)
theorem Sf.isB {w : WP β} {b : β} {f : β → WP α} {k n : Nat} (h : Is w b) (h' : Sf (f b) k n) : Sf (w.bind f) k n := fun m Q hm q => h m _ (h' m Q hm q)
theorem Sf.rt {r : WP γ} {k n : Nat} (h : Sf r k n) : Sf (r.bind fun r => WP.pure (Ctl.rt (s := s) r)) k n := h.bind (k' := 0) fun _ q => Draws.pure q
theorem Sf.nx {y : s} {n : Nat} (h : Bdd.bd n y) : Sf (WP.pure (Ctl.nx (γ := γ) y)) 0 n := Draws.pure h
theorem Sf.bk {y : s} {n : Nat} (h : Bdd.bd n y) : Sf (WP.pure (Ctl.bk (γ := γ) y)) 0 n := Draws.pure h
theorem Sf.range1 {w : WP Int} {k n : Nat} (h : Sf w k n) (hn : n ≤ 100000) : Sf (WP.range1 w) k n := h.bind (k' := 0) fun x q => Draws.req ⟨by have := q.1; omega, by have := q.2; omega⟩ ⟨by rw [rangeL0_len]; have := q.2; omega, fun y hy => by
  have := mem_rangeL hy
  have := q.2
  exact ⟨by omega, by omega⟩⟩
end
section
variable {α β γ δ : Type} [Bdd α] [Bdd β] [Bdd γ] [Bdd δ] {n : Nat}
end
end Y

/-! the law's own comparison of data -/
namespace Y
open PySem PySem.Spec PyProof.Rows L2
open Dat (dat)
def law_sameM : Nat → PyData → PyData → WP Bool
  | 0, _, _ => WP.none (b := ())
  | fu + 1, a_a, a_b => (WP.or ((WP.pure a_b).bind fun d => WP.pure (isB "tuple" d)) ((WP.pure a_b).bind fun d => WP.pure (isB "list" d))).bind fun b => WP.cond b ((WP.or (WP.and ((WP.pure a_b).bind fun d => WP.pure (isB "tuple" d)) (WP.not ((WP.pure a_a).bind fun d => WP.pure (isB "tuple" d)))) (WP.and ((WP.pure a_b).bind fun d => WP.pure (isB "list" d)) (WP.not ((WP.pure a_a).bind fun d => WP.pure (isB "list" d))))).bind fun b => WP.cond b ((WP.pure false).bind fun r3 => (WP.pure r3)) ((WP.ne (WP.lenU (WP.pure a_a)) (WP.lenU (WP.pure a_b))).bind fun b => WP.cond b ((WP.pure false).bind fun r5 => (WP.pure r5)) ((WP.range1 (WP.lenU (WP.pure a_b))).bind fun xs6 => WP.after (WP.loop (γ := Bool) (fun c6 (y6 : Unit) => (WP.not (WP.b2 (WP.ixU (WP.pure a_a) (WP.pure c6)) (WP.ixU (WP.pure a_b) (WP.pure c6)) (law_sameM fu))).bind fun b => WP.cond b ((WP.pure false).bind fun r8 => (WP.pure (.rt r8))) ((WP.pure (.nx ())))) xs6 ()) (fun (z6 : Unit) => (WP.pure true).bind fun r9 => (WP.pure r9)) (fun r => (WP.pure r))))) ((WP.or ((WP.pure a_a).bind fun d => WP.pure (isB "bool" d)) ((WP.pure a_b).bind fun d => WP.pure (isB "bool" d))).bind fun b => WP.cond b ((WP.and ((WP.pure a_a).bind fun d => WP.pure (isB "bool" d)) (WP.and ((WP.pure a_b).bind fun d => WP.pure (isB "bool" d)) (WP.eqD (WP.pure a_a) (WP.pure a_b)))).bind fun r11 => (WP.pure r11)) (((WP.pure a_b).bind fun d => WP.pure (isB "int" d)).bind fun b => WP.cond b ((WP.and ((WP.pure a_a).bind fun d => WP.pure (isB "int" d)) (WP.eqD (WP.pure a_a) (WP.pure a_b))).bind fun r13 => (WP.pure r13)) (((WP.pure a_b).bind fun d => WP.pure (isB "str" d)).bind fun b => WP.cond b ((WP.and ((WP.pure a_a).bind fun d => WP.pure (isB "str" d)) (WP.eqD (WP.pure a_a) (WP.pure a_b))).bind fun r15 => (WP.pure r15)) ((WP.and ((WP.pure a_a).bind fun d => WP.pure (isNonD d)) ((WP.pure a_b).bind fun d => WP.pure (isNonD d))).bind fun r16 => (WP.pure r16)))))
def tyB (T s : String) : Bool := (kitB s T).getD false
theorem tb_tuple_NoneType : tyB "tuple" "NoneType" = false := by decide +kernel
theorem tb_tuple_bool : tyB "tuple" "bool" = false := by decide +kernel
theorem tb_tuple_int : tyB "tuple" "int" = false := by decide +kernel
theorem tb_tuple_str : tyB "tuple" "str" = false := by decide +kernel
theorem tb_tuple_list : tyB "tuple" "list" = false := by decide +kernel
theorem tb_tuple_tuple : tyB "tuple" "tuple" = true := by decide +kernel
theorem tb_tuple_dict : tyB "tuple" "dict" = false := by decide +kernel
theorem tb_list_NoneType : tyB "list" "NoneType" = false := by decide +kernel
theorem tb_list_bool : tyB "list" "bool" = false := by decide +kernel
theorem tb_list_int : tyB "list" "int" = false := by decide +kernel
theorem tb_list_str : tyB "list" "str" = false := by decide +kernel
theorem tb_list_list : tyB "list" "list" = true := by decide +kernel
theorem tb_list_tuple : tyB "list" "tuple" = false := by decide +kernel
theorem tb_list_dict : tyB "list" "dict" = false := by decide +kernel
theorem tb_bool_NoneType : tyB "bool" "NoneType" = false := by decide +kernel
theorem tb_bool_bool : tyB "bool" "bool" = true := by decide +kernel
theorem tb_bool_int : tyB "bool" "int" = false := by decide +kernel
theorem tb_bool_str : tyB "bool" "str" = false := by decide +kernel
theorem tb_bool_list : tyB "bool" "list" = false := by decide +kernel
theorem tb_bool_tuple : tyB "bool" "tuple" = false := by decide +kernel
theorem tb_bool_dict : tyB "bool" "dict" = false := by decide +kernel
theorem tb_int_NoneType : tyB "int" "NoneType" = false := by decide +kernel
theorem tb_int_bool : tyB "int" "bool" = true := by decide +kernel
theorem tb_int_int : tyB "int" "int" = true := by decide +kernel
theorem tb_int_str : tyB "int" "str" = false := by decide +kernel
theorem tb_int_list : tyB "int" "list" = false := by decide +kernel
theorem tb_int_tuple : tyB "int" "tuple" = false := by decide +kernel
theorem tb_int_dict : tyB "int" "dict" = false := by decide +kernel
theorem tb_str_NoneType : tyB "str" "NoneType" = false := by decide +kernel
theorem tb_str_bool : tyB "str" "bool" = false := by decide +kernel
theorem tb_str_int : tyB "str" "int" = false := by decide +kernel
theorem tb_str_str : tyB "str" "str" = true := by decide +kernel
theorem tb_str_list : tyB "str" "list" = false := by decide +kernel
theorem tb_str_tuple : tyB "str" "tuple" = false := by decide +kernel
theorem tb_str_dict : tyB "str" "dict" = false := by decide +kernel
theorem isB_ty (T : String) (d : PyData) : isB T d = tyB T (tyD d) := rfl
/-- data that may be compared: not too deep, not too long -/
def okD : Nat → PyData → Prop
  | _, .none => True
  | _, .bool _ => True
  | _, .int _ => True
  | _, .str s => PyData.canLay0 (.str s) = true
  | n + 1, .list xs => xs.length ≤ 100000 ∧ ∀ x ∈ xs, okD n x
  | n + 1, .tuple xs => xs.length ≤ 100000 ∧ ∀ x ∈ xs, okD n x
  | _, _ => False
noncomputable def sameD (a b : PyData) : Bool := @decide (a = b) (Classical.propDecidable _)
theorem sameD_iff {a b : PyData} : sameD a b = true ↔ a = b := by unfold sameD; exact @decide_eq_true_iff _ (Classical.propDecidable _)
theorem sameD_no {a b : PyData} (h : a ≠ b) : sameD a b = false := by
  cases e : sameD a b with
  | true => exact absurd (sameD_iff.mp e) h
  | false => rfl
theorem sameD_eq {a b : PyData} {c : Bool} (h : a = b ↔ c = true) : sameD a b = c := by
  rw [Bool.eq_iff_iff, sameD_iff, h]
theorem list_ix {xs ys : List PyData} : xs = ys ↔ xs.length = ys.length ∧ ∀ k ∈ rangeL 0 ((ys.length : Nat) : Int), ixD xs k = ixD ys k := by
  constructor
  · rintro rfl; exact ⟨rfl, fun _ _ => rfl⟩
  · rintro ⟨hl, h⟩
    refine List.ext_getElem hl fun i h1 h2 => ?_
    have := h (i : Int) (List.mem_map.mpr ⟨i, List.mem_range.mpr (by omega), by omega⟩)
    rwa [ixD_nat h1, ixD_nat h2] at this
theorem seq_same {n : Nat} {xs ys : List PyData} {a b : PyData} (ha : seqD a = xs) (hb : seqD b = ys) (sa : isSeqD a = true) (sb : isSeqD b = true) (hx : xs.length ≤ 100000) (hy : ys.length ≤ 100000)
    (ih : ∀ k ∈ rangeL 0 ((ys.length : Nat) : Int), xs.length = ys.length → Is (law_sameM n (ixD xs k) (ixD ys k)) (sameD (ixD xs k) (ixD ys k))) {c : Bool} (hc : c = true ↔ xs = ys) :
    Is ((WP.ne (WP.lenU (WP.pure a)) (WP.lenU (WP.pure b))).bind fun t => WP.cond t ((WP.pure false).bind fun r5 => (WP.pure r5)) ((WP.range1 (WP.lenU (WP.pure b))).bind fun xs6 => WP.after (WP.loop (γ := Bool) (fun c6 (y6 : Unit) => (WP.not (WP.b2 (WP.ixU (WP.pure a) (WP.pure c6)) (WP.ixU (WP.pure b) (WP.pure c6)) (law_sameM n))).bind fun b => WP.cond b ((WP.pure false).bind fun r8 => (WP.pure (.rt r8))) ((WP.pure (.nx ())))) xs6 ()) (fun (z6 : Unit) => (WP.pure true).bind fun r9 => (WP.pure r9)) (fun r => (WP.pure r)))) c := by
  have la : Is (WP.lenU (WP.pure a)) ((xs.length : Nat) : Int) := by rw [← ha]; exact Is.pure.bind (Is.req sa)
  have lb : Is (WP.lenU (WP.pure b)) ((ys.length : Nat) : Int) := by rw [← hb]; exact Is.pure.bind (Is.req sb)
  refine Is.bind (Is.ne la lb) ?_
  by_cases hl : xs.length = ys.length
  · rw [decide_eq_true (show ((xs.length : Nat) : Int) = ((ys.length : Nat) : Int) by omega)]
    refine Is.bind (Is.range1 lb hy) ?_
    refine Is.afterAll (no := false) (Is.loopAll (no := false) (p := fun k => sameD (ixD xs k) (ixD ys k)) fun k hk => ?_) (fun h => ?_) (fun h => ?_)
    · have hr := mem_rangeL hk
      refine Is.guard (Is.not (Is.b2 (z := sameD (ixD xs k) (ixD ys k)) (x := ixD xs k) (y := ixD ys k) ?_ ?_ (ih k hk hl))) fun _ => Is.pure
      · rw [← ha]; exact Is.b2 Is.pure Is.pure (Is.req ⟨sa, by rw [ha]; exact ⟨by omega, by omega⟩⟩)
      · rw [← hb]; exact Is.b2 Is.pure Is.pure (Is.req ⟨sb, by rw [hb]; exact ⟨by omega, by omega⟩⟩)
    · have : xs = ys := list_ix.mpr ⟨hl, fun k hk => sameD_iff.mp (List.all_eq_true.mp h k hk)⟩
      rw [hc.mpr this]; exact Is.pure.bind Is.pure
    · have : c = false := by
        rw [← Bool.not_eq_true, hc]
        intro e
        have := List.all_eq_true.mpr fun k hk => sameD_iff.mpr ((list_ix.mp e).2 k hk)
        rw [this] at h; cases h
      rw [this]; exact Is.pure
  · rw [decide_eq_false (show ¬ ((xs.length : Nat) : Int) = ((ys.length : Nat) : Int) by omega)]
    have : c = false := by
      rw [← Bool.not_eq_true, hc]
      rintro rfl; exact hl rfl
    rw [this]; exact Is.pure.bind Is.pure
theorem ixD_okD {n : Nat} {xs : List PyData} (h : ∀ x ∈ xs, okD n x) {k : Int} (h0 : 0 ≤ k) (h1 : k < xs.length) : okD n (ixD xs k) := h _ (ixD_mem h0 h1)

theorem eqv_int (i j : Int) : PyData.eqv (.int i) (.int j) = sameD (.int i) (.int j) := by
  rw [sameD_eq]
  simp [PyData.eqv]
theorem eqv_bool (i j : Bool) : PyData.eqv (.bool i) (.bool j) = sameD (.bool i) (.bool j) := by
  rw [sameD_eq]
  cases i <;> cases j <;> simp [PyData.eqv]
theorem eqv_str (i j : Str) : PyData.eqv (.str i) (.str j) = sameD (.str i) (.str j) := by
  rw [sameD_eq]
  have := EqD.eqv i j
  simp only [dat] at this
  rw [this]
  simp
theorem shpI (i : Int) : SeqAt.shaped (.int i) = true := shaped_of (α := Int) (a := i) trivial
theorem shpB (i : Bool) : SeqAt.shaped (.bool i) = true := shaped_of (α := Bool) (a := i) trivial
theorem shpS {i : Str} (h : PyData.canLay0 (.str i) = true) : SeqAt.shaped (.str i) = true := shaped_of (α := Str) (a := i) h
theorem law_same_s (n : Nat) (a b : PyData) (hb : isSeqD b = false) (db : ∀ k, b ≠ .dict k) (oa : ∀ s, a = .str s → PyData.canLay0 (.str s) = true) (ob : ∀ s, b = .str s → PyData.canLay0 (.str s) = true) : Is (law_sameM (n + 1) a b) (sameD a b) := by
  intro m Q q
  rw [law_sameM]
  cases b with
  | list ys => cases hb
  | tuple ys => cases hb
  | dict k => exact absurd rfl (db k)
  | int j =>
    cases a with
    | int i => simp only [WP.run_bind, WP.run_pure, isB_ty, tyD, isNonD, Bool.not_true, Bool.not_false, WP.cond_true, WP.cond_false, tb_tuple_NoneType, tb_tuple_bool, tb_tuple_int, tb_tuple_str, tb_tuple_list, tb_tuple_tuple, tb_tuple_dict, tb_list_NoneType, tb_list_bool, tb_list_int, tb_list_str, tb_list_list, tb_list_tuple, tb_list_dict, tb_bool_NoneType, tb_bool_bool, tb_bool_int, tb_bool_str, tb_bool_list, tb_bool_tuple, tb_bool_dict, tb_int_NoneType, tb_int_bool, tb_int_int, tb_int_str, tb_int_list, tb_int_tuple, tb_int_dict, tb_str_NoneType, tb_str_bool, tb_str_int, tb_str_str, tb_str_list, tb_str_tuple, tb_str_dict]; exact ⟨⟨shpI i, shpI j⟩, by rw [show PyData.eqv (Dat.dat (PyData.int i)) (Dat.dat (PyData.int j)) = _ from eqv_int i j]; exact q⟩
    | none => simp only [WP.run_bind, WP.run_pure, isB_ty, tyD, isNonD, Bool.not_true, Bool.not_false, WP.cond_true, WP.cond_false, tb_tuple_NoneType, tb_tuple_bool, tb_tuple_int, tb_tuple_str, tb_tuple_list, tb_tuple_tuple, tb_tuple_dict, tb_list_NoneType, tb_list_bool, tb_list_int, tb_list_str, tb_list_list, tb_list_tuple, tb_list_dict, tb_bool_NoneType, tb_bool_bool, tb_bool_int, tb_bool_str, tb_bool_list, tb_bool_tuple, tb_bool_dict, tb_int_NoneType, tb_int_bool, tb_int_int, tb_int_str, tb_int_list, tb_int_tuple, tb_int_dict, tb_str_NoneType, tb_str_bool, tb_str_int, tb_str_str, tb_str_list, tb_str_tuple, tb_str_dict]; rw [sameD_no (by intro h; cases h)] at q; exact q
    | bool i => simp only [WP.run_bind, WP.run_pure, isB_ty, tyD, isNonD, Bool.not_true, Bool.not_false, WP.cond_true, WP.cond_false, tb_tuple_NoneType, tb_tuple_bool, tb_tuple_int, tb_tuple_str, tb_tuple_list, tb_tuple_tuple, tb_tuple_dict, tb_list_NoneType, tb_list_bool, tb_list_int, tb_list_str, tb_list_list, tb_list_tuple, tb_list_dict, tb_bool_NoneType, tb_bool_bool, tb_bool_int, tb_bool_str, tb_bool_list, tb_bool_tuple, tb_bool_dict, tb_int_NoneType, tb_int_bool, tb_int_int, tb_int_str, tb_int_list, tb_int_tuple, tb_int_dict, tb_str_NoneType, tb_str_bool, tb_str_int, tb_str_str, tb_str_list, tb_str_tuple, tb_str_dict]; rw [sameD_no (by intro h; cases h)] at q; exact q
    | str i => simp only [WP.run_bind, WP.run_pure, isB_ty, tyD, isNonD, Bool.not_true, Bool.not_false, WP.cond_true, WP.cond_false, tb_tuple_NoneType, tb_tuple_bool, tb_tuple_int, tb_tuple_str, tb_tuple_list, tb_tuple_tuple, tb_tuple_dict, tb_list_NoneType, tb_list_bool, tb_list_int, tb_list_str, tb_list_list, tb_list_tuple, tb_list_dict, tb_bool_NoneType, tb_bool_bool, tb_bool_int, tb_bool_str, tb_bool_list, tb_bool_tuple, tb_bool_dict, tb_int_NoneType, tb_int_bool, tb_int_int, tb_int_str, tb_int_list, tb_int_tuple, tb_int_dict, tb_str_NoneType, tb_str_bool, tb_str_int, tb_str_str, tb_str_list, tb_str_tuple, tb_str_dict]; rw [sameD_no (by intro h; cases h)] at q; exact q
    | list i => simp only [WP.run_bind, WP.run_pure, isB_ty, tyD, isNonD, Bool.not_true, Bool.not_false, WP.cond_true, WP.cond_false, tb_tuple_NoneType, tb_tuple_bool, tb_tuple_int, tb_tuple_str, tb_tuple_list, tb_tuple_tuple, tb_tuple_dict, tb_list_NoneType, tb_list_bool, tb_list_int, tb_list_str, tb_list_list, tb_list_tuple, tb_list_dict, tb_bool_NoneType, tb_bool_bool, tb_bool_int, tb_bool_str, tb_bool_list, tb_bool_tuple, tb_bool_dict, tb_int_NoneType, tb_int_bool, tb_int_int, tb_int_str, tb_int_list, tb_int_tuple, tb_int_dict, tb_str_NoneType, tb_str_bool, tb_str_int, tb_str_str, tb_str_list, tb_str_tuple, tb_str_dict]; rw [sameD_no (by intro h; cases h)] at q; exact q
    | tuple i => simp only [WP.run_bind, WP.run_pure, isB_ty, tyD, isNonD, Bool.not_true, Bool.not_false, WP.cond_true, WP.cond_false, tb_tuple_NoneType, tb_tuple_bool, tb_tuple_int, tb_tuple_str, tb_tuple_list, tb_tuple_tuple, tb_tuple_dict, tb_list_NoneType, tb_list_bool, tb_list_int, tb_list_str, tb_list_list, tb_list_tuple, tb_list_dict, tb_bool_NoneType, tb_bool_bool, tb_bool_int, tb_bool_str, tb_bool_list, tb_bool_tuple, tb_bool_dict, tb_int_NoneType, tb_int_bool, tb_int_int, tb_int_str, tb_int_list, tb_int_tuple, tb_int_dict, tb_str_NoneType, tb_str_bool, tb_str_int, tb_str_str, tb_str_list, tb_str_tuple, tb_str_dict]; rw [sameD_no (by intro h; cases h)] at q; exact q
    | dict i => simp only [WP.run_bind, WP.run_pure, isB_ty, tyD, isNonD, Bool.not_true, Bool.not_false, WP.cond_true, WP.cond_false, tb_tuple_NoneType, tb_tuple_bool, tb_tuple_int, tb_tuple_str, tb_tuple_list, tb_tuple_tuple, tb_tuple_dict, tb_list_NoneType, tb_list_bool, tb_list_int, tb_list_str, tb_list_list, tb_list_tuple, tb_list_dict, tb_bool_NoneType, tb_bool_bool, tb_bool_int, tb_bool_str, tb_bool_list, tb_bool_tuple, tb_bool_dict, tb_int_NoneType, tb_int_bool, tb_int_int, tb_int_str, tb_int_list, tb_int_tuple, tb_int_dict, tb_str_NoneType, tb_str_bool, tb_str_int, tb_str_str, tb_str_list, tb_str_tuple, tb_str_dict]; rw [sameD_no (by intro h; cases h)] at q; exact q
  | none =>
    cases a with
    | none => simp only [WP.run_bind, WP.run_pure, isB_ty, tyD, isNonD, Bool.not_true, Bool.not_false, WP.cond_true, WP.cond_false, tb_tuple_NoneType, tb_tuple_bool, tb_tuple_int, tb_tuple_str, tb_tuple_list, tb_tuple_tuple, tb_tuple_dict, tb_list_NoneType, tb_list_bool, tb_list_int, tb_list_str, tb_list_list, tb_list_tuple, tb_list_dict, tb_bool_NoneType, tb_bool_bool, tb_bool_int, tb_bool_str, tb_bool_list, tb_bool_tuple, tb_bool_dict, tb_int_NoneType, tb_int_bool, tb_int_int, tb_int_str, tb_int_list, tb_int_tuple, tb_int_dict, tb_str_NoneType, tb_str_bool, tb_str_int, tb_str_str, tb_str_list, tb_str_tuple, tb_str_dict]; rw [sameD_iff.mpr rfl] at q; exact q
    | int i => simp only [WP.run_bind, WP.run_pure, isB_ty, tyD, isNonD, Bool.not_true, Bool.not_false, WP.cond_true, WP.cond_false, tb_tuple_NoneType, tb_tuple_bool, tb_tuple_int, tb_tuple_str, tb_tuple_list, tb_tuple_tuple, tb_tuple_dict, tb_list_NoneType, tb_list_bool, tb_list_int, tb_list_str, tb_list_list, tb_list_tuple, tb_list_dict, tb_bool_NoneType, tb_bool_bool, tb_bool_int, tb_bool_str, tb_bool_list, tb_bool_tuple, tb_bool_dict, tb_int_NoneType, tb_int_bool, tb_int_int, tb_int_str, tb_int_list, tb_int_tuple, tb_int_dict, tb_str_NoneType, tb_str_bool, tb_str_int, tb_str_str, tb_str_list, tb_str_tuple, tb_str_dict]; rw [sameD_no (by intro h; cases h)] at q; exact q
    | bool i => simp only [WP.run_bind, WP.run_pure, isB_ty, tyD, isNonD, Bool.not_true, Bool.not_false, WP.cond_true, WP.cond_false, tb_tuple_NoneType, tb_tuple_bool, tb_tuple_int, tb_tuple_str, tb_tuple_list, tb_tuple_tuple, tb_tuple_dict, tb_list_NoneType, tb_list_bool, tb_list_int, tb_list_str, tb_list_list, tb_list_tuple, tb_list_dict, tb_bool_NoneType, tb_bool_bool, tb_bool_int, tb_bool_str, tb_bool_list, tb_bool_tuple, tb_bool_dict, tb_int_NoneType, tb_int_bool, tb_int_int, tb_int_str, tb_int_list, tb_int_tuple, tb_int_dict, tb_str_NoneType, tb_str_bool, tb_str_int, tb_str_str, tb_str_list, tb_str_tuple, tb_str_dict]; rw [sameD_no (by intro h; cases h)] at q; exact q
    | str i => simp only [WP.run_bind, WP.run_pure, isB_ty, tyD, isNonD, Bool.not_true, Bool.not_false, WP.cond_true, WP.cond_false, tb_tuple_NoneType, tb_tuple_bool, tb_tuple_int, tb_tuple_str, tb_tuple_list, tb_tuple_tuple, tb_tuple_dict, tb_list_NoneType, tb_list_bool, tb_list_int, tb_list_str, tb_list_list, tb_list_tuple, tb_list_dict, tb_bool_NoneType, tb_bool_bool, tb_bool_int, tb_bool_str, tb_bool_list, tb_bool_tuple, tb_bool_dict, tb_int_NoneType, tb_int_bool, tb_int_int, tb_int_str, tb_int_list, tb_int_tuple, tb_int_dict, tb_str_NoneType, tb_str_bool, tb_str_int, tb_str_str, tb_str_list, tb_str_tuple, tb_str_dict]; rw [sameD_no (by intro h; cases h)] at q; exact q
    | list i => simp only [WP.run_bind, WP.run_pure, isB_ty, tyD, isNonD, Bool.not_true, Bool.not_false, WP.cond_true, WP.cond_false, tb_tuple_NoneType, tb_tuple_bool, tb_tuple_int, tb_tuple_str, tb_tuple_list, tb_tuple_tuple, tb_tuple_dict, tb_list_NoneType, tb_list_bool, tb_list_int, tb_list_str, tb_list_list, tb_list_tuple, tb_list_dict, tb_bool_NoneType, tb_bool_bool, tb_bool_int, tb_bool_str, tb_bool_list, tb_bool_tuple, tb_bool_dict, tb_int_NoneType, tb_int_bool, tb_int_int, tb_int_str, tb_int_list, tb_int_tuple, tb_int_dict, tb_str_NoneType, tb_str_bool, tb_str_int, tb_str_str, tb_str_list, tb_str_tuple, tb_str_dict]; rw [sameD_no (by intro h; cases h)] at q; exact q
    | tuple i => simp only [WP.run_bind, WP.run_pure, isB_ty, tyD, isNonD, Bool.not_true, Bool.not_false, WP.cond_true, WP.cond_false, tb_tuple_NoneType, tb_tuple_bool, tb_tuple_int, tb_tuple_str, tb_tuple_list, tb_tuple_tuple, tb_tuple_dict, tb_list_NoneType, tb_list_bool, tb_list_int, tb_list_str, tb_list_list, tb_list_tuple, tb_list_dict, tb_bool_NoneType, tb_bool_bool, tb_bool_int, tb_bool_str, tb_bool_list, tb_bool_tuple, tb_bool_dict, tb_int_NoneType, tb_int_bool, tb_int_int, tb_int_str, tb_int_list, tb_int_tuple, tb_int_dict, tb_str_NoneType, tb_str_bool, tb_str_int, tb_str_str, tb_str_list, tb_str_tuple, tb_str_dict]; rw [sameD_no (by intro h; cases h)] at q; exact q
    | dict i => simp only [WP.run_bind, WP.run_pure, isB_ty, tyD, isNonD, Bool.not_true, Bool.not_false, WP.cond_true, WP.cond_false, tb_tuple_NoneType, tb_tuple_bool, tb_tuple_int, tb_tuple_str, tb_tuple_list, tb_tuple_tuple, tb_tuple_dict, tb_list_NoneType, tb_list_bool, tb_list_int, tb_list_str, tb_list_list, tb_list_tuple, tb_list_dict, tb_bool_NoneType, tb_bool_bool, tb_bool_int, tb_bool_str, tb_bool_list, tb_bool_tuple, tb_bool_dict, tb_int_NoneType, tb_int_bool, tb_int_int, tb_int_str, tb_int_list, tb_int_tuple, tb_int_dict, tb_str_NoneType, tb_str_bool, tb_str_int, tb_str_str, tb_str_list, tb_str_tuple, tb_str_dict]; rw [sameD_no (by intro h; cases h)] at q; exact q
  | bool j =>
    cases a with
    | bool i => simp only [WP.run_bind, WP.run_pure, isB_ty, tyD, isNonD, Bool.not_true, Bool.not_false, WP.cond_true, WP.cond_false, tb_tuple_NoneType, tb_tuple_bool, tb_tuple_int, tb_tuple_str, tb_tuple_list, tb_tuple_tuple, tb_tuple_dict, tb_list_NoneType, tb_list_bool, tb_list_int, tb_list_str, tb_list_list, tb_list_tuple, tb_list_dict, tb_bool_NoneType, tb_bool_bool, tb_bool_int, tb_bool_str, tb_bool_list, tb_bool_tuple, tb_bool_dict, tb_int_NoneType, tb_int_bool, tb_int_int, tb_int_str, tb_int_list, tb_int_tuple, tb_int_dict, tb_str_NoneType, tb_str_bool, tb_str_int, tb_str_str, tb_str_list, tb_str_tuple, tb_str_dict]; exact ⟨⟨shpB i, shpB j⟩, by rw [show PyData.eqv (Dat.dat (PyData.bool i)) (Dat.dat (PyData.bool j)) = _ from eqv_bool i j]; exact q⟩
    | none => simp only [WP.run_bind, WP.run_pure, isB_ty, tyD, isNonD, Bool.not_true, Bool.not_false, WP.cond_true, WP.cond_false, tb_tuple_NoneType, tb_tuple_bool, tb_tuple_int, tb_tuple_str, tb_tuple_list, tb_tuple_tuple, tb_tuple_dict, tb_list_NoneType, tb_list_bool, tb_list_int, tb_list_str, tb_list_list, tb_list_tuple, tb_list_dict, tb_bool_NoneType, tb_bool_bool, tb_bool_int, tb_bool_str, tb_bool_list, tb_bool_tuple, tb_bool_dict, tb_int_NoneType, tb_int_bool, tb_int_int, tb_int_str, tb_int_list, tb_int_tuple, tb_int_dict, tb_str_NoneType, tb_str_bool, tb_str_int, tb_str_str, tb_str_list, tb_str_tuple, tb_str_dict]; rw [sameD_no (by intro h; cases h)] at q; exact q
    | int i => simp only [WP.run_bind, WP.run_pure, isB_ty, tyD, isNonD, Bool.not_true, Bool.not_false, WP.cond_true, WP.cond_false, tb_tuple_NoneType, tb_tuple_bool, tb_tuple_int, tb_tuple_str, tb_tuple_list, tb_tuple_tuple, tb_tuple_dict, tb_list_NoneType, tb_list_bool, tb_list_int, tb_list_str, tb_list_list, tb_list_tuple, tb_list_dict, tb_bool_NoneType, tb_bool_bool, tb_bool_int, tb_bool_str, tb_bool_list, tb_bool_tuple, tb_bool_dict, tb_int_NoneType, tb_int_bool, tb_int_int, tb_int_str, tb_int_list, tb_int_tuple, tb_int_dict, tb_str_NoneType, tb_str_bool, tb_str_int, tb_str_str, tb_str_list, tb_str_tuple, tb_str_dict]; rw [sameD_no (by intro h; cases h)] at q; exact q
    | str i => simp only [WP.run_bind, WP.run_pure, isB_ty, tyD, isNonD, Bool.not_true, Bool.not_false, WP.cond_true, WP.cond_false, tb_tuple_NoneType, tb_tuple_bool, tb_tuple_int, tb_tuple_str, tb_tuple_list, tb_tuple_tuple, tb_tuple_dict, tb_list_NoneType, tb_list_bool, tb_list_int, tb_list_str, tb_list_list, tb_list_tuple, tb_list_dict, tb_bool_NoneType, tb_bool_bool, tb_bool_int, tb_bool_str, tb_bool_list, tb_bool_tuple, tb_bool_dict, tb_int_NoneType, tb_int_bool, tb_int_int, tb_int_str, tb_int_list, tb_int_tuple, tb_int_dict, tb_str_NoneType, tb_str_bool, tb_str_int, tb_str_str, tb_str_list, tb_str_tuple, tb_str_dict]; rw [sameD_no (by intro h; cases h)] at q; exact q
    | list i => simp only [WP.run_bind, WP.run_pure, isB_ty, tyD, isNonD, Bool.not_true, Bool.not_false, WP.cond_true, WP.cond_false, tb_tuple_NoneType, tb_tuple_bool, tb_tuple_int, tb_tuple_str, tb_tuple_list, tb_tuple_tuple, tb_tuple_dict, tb_list_NoneType, tb_list_bool, tb_list_int, tb_list_str, tb_list_list, tb_list_tuple, tb_list_dict, tb_bool_NoneType, tb_bool_bool, tb_bool_int, tb_bool_str, tb_bool_list, tb_bool_tuple, tb_bool_dict, tb_int_NoneType, tb_int_bool, tb_int_int, tb_int_str, tb_int_list, tb_int_tuple, tb_int_dict, tb_str_NoneType, tb_str_bool, tb_str_int, tb_str_str, tb_str_list, tb_str_tuple, tb_str_dict]; rw [sameD_no (by intro h; cases h)] at q; exact q
    | tuple i => simp only [WP.run_bind, WP.run_pure, isB_ty, tyD, isNonD, Bool.not_true, Bool.not_false, WP.cond_true, WP.cond_false, tb_tuple_NoneType, tb_tuple_bool, tb_tuple_int, tb_tuple_str, tb_tuple_list, tb_tuple_tuple, tb_tuple_dict, tb_list_NoneType, tb_list_bool, tb_list_int, tb_list_str, tb_list_list, tb_list_tuple, tb_list_dict, tb_bool_NoneType, tb_bool_bool, tb_bool_int, tb_bool_str, tb_bool_list, tb_bool_tuple, tb_bool_dict, tb_int_NoneType, tb_int_bool, tb_int_int, tb_int_str, tb_int_list, tb_int_tuple, tb_int_dict, tb_str_NoneType, tb_str_bool, tb_str_int, tb_str_str, tb_str_list, tb_str_tuple, tb_str_dict]; rw [sameD_no (by intro h; cases h)] at q; exact q
    | dict i => simp only [WP.run_bind, WP.run_pure, isB_ty, tyD, isNonD, Bool.not_true, Bool.not_false, WP.cond_true, WP.cond_false, tb_tuple_NoneType, tb_tuple_bool, tb_tuple_int, tb_tuple_str, tb_tuple_list, tb_tuple_tuple, tb_tuple_dict, tb_list_NoneType, tb_list_bool, tb_list_int, tb_list_str, tb_list_list, tb_list_tuple, tb_list_dict, tb_bool_NoneType, tb_bool_bool, tb_bool_int, tb_bool_str, tb_bool_list, tb_bool_tuple, tb_bool_dict, tb_int_NoneType, tb_int_bool, tb_int_int, tb_int_str, tb_int_list, tb_int_tuple, tb_int_dict, tb_str_NoneType, tb_str_bool, tb_str_int, tb_str_str, tb_str_list, tb_str_tuple, tb_str_dict]; rw [sameD_no (by intro h; cases h)] at q; exact q
  | str j =>
    cases a with
    | str i => simp only [WP.run_bind, WP.run_pure, isB_ty, tyD, isNonD, Bool.not_true, Bool.not_false, WP.cond_true, WP.cond_false, tb_tuple_NoneType, tb_tuple_bool, tb_tuple_int, tb_tuple_str, tb_tuple_list, tb_tuple_tuple, tb_tuple_dict, tb_list_NoneType, tb_list_bool, tb_list_int, tb_list_str, tb_list_list, tb_list_tuple, tb_list_dict, tb_bool_NoneType, tb_bool_bool, tb_bool_int, tb_bool_str, tb_bool_list, tb_bool_tuple, tb_bool_dict, tb_int_NoneType, tb_int_bool, tb_int_int, tb_int_str, tb_int_list, tb_int_tuple, tb_int_dict, tb_str_NoneType, tb_str_bool, tb_str_int, tb_str_str, tb_str_list, tb_str_tuple, tb_str_dict]; exact ⟨⟨shpS (oa i rfl), shpS (ob j rfl)⟩, by rw [show PyData.eqv (Dat.dat (PyData.str i)) (Dat.dat (PyData.str j)) = _ from eqv_str i j]; exact q⟩
    | none => simp only [WP.run_bind, WP.run_pure, isB_ty, tyD, isNonD, Bool.not_true, Bool.not_false, WP.cond_true, WP.cond_false, tb_tuple_NoneType, tb_tuple_bool, tb_tuple_int, tb_tuple_str, tb_tuple_list, tb_tuple_tuple, tb_tuple_dict, tb_list_NoneType, tb_list_bool, tb_list_int, tb_list_str, tb_list_list, tb_list_tuple, tb_list_dict, tb_bool_NoneType, tb_bool_bool, tb_bool_int, tb_bool_str, tb_bool_list, tb_bool_tuple, tb_bool_dict, tb_int_NoneType, tb_int_bool, tb_int_int, tb_int_str, tb_int_list, tb_int_tuple, tb_int_dict, tb_str_NoneType, tb_str_bool, tb_str_int, tb_str_str, tb_str_list, tb_str_tuple, tb_str_dict]; rw [sameD_no (by intro h; cases h)] at q; exact q
    | int i => simp only [WP.run_bind, WP.run_pure, isB_ty, tyD, isNonD, Bool.not_true, Bool.not_false, WP.cond_true, WP.cond_false, tb_tuple_NoneType, tb_tuple_bool, tb_tuple_int, tb_tuple_str, tb_tuple_list, tb_tuple_tuple, tb_tuple_dict, tb_list_NoneType, tb_list_bool, tb_list_int, tb_list_str, tb_list_list, tb_list_tuple, tb_list_dict, tb_bool_NoneType, tb_bool_bool, tb_bool_int, tb_bool_str, tb_bool_list, tb_bool_tuple, tb_bool_dict, tb_int_NoneType, tb_int_bool, tb_int_int, tb_int_str, tb_int_list, tb_int_tuple, tb_int_dict, tb_str_NoneType, tb_str_bool, tb_str_int, tb_str_str, tb_str_list, tb_str_tuple, tb_str_dict]; rw [sameD_no (by intro h; cases h)] at q; exact q
    | bool i => simp only [WP.run_bind, WP.run_pure, isB_ty, tyD, isNonD, Bool.not_true, Bool.not_false, WP.cond_true, WP.cond_false, tb_tuple_NoneType, tb_tuple_bool, tb_tuple_int, tb_tuple_str, tb_tuple_list, tb_tuple_tuple, tb_tuple_dict, tb_list_NoneType, tb_list_bool, tb_list_int, tb_list_str, tb_list_list, tb_list_tuple, tb_list_dict, tb_bool_NoneType, tb_bool_bool, tb_bool_int, tb_bool_str, tb_bool_list, tb_bool_tuple, tb_bool_dict, tb_int_NoneType, tb_int_bool, tb_int_int, tb_int_str, tb_int_list, tb_int_tuple, tb_int_dict, tb_str_NoneType, tb_str_bool, tb_str_int, tb_str_str, tb_str_list, tb_str_tuple, tb_str_dict]; rw [sameD_no (by intro h; cases h)] at q; exact q
    | list i => simp only [WP.run_bind, WP.run_pure, isB_ty, tyD, isNonD, Bool.not_true, Bool.not_false, WP.cond_true, WP.cond_false, tb_tuple_NoneType, tb_tuple_bool, tb_tuple_int, tb_tuple_str, tb_tuple_list, tb_tuple_tuple, tb_tuple_dict, tb_list_NoneType, tb_list_bool, tb_list_int, tb_list_str, tb_list_list, tb_list_tuple, tb_list_dict, tb_bool_NoneType, tb_bool_bool, tb_bool_int, tb_bool_str, tb_bool_list, tb_bool_tuple, tb_bool_dict, tb_int_NoneType, tb_int_bool, tb_int_int, tb_int_str, tb_int_list, tb_int_tuple, tb_int_dict, tb_str_NoneType, tb_str_bool, tb_str_int, tb_str_str, tb_str_list, tb_str_tuple, tb_str_dict]; rw [sameD_no (by intro h; cases h)] at q; exact q
    | tuple i => simp only [WP.run_bind, WP.run_pure, isB_ty, tyD, isNonD, Bool.not_true, Bool.not_false, WP.cond_true, WP.cond_false, tb_tuple_NoneType, tb_tuple_bool, tb_tuple_int, tb_tuple_str, tb_tuple_list, tb_tuple_tuple, tb_tuple_dict, tb_list_NoneType, tb_list_bool, tb_list_int, tb_list_str, tb_list_list, tb_list_tuple, tb_list_dict, tb_bool_NoneType, tb_bool_bool, tb_bool_int, tb_bool_str, tb_bool_list, tb_bool_tuple, tb_bool_dict, tb_int_NoneType, tb_int_bool, tb_int_int, tb_int_str, tb_int_list, tb_int_tuple, tb_int_dict, tb_str_NoneType, tb_str_bool, tb_str_int, tb_str_str, tb_str_list, tb_str_tuple, tb_str_dict]; rw [sameD_no (by intro h; cases h)] at q; exact q
    | dict i => simp only [WP.run_bind, WP.run_pure, isB_ty, tyD, isNonD, Bool.not_true, Bool.not_false, WP.cond_true, WP.cond_false, tb_tuple_NoneType, tb_tuple_bool, tb_tuple_int, tb_tuple_str, tb_tuple_list, tb_tuple_tuple, tb_tuple_dict, tb_list_NoneType, tb_list_bool, tb_list_int, tb_list_str, tb_list_list, tb_list_tuple, tb_list_dict, tb_bool_NoneType, tb_bool_bool, tb_bool_int, tb_bool_str, tb_bool_list, tb_bool_tuple, tb_bool_dict, tb_int_NoneType, tb_int_bool, tb_int_int, tb_int_str, tb_int_list, tb_int_tuple, tb_int_dict, tb_str_NoneType, tb_str_bool, tb_str_int, tb_str_str, tb_str_list, tb_str_tuple, tb_str_dict]; rw [sameD_no (by intro h; cases h)] at q; exact q
theorem okD_mono : ∀ {n : Nat} {d : PyData}, okD n d → okD (n + 1) d := by
  intro n
  induction n with
  | zero =>
    intro d h
    cases d with
    | list xs => exact h.elim
    | tuple xs => exact h.elim
    | dict xs => exact h.elim
    | none => exact h
    | bool b => exact h
    | int b => exact h
    | str b => exact h
  | succ n ih =>
    intro d h
    cases d with
    | list xs => exact ⟨h.1, fun x m => ih (h.2 x m)⟩
    | tuple xs => exact ⟨h.1, fun x m => ih (h.2 x m)⟩
    | dict xs => exact h.elim
    | none => exact h
    | bool b => exact h
    | int b => exact h
    | str b => exact h
theorem okD_le {n m : Nat} {d : PyData} (h : okD n d) (hn : n ≤ m) : okD m d := by
  induction hn with
  | refl => exact h
  | step _ ih => exact okD_mono ih
theorem okD_str {n : Nat} {s : Str} (h : okD n (.str s)) : PyData.canLay0 (.str s) = true := by
  cases n <;> exact h
theorem okD_dict {n : Nat} {k : List (PyData × PyData)} (h : okD n (.dict k)) : False := by
  cases n <;> exact h
theorem law_same_is : ∀ (n : Nat) (a b : PyData), okD n a → okD n b → Is (law_sameM (n + 1) a b) (sameD a b) := by
  intro n
  induction n with
  | zero =>
    intro a b ha hb
    refine law_same_s 0 a b ?_ (fun k e => ?_) (fun s e => ?_) (fun s e => ?_)
    · cases b <;> first | rfl | exact hb.elim
    · subst e; exact okD_dict hb
    · subst e; exact okD_str ha
    · subst e; exact okD_str hb
  | succ n ih =>
    intro a b ha hb
    have sc : isSeqD b = false → Is (law_sameM (n + 1 + 1) a b) (sameD a b) := fun e => law_same_s (n + 1) a b e (fun k e => by subst e; exact okD_dict hb) (fun s e => by subst e; exact okD_str ha) (fun s e => by subst e; exact okD_str hb)
    cases b with
    | list ys =>
      cases a with
      | list xs =>
        rw [law_sameM]
        refine Is.bind (a := true) (by intro m Q q; simp only [WP.run_bind, WP.run_pure, isB_ty, tyD, isNonD, Bool.not_true, Bool.not_false, WP.cond_true, WP.cond_false, tb_tuple_NoneType, tb_tuple_bool, tb_tuple_int, tb_tuple_str, tb_tuple_list, tb_tuple_tuple, tb_tuple_dict, tb_list_NoneType, tb_list_bool, tb_list_int, tb_list_str, tb_list_list, tb_list_tuple, tb_list_dict, tb_bool_NoneType, tb_bool_bool, tb_bool_int, tb_bool_str, tb_bool_list, tb_bool_tuple, tb_bool_dict, tb_int_NoneType, tb_int_bool, tb_int_int, tb_int_str, tb_int_list, tb_int_tuple, tb_int_dict, tb_str_NoneType, tb_str_bool, tb_str_int, tb_str_str, tb_str_list, tb_str_tuple, tb_str_dict]; exact q) (Is.bind (a := false) (by intro m Q q; simp only [WP.run_bind, WP.run_pure, isB_ty, tyD, isNonD, Bool.not_true, Bool.not_false, WP.cond_true, WP.cond_false, tb_tuple_NoneType, tb_tuple_bool, tb_tuple_int, tb_tuple_str, tb_tuple_list, tb_tuple_tuple, tb_tuple_dict, tb_list_NoneType, tb_list_bool, tb_list_int, tb_list_str, tb_list_list, tb_list_tuple, tb_list_dict, tb_bool_NoneType, tb_bool_bool, tb_bool_int, tb_bool_str, tb_bool_list, tb_bool_tuple, tb_bool_dict, tb_int_NoneType, tb_int_bool, tb_int_int, tb_int_str, tb_int_list, tb_int_tuple, tb_int_dict, tb_str_NoneType, tb_str_bool, tb_str_int, tb_str_str, tb_str_list, tb_str_tuple, tb_str_dict]; exact q) ?_)
        refine seq_same (xs := xs) (ys := ys) rfl rfl rfl rfl ha.1 hb.1 (fun k hk hl => ?_) ?_
        · have hr := mem_rangeL hk
          exact ih _ _ (ixD_okD ha.2 hr.1 (by rw [hl]; exact hr.2)) (ixD_okD hb.2 hr.1 hr.2)
        · rw [sameD_iff]; simp
      | none => intro m Q q; rw [law_sameM]; simp only [WP.run_bind, WP.run_pure, isB_ty, tyD, isNonD, Bool.not_true, Bool.not_false, WP.cond_true, WP.cond_false, tb_tuple_NoneType, tb_tuple_bool, tb_tuple_int, tb_tuple_str, tb_tuple_list, tb_tuple_tuple, tb_tuple_dict, tb_list_NoneType, tb_list_bool, tb_list_int, tb_list_str, tb_list_list, tb_list_tuple, tb_list_dict, tb_bool_NoneType, tb_bool_bool, tb_bool_int, tb_bool_str, tb_bool_list, tb_bool_tuple, tb_bool_dict, tb_int_NoneType, tb_int_bool, tb_int_int, tb_int_str, tb_int_list, tb_int_tuple, tb_int_dict, tb_str_NoneType, tb_str_bool, tb_str_int, tb_str_str, tb_str_list, tb_str_tuple, tb_str_dict]; rw [sameD_no (by intro h; cases h)] at q; exact q
      | bool i => intro m Q q; rw [law_sameM]; simp only [WP.run_bind, WP.run_pure, isB_ty, tyD, isNonD, Bool.not_true, Bool.not_false, WP.cond_true, WP.cond_false, tb_tuple_NoneType, tb_tuple_bool, tb_tuple_int, tb_tuple_str, tb_tuple_list, tb_tuple_tuple, tb_tuple_dict, tb_list_NoneType, tb_list_bool, tb_list_int, tb_list_str, tb_list_list, tb_list_tuple, tb_list_dict, tb_bool_NoneType, tb_bool_bool, tb_bool_int, tb_bool_str, tb_bool_list, tb_bool_tuple, tb_bool_dict, tb_int_NoneType, tb_int_bool, tb_int_int, tb_int_str, tb_int_list, tb_int_tuple, tb_int_dict, tb_str_NoneType, tb_str_bool, tb_str_int, tb_str_str, tb_str_list, tb_str_tuple, tb_str_dict]; rw [sameD_no (by intro h; cases h)] at q; exact q
      | int i => intro m Q q; rw [law_sameM]; simp only [WP.run_bind, WP.run_pure, isB_ty, tyD, isNonD, Bool.not_true, Bool.not_false, WP.cond_true, WP.cond_false, tb_tuple_NoneType, tb_tuple_bool, tb_tuple_int, tb_tuple_str, tb_tuple_list, tb_tuple_tuple, tb_tuple_dict, tb_list_NoneType, tb_list_bool, tb_list_int, tb_list_str, tb_list_list, tb_list_tuple, tb_list_dict, tb_bool_NoneType, tb_bool_bool, tb_bool_int, tb_bool_str, tb_bool_list, tb_bool_tuple, tb_bool_dict, tb_int_NoneType, tb_int_bool, tb_int_int, tb_int_str, tb_int_list, tb_int_tuple, tb_int_dict, tb_str_NoneType, tb_str_bool, tb_str_int, tb_str_str, tb_str_list, tb_str_tuple, tb_str_dict]; rw [sameD_no (by intro h; cases h)] at q; exact q
      | str i => intro m Q q; rw [law_sameM]; simp only [WP.run_bind, WP.run_pure, isB_ty, tyD, isNonD, Bool.not_true, Bool.not_false, WP.cond_true, WP.cond_false, tb_tuple_NoneType, tb_tuple_bool, tb_tuple_int, tb_tuple_str, tb_tuple_list, tb_tuple_tuple, tb_tuple_dict, tb_list_NoneType, tb_list_bool, tb_list_int, tb_list_str, tb_list_list, tb_list_tuple, tb_list_dict, tb_bool_NoneType, tb_bool_bool, tb_bool_int, tb_bool_str, tb_bool_list, tb_bool_tuple, tb_bool_dict, tb_int_NoneType, tb_int_bool, tb_int_int, tb_int_str, tb_int_list, tb_int_tuple, tb_int_dict, tb_str_NoneType, tb_str_bool, tb_str_int, tb_str_str, tb_str_list, tb_str_tuple, tb_str_dict]; rw [sameD_no (by intro h; cases h)] at q; exact q
      | tuple i => intro m Q q; rw [law_sameM]; simp only [WP.run_bind, WP.run_pure, isB_ty, tyD, isNonD, Bool.not_true, Bool.not_false, WP.cond_true, WP.cond_false, tb_tuple_NoneType, tb_tuple_bool, tb_tuple_int, tb_tuple_str, tb_tuple_list, tb_tuple_tuple, tb_tuple_dict, tb_list_NoneType, tb_list_bool, tb_list_int, tb_list_str, tb_list_list, tb_list_tuple, tb_list_dict, tb_bool_NoneType, tb_bool_bool, tb_bool_int, tb_bool_str, tb_bool_list, tb_bool_tuple, tb_bool_dict, tb_int_NoneType, tb_int_bool, tb_int_int, tb_int_str, tb_int_list, tb_int_tuple, tb_int_dict, tb_str_NoneType, tb_str_bool, tb_str_int, tb_str_str, tb_str_list, tb_str_tuple, tb_str_dict]; rw [sameD_no (by intro h; cases h)] at q; exact q
      | dict i => intro m Q q; rw [law_sameM]; simp only [WP.run_bind, WP.run_pure, isB_ty, tyD, isNonD, Bool.not_true, Bool.not_false, WP.cond_true, WP.cond_false, tb_tuple_NoneType, tb_tuple_bool, tb_tuple_int, tb_tuple_str, tb_tuple_list, tb_tuple_tuple, tb_tuple_dict, tb_list_NoneType, tb_list_bool, tb_list_int, tb_list_str, tb_list_list, tb_list_tuple, tb_list_dict, tb_bool_NoneType, tb_bool_bool, tb_bool_int, tb_bool_str, tb_bool_list, tb_bool_tuple, tb_bool_dict, tb_int_NoneType, tb_int_bool, tb_int_int, tb_int_str, tb_int_list, tb_int_tuple, tb_int_dict, tb_str_NoneType, tb_str_bool, tb_str_int, tb_str_str, tb_str_list, tb_str_tuple, tb_str_dict]; rw [sameD_no (by intro h; cases h)] at q; exact q
    | tuple ys =>
      cases a with
      | tuple xs =>
        rw [law_sameM]
        refine Is.bind (a := true) (by intro m Q q; simp only [WP.run_bind, WP.run_pure, isB_ty, tyD, isNonD, Bool.not_true, Bool.not_false, WP.cond_true, WP.cond_false, tb_tuple_NoneType, tb_tuple_bool, tb_tuple_int, tb_tuple_str, tb_tuple_list, tb_tuple_tuple, tb_tuple_dict, tb_list_NoneType, tb_list_bool, tb_list_int, tb_list_str, tb_list_list, tb_list_tuple, tb_list_dict, tb_bool_NoneType, tb_bool_bool, tb_bool_int, tb_bool_str, tb_bool_list, tb_bool_tuple, tb_bool_dict, tb_int_NoneType, tb_int_bool, tb_int_int, tb_int_str, tb_int_list, tb_int_tuple, tb_int_dict, tb_str_NoneType, tb_str_bool, tb_str_int, tb_str_str, tb_str_list, tb_str_tuple, tb_str_dict]; exact q) (Is.bind (a := false) (by intro m Q q; simp only [WP.run_bind, WP.run_pure, isB_ty, tyD, isNonD, Bool.not_true, Bool.not_false, WP.cond_true, WP.cond_false, tb_tuple_NoneType, tb_tuple_bool, tb_tuple_int, tb_tuple_str, tb_tuple_list, tb_tuple_tuple, tb_tuple_dict, tb_list_NoneType, tb_list_bool, tb_list_int, tb_list_str, tb_list_list, tb_list_tuple, tb_list_dict, tb_bool_NoneType, tb_bool_bool, tb_bool_int, tb_bool_str, tb_bool_list, tb_bool_tuple, tb_bool_dict, tb_int_NoneType, tb_int_bool, tb_int_int, tb_int_str, tb_int_list, tb_int_tuple, tb_int_dict, tb_str_NoneType, tb_str_bool, tb_str_int, tb_str_str, tb_str_list, tb_str_tuple, tb_str_dict]; exact q) ?_)
        refine seq_same (xs := xs) (ys := ys) rfl rfl rfl rfl ha.1 hb.1 (fun k hk hl => ?_) ?_
        · have hr := mem_rangeL hk
          exact ih _ _ (ixD_okD ha.2 hr.1 (by rw [hl]; exact hr.2)) (ixD_okD hb.2 hr.1 hr.2)
        · rw [sameD_iff]; simp
      | none => intro m Q q; rw [law_sameM]; simp only [WP.run_bind, WP.run_pure, isB_ty, tyD, isNonD, Bool.not_true, Bool.not_false, WP.cond_true, WP.cond_false, tb_tuple_NoneType, tb_tuple_bool, tb_tuple_int, tb_tuple_str, tb_tuple_list, tb_tuple_tuple, tb_tuple_dict, tb_list_NoneType, tb_list_bool, tb_list_int, tb_list_str, tb_list_list, tb_list_tuple, tb_list_dict, tb_bool_NoneType, tb_bool_bool, tb_bool_int, tb_bool_str, tb_bool_list, tb_bool_tuple, tb_bool_dict, tb_int_NoneType, tb_int_bool, tb_int_int, tb_int_str, tb_int_list, tb_int_tuple, tb_int_dict, tb_str_NoneType, tb_str_bool, tb_str_int, tb_str_str, tb_str_list, tb_str_tuple, tb_str_dict]; rw [sameD_no (by intro h; cases h)] at q; exact q
      | bool i => intro m Q q; rw [law_sameM]; simp only [WP.run_bind, WP.run_pure, isB_ty, tyD, isNonD, Bool.not_true, Bool.not_false, WP.cond_true, WP.cond_false, tb_tuple_NoneType, tb_tuple_bool, tb_tuple_int, tb_tuple_str, tb_tuple_list, tb_tuple_tuple, tb_tuple_dict, tb_list_NoneType, tb_list_bool, tb_list_int, tb_list_str, tb_list_list, tb_list_tuple, tb_list_dict, tb_bool_NoneType, tb_bool_bool, tb_bool_int, tb_bool_str, tb_bool_list, tb_bool_tuple, tb_bool_dict, tb_int_NoneType, tb_int_bool, tb_int_int, tb_int_str, tb_int_list, tb_int_tuple, tb_int_dict, tb_str_NoneType, tb_str_bool, tb_str_int, tb_str_str, tb_str_list, tb_str_tuple, tb_str_dict]; rw [sameD_no (by intro h; cases h)] at q; exact q
      | int i => intro m Q q; rw [law_sameM]; simp only [WP.run_bind, WP.run_pure, isB_ty, tyD, isNonD, Bool.not_true, Bool.not_false, WP.cond_true, WP.cond_false, tb_tuple_NoneType, tb_tuple_bool, tb_tuple_int, tb_tuple_str, tb_tuple_list, tb_tuple_tuple, tb_tuple_dict, tb_list_NoneType, tb_list_bool, tb_list_int, tb_list_str, tb_list_list, tb_list_tuple, tb_list_dict, tb_bool_NoneType, tb_bool_bool, tb_bool_int, tb_bool_str, tb_bool_list, tb_bool_tuple, tb_bool_dict, tb_int_NoneType, tb_int_bool, tb_int_int, tb_int_str, tb_int_list, tb_int_tuple, tb_int_dict, tb_str_NoneType, tb_str_bool, tb_str_int, tb_str_str, tb_str_list, tb_str_tuple, tb_str_dict]; rw [sameD_no (by intro h; cases h)] at q; exact q
      | str i => intro m Q q; rw [law_sameM]; simp only [WP.run_bind, WP.run_pure, isB_ty, tyD, isNonD, Bool.not_true, Bool.not_false, WP.cond_true, WP.cond_false, tb_tuple_NoneType, tb_tuple_bool, tb_tuple_int, tb_tuple_str, tb_tuple_list, tb_tuple_tuple, tb_tuple_dict, tb_list_NoneType, tb_list_bool, tb_list_int, tb_list_str, tb_list_list, tb_list_tuple, tb_list_dict, tb_bool_NoneType, tb_bool_bool, tb_bool_int, tb_bool_str, tb_bool_list, tb_bool_tuple, tb_bool_dict, tb_int_NoneType, tb_int_bool, tb_int_int, tb_int_str, tb_int_list, tb_int_tuple, tb_int_dict, tb_str_NoneType, tb_str_bool, tb_str_int, tb_str_str, tb_str_list, tb_str_tuple, tb_str_dict]; rw [sameD_no (by intro h; cases h)] at q; exact q
      | list i => intro m Q q; rw [law_sameM]; simp only [WP.run_bind, WP.run_pure, isB_ty, tyD, isNonD, Bool.not_true, Bool.not_false, WP.cond_true, WP.cond_false, tb_tuple_NoneType, tb_tuple_bool, tb_tuple_int, tb_tuple_str, tb_tuple_list, tb_tuple_tuple, tb_tuple_dict, tb_list_NoneType, tb_list_bool, tb_list_int, tb_list_str, tb_list_list, tb_list_tuple, tb_list_dict, tb_bool_NoneType, tb_bool_bool, tb_bool_int, tb_bool_str, tb_bool_list, tb_bool_tuple, tb_bool_dict, tb_int_NoneType, tb_int_bool, tb_int_int, tb_int_str, tb_int_list, tb_int_tuple, tb_int_dict, tb_str_NoneType, tb_str_bool, tb_str_int, tb_str_str, tb_str_list, tb_str_tuple, tb_str_dict]; rw [sameD_no (by intro h; cases h)] at q; exact q
      | dict i => intro m Q q; rw [law_sameM]; simp only [WP.run_bind, WP.run_pure, isB_ty, tyD, isNonD, Bool.not_true, Bool.not_false, WP.cond_true, WP.cond_false, tb_tuple_NoneType, tb_tuple_bool, tb_tuple_int, tb_tuple_str, tb_tuple_list, tb_tuple_tuple, tb_tuple_dict, tb_list_NoneType, tb_list_bool, tb_list_int, tb_list_str, tb_list_list, tb_list_tuple, tb_list_dict, tb_bool_NoneType, tb_bool_bool, tb_bool_int, tb_bool_str, tb_bool_list, tb_bool_tuple, tb_bool_dict, tb_int_NoneType, tb_int_bool, tb_int_int, tb_int_str, tb_int_list, tb_int_tuple, tb_int_dict, tb_str_NoneType, tb_str_bool, tb_str_int, tb_str_str, tb_str_list, tb_str_tuple, tb_str_dict]; rw [sameD_no (by intro h; cases h)] at q; exact q
    | none => exact sc rfl
    | bool b => exact sc rfl
    | int b => exact sc rfl
    | str b => exact sc rfl
    | dict b => exact sc rfl
class Cm (α : Type) [PyI α] [Dat α] where
  ok : α → Prop
  n : Nat
  okd : ∀ {a : α}, ok a → okD n (dat a)
instance : Cm Int := ⟨fun _ => True, 0, fun _ => trivial⟩
instance : Cm Bool := ⟨fun _ => True, 0, fun _ => trivial⟩
instance : Cm Unit := ⟨fun _ => True, 0, fun _ => trivial⟩
instance : Cm Str := ⟨fun s => PyData.canLay0 (.str s) = true, 0, fun h => h⟩
section
variable {α β : Type} [PyI α] [PyI β] [Dat α] [Dat β] [Cm α] [Cm β]
instance : Cm (α × β) := ⟨fun c => Cm.ok c.1 ∧ Cm.ok c.2, max (Cm.n α) (Cm.n β) + 1, fun h => ⟨by show (2 : Nat) ≤ 100000; omega, fun x hx => by
  rcases List.mem_cons.mp hx with e | hx
  · rw [e]; exact okD_le (Cm.okd h.1) (Nat.le_max_left _ _)
  · rw [List.mem_singleton.mp hx]; exact okD_le (Cm.okd h.2) (Nat.le_max_right _ _)⟩⟩
instance : Cm (List α) := ⟨fun xs => xs.length ≤ 100000 ∧ ∀ x ∈ xs, Cm.ok x, Cm.n α + 1, fun h => ⟨by rw [List.length_map]; exact h.1, fun x hx => by
  obtain ⟨a, ha, rfl⟩ := List.mem_map.mp hx
  exact Cm.okd (h.2 a ha)⟩⟩
instance : Cm (Ls α) := ⟨fun xs => xs.l.length ≤ 100000 ∧ ∀ x ∈ xs.l, Cm.ok x, Cm.n α + 1, fun h => ⟨by rw [List.length_map]; exact h.1, fun x hx => by
  obtain ⟨a, ha, rfl⟩ := List.mem_map.mp hx
  exact Cm.okd (h.2 a ha)⟩⟩
instance : Cm (Option α) := ⟨fun o => ∀ a, o = some a → Cm.ok a, Cm.n α, fun {o} h => by
  cases o with
  | none =>
    show okD (Cm.n α) .none
    cases Cm.n α <;> exact trivial
  | some a => exact Cm.okd (h a rfl)⟩
theorem dat_inj [EqD α] {x y : α} (h : (dat x : PyData) = dat y) : x = y := (EqD.eqv x y).mp (by rw [h]; exact (EqD.eqv y y).mpr rfl)
theorem sameD_dat [EqD α] [DecidableEq α] (x y : α) : sameD (dat x) (dat y) = decide (x = y) := by
  rw [sameD_eq]
  rw [decide_eq_true_eq]
  exact ⟨dat_inj, fun h => by rw [h]⟩
theorem same_is [EqD α] [DecidableEq α] {x y : α} (hx : Cm.ok x) (hy : Cm.ok y) (hn : Cm.n α ≤ 5 := by decide) : Is (law_sameM 6 (dat x) (dat y)) (decide (x = y)) :=
  (law_same_is 5 _ _ (okD_le (Cm.okd hx) hn) (okD_le (Cm.okd hy) hn)).eq (sameD_dat x y)
end
def law_same__lM (a_a : (List PyData)) (a_b : (List PyData)) : WP Bool := (WP.or ((WP.pure a_b).bind fun _ => WP.pure false) ((WP.pure a_b).bind fun _ => WP.pure true)).bind fun b => WP.cond b ((WP.or (WP.and ((WP.pure a_b).bind fun _ => WP.pure false) (WP.not ((WP.pure a_a).bind fun _ => WP.pure false))) (WP.and ((WP.pure a_b).bind fun _ => WP.pure true) (WP.not ((WP.pure a_a).bind fun _ => WP.pure true)))).bind fun b => WP.cond b ((WP.none (b := ()))) ((WP.ne (WP.len (WP.pure a_a)) (WP.len (WP.pure a_b))).bind fun b => WP.cond b ((WP.pure false).bind fun r4 => (WP.pure r4)) ((WP.range1 (WP.len (WP.pure a_b))).bind fun xs5 => WP.after (WP.loop (γ := Bool) (fun c5 (y5 : Unit) => (WP.not (WP.b2 (WP.ix (WP.pure a_a) (WP.pure c5)) (WP.ix (WP.pure a_b) (WP.pure c5)) (law_sameM 6))).bind fun b => WP.cond b ((WP.pure false).bind fun r7 => (WP.pure (.rt r7))) ((WP.pure (.nx ())))) xs5 ()) (fun (z5 : Unit) => (WP.pure true).bind fun r8 => (WP.pure r8)) (fun r => (WP.pure r))))) ((WP.none (b := ())))
theorem law_same__l_is {xs ys : List PyData} (hx : xs.length ≤ 100000) (hy : ys.length ≤ 100000) (ox : ∀ x ∈ xs, okD 5 x) (oy : ∀ x ∈ ys, okD 5 x) : Is (law_same__lM xs ys) (sameD (.list xs) (.list ys)) := by
  refine Is.bind (a := true) (by intro m Q q; simp only [WP.run_bind, WP.run_pure, WP.cond_true, WP.cond_false, Bool.not_true, Bool.not_false]; exact q) (Is.bind (a := false) (by intro m Q q; simp only [WP.run_bind, WP.run_pure, WP.cond_true, WP.cond_false, Bool.not_true, Bool.not_false]; exact q) ?_)
  refine Is.bind (Is.ne (Is.len Is.pure) (Is.len Is.pure)) ?_
  have hc : (sameD (.list xs) (.list ys) = true) ↔ xs = ys := by rw [sameD_iff]; simp
  generalize sameD (.list xs) (.list ys) = c at hc ⊢
  by_cases hl : xs.length = ys.length
  · rw [decide_eq_true (show ((xs.length : Nat) : Int) = ((ys.length : Nat) : Int) by omega)]
    refine Is.bind (Is.range1 (Is.len Is.pure) hy) ?_
    refine Is.afterAll (no := false) (Is.loopAll (no := false) (p := fun k => sameD (ixD xs k) (ixD ys k)) fun k hk => ?_) (fun h => ?_) (fun h => ?_)
    · have hr := mem_rangeL hk
      exact Is.guard (Is.not (Is.b2 (Is.ix Is.pure Is.pure ⟨by omega, by omega⟩) (Is.ix Is.pure Is.pure ⟨by omega, by omega⟩) (law_same_is 5 _ _ (ixD_okD ox hr.1 (by omega)) (ixD_okD oy hr.1 hr.2)))) fun _ => Is.pure
    · have : xs = ys := list_ix.mpr ⟨hl, fun k hk => sameD_iff.mp (List.all_eq_true.mp h k hk)⟩
      rw [hc.mpr this]; exact Is.pure.bind Is.pure
    · have : c = false := by
        rw [← Bool.not_eq_true, hc]
        intro e
        have := List.all_eq_true.mpr fun k hk => sameD_iff.mpr ((list_ix.mp e).2 k hk)
        rw [this] at h; cases h
      rw [this]; exact Is.pure
  · rw [decide_eq_false (show ¬ ((xs.length : Nat) : Int) = ((ys.length : Nat) : Int) by omega)]
    have : c = false := by
      rw [← Bool.not_eq_true, hc]
      rintro rfl; exact hl rfl
    rw [this]; exact Is.pure.bind Is.pure
/-- lists of one kind compared -/
theorem same_l_is {α : Type} [PyI α] [Dat α] [Cm α] [EqD α] [DecidableEq α] {xs ys : List α} (hx : Cm.ok xs) (hy : Cm.ok ys) (hn : Cm.n α ≤ 5 := by decide) : Is (law_same__lM (xs.map dat) (ys.map dat)) (decide (xs = ys)) := by
  have key : sameD (.list (xs.map dat)) (.list (ys.map dat)) = decide (xs = ys) := by
    refine sameD_eq ?_
    rw [decide_eq_true_eq]
    simp only [PyData.list.injEq]
    constructor
    · intro h
      induction xs generalizing ys with
      | nil => cases ys with
        | nil => rfl
        | cons y ys => cases h
      | cons x xs ih => cases ys with
        | nil => cases h
        | cons y ys =>
          rw [List.map_cons, List.map_cons] at h
          injection h with h1 h2
          rw [dat_inj h1, ih ⟨by have := hx.1; rw [List.length_cons] at this; omega, fun z m => hx.2 z (List.mem_cons_of_mem _ m)⟩ ⟨by have := hy.1; rw [List.length_cons] at this; omega, fun z m => hy.2 z (List.mem_cons_of_mem _ m)⟩ h2]
    · rintro rfl; rfl
  rw [← key]
  refine law_same__l_is (by rw [List.length_map]; exact hx.1) (by rw [List.length_map]; exact hy.1) (fun x m => ?_) (fun x m => ?_)
  · obtain ⟨a, ha, rfl⟩ := List.mem_map.mp m
    exact okD_le (Cm.okd (hx.2 a ha)) hn
  · obtain ⟨a, ha, rfl⟩ := List.mem_map.mp m
    exact okD_le (Cm.okd (hy.2 a ha)) hn
end Y

/-! plain facts: papers of heights -/
namespace Y
open PySem L2
abbrev HP := List (Sq × Int)
def ht (p : HP) (q : Sq) : Int := (lookK p q).getD 0
structure OkP (p : HP) : Prop where
  nd : (p.map (·.1)).Nodup
  nn : ∀ x ∈ p, 0 ≤ x.2
def Shows (dom : Sq → Bool) (inc : Sq → Int) (a b : Sq) (n : Int) (p : HP) : Prop := OkP p ∧ n ≤ ht p a ∧ ht p b = 0 ∧ (∀ x ∈ p, dom x.1 = true) ∧ ∀ x ∈ p, ∀ o ∈ sides x.1, dom o = true → x.2 ≤ ht p o + inc o
theorem ht_mem {p : HP} (nd : (p.map (·.1)).Nodup) {q : Sq} {h : Int} (m : (q, h) ∈ p) : ht p q = h := by
  unfold ht
  rw [lookK_mem nd m]; rfl
theorem ht_none {p : HP} {q : Sq} (h : q ∉ p.map (·.1)) : ht p q = 0 := by
  unfold ht
  cases e : lookK p q with
  | none => rfl
  | some d => exact absurd (List.mem_map.mpr ⟨_, lookK_some e, rfl⟩) h
theorem ht_cases (p : HP) (q : Sq) : (q, ht p q) ∈ p ∨ (q ∉ p.map (·.1) ∧ ht p q = 0) := by
  cases e : lookK p q with
  | none => exact .inr ⟨lookK_none e, by unfold ht; rw [e]; rfl⟩
  | some d =>
    left
    have := lookK_some e
    unfold ht
    rw [e]; exact this
theorem OkP.nneg {p : HP} (h : OkP p) (q : Sq) : 0 ≤ ht p q := by
  rcases ht_cases p q with m | ⟨_, e⟩
  · exact h.nn _ m
  · rw [e]; exact Int.le_refl _
/-- heights of 0 left out -/
theorem nodup_filter {p : HP} (f : Sq × Int → Bool) (nd : (p.map (·.1)).Nodup) : ((p.filter f).map (·.1)).Nodup := nd.sublist (List.filter_sublist.map _)
theorem ht_pos {p : HP} (h : OkP p) (q : Sq) : ht (p.filter fun x => decide (0 < x.2)) q = ht p q := by
  rcases ht_cases p q with m | ⟨m, e⟩
  · by_cases z : 0 < ht p q
    · exact ht_mem (nodup_filter _ h.nd) (List.mem_filter.mpr ⟨m, decide_eq_true z⟩)
    · have h0 := h.nneg q
      rw [ht_none, show ht p q = 0 by omega]
      intro w
      obtain ⟨x, hx, e⟩ := List.mem_map.mp w
      obtain ⟨h1, h2⟩ := List.mem_filter.mp hx
      have h3 := of_decide_eq_true h2
      have : ht p q = x.2 := ht_mem h.nd (by rw [← e]; exact h1)
      omega
  · rw [e, ht_none]
    intro w
    obtain ⟨x, hx, e⟩ := List.mem_map.mp w
    exact m (List.mem_map.mpr ⟨x, (List.mem_filter.mp hx).1, e⟩)
theorem Shows.pos {dom : Sq → Bool} {inc : Sq → Int} {a b : Sq} {n : Int} {p : HP} (h : Shows dom inc a b n p) : Shows dom inc a b n (p.filter fun x => decide (0 < x.2)) := by
  obtain ⟨h1, h2, h3, h4, h5⟩ := h
  have hh := ht_pos h1
  exact ⟨⟨nodup_filter _ h1.nd, fun x m => h1.nn x (List.mem_filter.mp m).1⟩, by rw [hh]; exact h2, by rw [hh]; exact h3, fun x m => h4 x (List.mem_filter.mp m).1, fun x m o ho hd => by rw [hh]; exact h5 x (List.mem_filter.mp m).1 o ho hd⟩
theorem Shows.num {dom : Sq → Bool} {inc : Sq → Int} {a b : Sq} {n : Int} {p : HP} (h : Shows dom inc a b n p) {k : Int} : Shows dom inc a b k p ↔ k ≤ ht p a := ⟨fun z => z.2.1, fun z => ⟨h.1, z, h.2.2⟩⟩
/-- a square raised as far as it goes -/
def rest (p : HP) (s : Sq) : HP := p.filter fun x => !decide (x.1 = s)
theorem rest_keys {p : HP} {s : Sq} : s ∉ (rest p s).map (·.1) := by
  intro w
  obtain ⟨x, hx, e⟩ := List.mem_map.mp w
  have := (List.mem_filter.mp hx).2
  rw [e] at this
  simp at this
theorem raise_nd {p : HP} (nd : (p.map (·.1)).Nodup) {s : Sq} {v : Int} : ((rest p s ++ [(s, v)]).map (·.1)).Nodup := by
  rw [List.map_append, List.nodup_append]
  refine ⟨nodup_filter _ nd, by simp, fun x hx y hy z => ?_⟩
  have : y = s := by simpa using hy
  subst this
  exact rest_keys (z ▸ hx)
theorem ht_raise {p : HP} (nd : (p.map (·.1)).Nodup) {s : Sq} {v : Int} (q : Sq) : ht (rest p s ++ [(s, v)]) q = if q = s then v else ht p q := by
  have nd2 := raise_nd nd (s := s) (v := v)
  by_cases e : q = s
  · subst e
    rw [if_pos rfl]
    exact ht_mem nd2 (List.mem_append_right _ (by simp))
  · rw [if_neg e]
    rcases ht_cases p q with m | ⟨m, e2⟩
    · refine ht_mem nd2 (List.mem_append_left _ (List.mem_filter.mpr ⟨m, ?_⟩))
      rw [decide_eq_false e]; rfl
    · rw [e2, ht_none]
      intro w
      obtain ⟨x, hx, e3⟩ := List.mem_map.mp w
      rcases List.mem_append.mp hx with hx | hx
      · exact m (List.mem_map.mpr ⟨x, (List.mem_filter.mp hx).1, e3⟩)
      · have : x = (s, v) := by simpa using hx
        rw [this] at e3
        exact e e3.symm
theorem sides_ne {s o : Sq} (h : o ∈ sides s) : o ≠ s := by
  obtain ⟨a, b⟩ := s
  obtain ⟨c, d⟩ := o
  simp only [sides, List.mem_cons, Prod.mk.injEq, List.not_mem_nil, or_false] at h
  intro z
  injection z with z1 z2
  omega
theorem Shows.too {dom : Sq → Bool} {inc : Sq → Int} {a b s : Sq} {n v : Int} {p : HP} (nd : (p.map (·.1)).Nodup) (he : ∃ o ∈ sides s, dom o = true ∧ ht p o + inc o < v) : ¬ Shows dom inc a b n (rest p s ++ [(s, v)]) := fun ⟨_, _, _, _, h5⟩ => by
  obtain ⟨o, ho, hd, hlt⟩ := he
  have := h5 (s, v) (List.mem_append_right _ (by simp)) o ho hd
  rw [ht_raise nd, if_neg (sides_ne ho)] at this
  have : v ≤ ht p o + inc o := this
  omega
/-! ### the models -/
theorem take_snoc {α : Type} {xs : List α} {i : Nat} {a : α} (h : xs[i]? = some a) : xs.take (i + 1) = xs.take i ++ [a] := by
  rw [List.take_add_one, h]; rfl
end Y

/-! plain facts: the deal -/
namespace Y
open PySem L2
def law_dealM (a_script : List Int) : WP Unit := (WP.row (WP.pure ([] : List Int))).bind fun a1_row => (WP.range1 (WP.min2 (WP.len (WP.pure a_script)) (WP.pure (63 : Int)))).bind fun xs2 => WP.after (WP.loop (γ := Unit) (fun c2 (y2 : (List Int)) => (WP.abs ((WP.ix (WP.pure a_script) (WP.pure c2)).bind WP.pure)).bind fun a3_cell => ((WP.ge (WP.pure a3_cell) (WP.pow (WP.pure (10 : Int)) (WP.pure (18 : Int)))).bind fun b => WP.cond b ((WP.range1 (WP.pure (40 : Int))).bind fun xs5 => WP.after (WP.loop (γ := Unit) (fun c5 (y5 : (List Int) × Int) => ((WP.gt (WP.pure y5.2) (WP.pure (0 : Int))).bind fun b => WP.cond b (((WP.mod (WP.pure y5.2) (WP.pure (1009 : Int))).bind fun a => WP.req (y5.1.length < 100000) (y5.1 ++ [a])).bind fun a7_row => (WP.fdiv (WP.pure y5.2) (WP.pure (1009 : Int))).bind fun a8_cell => (WP.pure (a7_row, a8_cell))) ((WP.pure (y5.1, y5.2)))).bind fun (y6 : (List Int) × Int) => (WP.pure (.nx (y6.1, y6.2)))) xs5 (y2, a3_cell)) (fun (z5 : (List Int) × Int) => (WP.pure (z5.1, z5.2))) (fun r => (WP.none (b := r)))) ((WP.add (WP.add (WP.mul (WP.mod (WP.pure a3_cell) (WP.pure (2147483629 : Int))) (WP.pure (48271 : Int))) (WP.mul (WP.pure c2) (WP.pure (69621 : Int)))) (WP.pure (11 : Int))).bind fun a9_cell => (WP.range1 (WP.pure (5 : Int))).bind fun xs10 => WP.after (WP.loop (γ := Unit) (fun c10 (y10 : (List Int) × Int) => (WP.mod (WP.add (WP.add (WP.mul (WP.pure y10.2) (WP.pure (16807 : Int))) (WP.pure (12345 : Int))) (WP.pure c10)) (WP.pure (2147483647 : Int))).bind fun a11_cell => ((WP.mod (WP.fdiv (WP.pure a11_cell) (WP.pure (7 : Int))) (WP.pure (1009 : Int))).bind fun a => WP.req (y10.1.length < 100000) (y10.1 ++ [a])).bind fun a12_row => (WP.pure (.nx (a12_row, a11_cell)))) xs10 (y2, a9_cell)) (fun (z10 : (List Int) × Int) => (WP.pure (z10.1, z10.2))) (fun r => (WP.none (b := r))))).bind fun (y4 : (List Int) × Int) => (WP.pure (.nx y4.1))) xs2 a1_row) (fun (z2 : (List Int)) => (WP.add (WP.sum (WP.pure z2)) (WP.len (WP.pure a_script))).bind fun a13_total => (WP.pure a13_total).bind fun _ => WP.pure ()) (fun r => (WP.pure r))
theorem len_app {a : Int} {xs : List Int} : (xs ++ [a]).length = xs.length + 1 := by simp
theorem deal_plain (ns : List Int) (hl : ns.length ≤ 63) (n : Nat) : (law_dealM ns).run n fun _ _ => True := by
  unfold law_dealM
  (simp only [WP.run_bind, WP.run_pure, WP.run_req, WP.run_any, WP.run_take, WP.run_cond, WP.run_range1, WP.run_range2, decide_eq_true_eq, decide_eq_false_iff_not, Bool.not_eq_true', Bool.not_eq_false'])
  refine ⟨by decide, ⟨by split <;> omega, by split <;> omega⟩, ?_⟩
  refine WP.after_inv (fun i m row => row.length ≤ 40 * i) (by simp) (fun i m k row hk hrow => ?_) (fun m row hrow => ?_)
  · obtain ⟨ek, hk'⟩ := rangeL0_get hk
    have hi : i < 63 := by split at hk' <;> omega
    have hi2 : i < ns.length := by split at hk' <;> omega
    subst ek
    (simp only [WP.run_bind, WP.run_pure, WP.run_req, WP.run_any, WP.run_take, WP.run_cond, WP.run_range1, WP.run_range2, decide_eq_true_eq, decide_eq_false_iff_not, Bool.not_eq_true', Bool.not_eq_false'])
    refine ⟨⟨by omega, by omega⟩, ⟨by decide, by decide, by decide⟩, fun _ => ⟨⟨by decide, by decide⟩, ?_⟩, fun _ => ?_⟩
    · refine WP.after_inv (fun j m y => y.1.length ≤ 40 * i + j) (by simpa using hrow) (fun j m t y ht hy => ?_) (fun m y hy => ?_)
      · obtain ⟨et, ht'⟩ := rangeL0_get ht
        (simp only [WP.run_bind, WP.run_pure, WP.run_req, WP.run_any, WP.run_take, WP.run_cond, WP.run_range1, WP.run_range2, decide_eq_true_eq, decide_eq_false_iff_not, Bool.not_eq_true', Bool.not_eq_false'])
        refine ⟨fun _ => ⟨by decide, by omega, ⟨by decide, by decide⟩, ?_⟩, fun _ => ?_⟩
        · show (y.1 ++ _).length ≤ _
          rw [len_app]; omega
        · show y.1.length ≤ _
          omega
      · rw [rangeL0_len] at hy
        show y.1.length ≤ 40 * (i + 1)
        have : (40 : Int).toNat = 40 := rfl
        omega
    · refine ⟨by decide, .inr ⟨by decide, by decide⟩, .inr ⟨by decide, by decide⟩, ⟨by decide, by decide⟩, ?_⟩
      refine WP.after_inv (fun j m y => y.1.length ≤ 40 * i + j) (by simpa using hrow) (fun j m t y ht hy => ?_) (fun m y hy => ?_)
      · obtain ⟨et, ht'⟩ := rangeL0_get ht
        (simp only [WP.run_bind, WP.run_pure, WP.run_req, WP.run_any, WP.run_take, WP.run_cond, WP.run_range1, WP.run_range2, decide_eq_true_eq, decide_eq_false_iff_not, Bool.not_eq_true', Bool.not_eq_false'])
        refine ⟨.inr ⟨by decide, by decide⟩, by decide, ⟨by decide, by decide⟩, by decide, by omega, ?_⟩
        show (y.1 ++ _).length ≤ _
        rw [len_app]; omega
      · rw [rangeL0_len] at hy
        show y.1.length ≤ 40 * (i + 1)
        have : (5 : Int).toNat = 5 := rfl
        omega
  · (simp only [WP.run_bind, WP.run_pure, WP.run_req, WP.run_any, WP.run_take, WP.run_cond, WP.run_range1, WP.run_range2, decide_eq_true_eq, decide_eq_false_iff_not, Bool.not_eq_true', Bool.not_eq_false'])
end Y

/-! regions: sorted lists of squares, parts that steps make -/
namespace Y
open PySem PySem.Spec PyProof.Rows L2
def ltQ (a b : Sq) : Prop := a.1 < b.1 ∨ (a.1 = b.1 ∧ a.2 < b.2)
theorem ltQ_asym {a b : Sq} (h : ltQ a b) : ¬ ltQ b a := by unfold ltQ at *; omega
theorem ltQ_irr (a : Sq) : ¬ ltQ a a := by unfold ltQ; omega
theorem ltQ_ne {a b : Sq} (h : ltQ a b) : a ≠ b := fun e => ltQ_irr b (e ▸ h)
theorem srt_ext : ∀ {xs ys : List Sq}, xs.Pairwise ltQ → ys.Pairwise ltQ → (∀ q, q ∈ xs ↔ q ∈ ys) → xs = ys
  | [], [], _, _, _ => rfl
  | [], y :: ys, _, _, h => absurd ((h y).mpr List.mem_cons_self) (by simp)
  | x :: xs, [], _, _, h => absurd ((h x).mp List.mem_cons_self) (by simp)
  | x :: xs, y :: ys, hx, hy, h => by
    have h1 := List.pairwise_cons.mp hx
    have h2 := List.pairwise_cons.mp hy
    have e : x = y := by
      rcases List.mem_cons.mp ((h x).mp List.mem_cons_self) with e | m1
      · exact e
      · rcases List.mem_cons.mp ((h y).mpr List.mem_cons_self) with e | m2
        · exact e.symm
        · exact absurd (h1.1 y m2) (ltQ_asym (h2.1 x m1))
    subst e
    rw [srt_ext h1.2 h2.2 fun q => ?_]
    constructor
    · intro m
      rcases List.mem_cons.mp ((h q).mp (List.mem_cons_of_mem _ m)) with e | m'
      · exact absurd e (ltQ_ne (h1.1 q m)).symm
      · exact m'
    · intro m
      rcases List.mem_cons.mp ((h q).mpr (List.mem_cons_of_mem _ m)) with e | m'
      · exact absurd e (ltQ_ne (h2.1 q m)).symm
      · exact m'
theorem srt_nodup {xs : List Sq} (h : xs.Pairwise ltQ) : xs.Nodup := List.Pairwise.imp (fun {a b} h => ltQ_ne h) h
theorem colsTo_srt (r j : Nat) : (colsTo r j).Pairwise ltQ := by
  unfold colsTo
  rw [List.pairwise_map]
  refine List.Pairwise.imp (fun {a b} h => ?_) (List.pairwise_lt_range (n := j))
  unfold ltQ; dsimp only; omega
theorem allSq_srt (ch : List Str) : (allSq ch).Pairwise ltQ := by
  have key : ∀ n, (rowsTo ch n).Pairwise ltQ := fun n => by
    induction n with
    | zero => exact List.Pairwise.nil
    | succ n ih =>
      rw [← rowsTo_succ, List.pairwise_append]
      refine ⟨ih, colsTo_srt _ _, fun a ha b hb => ?_⟩
      unfold rowsTo at ha
      obtain ⟨r, hr, h⟩ := List.mem_flatMap.mp ha
      unfold colsTo at h hb
      obtain ⟨c, _, rfl⟩ := List.mem_map.mp h
      obtain ⟨d, _, rfl⟩ := List.mem_map.mp hb
      have := List.mem_range.mp hr
      unfold ltQ; dsimp only; omega
  exact key ch.length
/-- a region: the squares that steps lead to from s, in order -/
def IsReg (st : Sq → List Sq) (s : Sq) (l : List Sq) : Prop := l.Pairwise ltQ ∧ ∀ q, q ∈ l ↔ Rch st s q
theorem IsReg.inj {st : Sq → List Sq} {s : Sq} {l l' : List Sq} (h : IsReg st s l) (h' : IsReg st s l') : l = l' := srt_ext h.1 h'.1 fun q => by rw [h.2, h'.2]
/-- the regions of ascending squares, one after another -/
def Regs (st : Sq → List Sq) : List Sq → List (List Sq) → List (List Sq) → Prop
  | [], acc, R => R = acc
  | x :: xs, acc, R => ((∃ l ∈ acc, x ∈ l) ∧ Regs st xs acc R) ∨ ((∀ l ∈ acc, x ∉ l) ∧ ∃ l, IsReg st x l ∧ Regs st xs (acc ++ [l]) R)
section
variable {st st' : Sq → List Sq}
theorem Regs.inj : ∀ {xs : List Sq} {acc R R' : List (List Sq)}, Regs st xs acc R → Regs st xs acc R' → R = R'
  | [], _, _, _, h, h' => (show _ = _ from h).trans (show _ = _ from h').symm
  | x :: xs, acc, R, R', h, h' => by
    rcases h with ⟨⟨l, hl, hx⟩, h⟩ | ⟨hn, l, hl, h⟩
    · rcases h' with ⟨_, h'⟩ | ⟨hn', _⟩
      · exact h.inj h'
      · exact absurd hx (hn' l hl)
    · rcases h' with ⟨⟨l', hl', hx⟩, _⟩ | ⟨_, l', hl', h'⟩
      · exact absurd hx (hn l' hl')
      · rw [hl.inj hl'] at h
        exact h.inj h'
theorem Regs.app : ∀ {xs ys : List Sq} {acc R : List (List Sq)}, Regs st (xs ++ ys) acc R ↔ ∃ M, Regs st xs acc M ∧ Regs st ys M R
  | [], ys, acc, R => ⟨fun h => ⟨acc, rfl, h⟩, fun ⟨M, h, h'⟩ => by rw [show M = acc from h] at h'; exact h'⟩
  | x :: xs, ys, acc, R => by
    constructor
    · rintro (⟨a, h⟩ | ⟨a, l, b, h⟩)
      · obtain ⟨M, h1, h2⟩ := Regs.app.mp h
        exact ⟨M, .inl ⟨a, h1⟩, h2⟩
      · obtain ⟨M, h1, h2⟩ := Regs.app.mp h
        exact ⟨M, .inr ⟨a, l, b, h1⟩, h2⟩
    · rintro ⟨M, ⟨a, h1⟩ | ⟨a, l, b, h1⟩, h2⟩
      · exact .inl ⟨a, Regs.app.mpr ⟨M, h1, h2⟩⟩
      · exact .inr ⟨a, l, b, Regs.app.mpr ⟨M, h1, h2⟩⟩
theorem Regs.snoc {xs : List Sq} {x : Sq} {acc R : List (List Sq)} (h : Regs st xs acc R) : ((∃ l ∈ R, x ∈ l) → Regs st (xs ++ [x]) acc R) ∧ (∀ l, (∀ m ∈ R, x ∉ m) → IsReg st x l → Regs st (xs ++ [x]) acc (R ++ [l])) :=
  ⟨fun hx => Regs.app.mpr ⟨R, h, .inl ⟨hx, rfl⟩⟩, fun l hn hl => Regs.app.mpr ⟨R, h, .inr ⟨hn, l, hl, rfl⟩⟩⟩
theorem Regs.congr : ∀ {xs : List Sq} {acc R : List (List Sq)}, (∀ x ∈ xs, ∀ q, Rch st x q ↔ Rch st' x q) → Regs st xs acc R → Regs st' xs acc R
  | [], _, _, _, h => h
  | x :: xs, acc, R, e, h => by
    have e' : ∀ y ∈ xs, ∀ q, Rch st y q ↔ Rch st' y q := fun y m => e y (List.mem_cons_of_mem _ m)
    rcases h with ⟨a, h⟩ | ⟨a, l, b, h⟩
    · exact .inl ⟨a, h.congr e'⟩
    · exact .inr ⟨a, l, ⟨b.1, fun q => by rw [b.2, e x List.mem_cons_self]⟩, h.congr e'⟩
theorem Regs.keep : ∀ {xs : List Sq} {acc R : List (List Sq)}, Regs st xs acc R → ∀ l ∈ acc, l ∈ R
  | [], _, _, h, l, m => by rw [show _ = _ from h]; exact m
  | x :: xs, acc, R, h, l, m => by
    rcases h with ⟨_, h⟩ | ⟨_, k, _, h⟩
    · exact h.keep l m
    · exact h.keep l (List.mem_append_left _ m)
theorem Regs.mem : ∀ {xs : List Sq} {acc R : List (List Sq)}, Regs st xs acc R → ∀ l ∈ R, l ∈ acc ∨ ∃ x ∈ xs, IsReg st x l
  | [], _, _, h, l, m => .inl (by rw [show _ = _ from h] at m; exact m)
  | x :: xs, acc, R, h, l, m => by
    rcases h with ⟨_, h⟩ | ⟨_, k, hk, h⟩
    · rcases h.mem l m with a | ⟨y, hy, r⟩
      · exact .inl a
      · exact .inr ⟨y, List.mem_cons_of_mem _ hy, r⟩
    · rcases h.mem l m with a | ⟨y, hy, r⟩
      · rcases List.mem_append.mp a with a | a
        · exact .inl a
        · rw [List.mem_singleton.mp a]; exact .inr ⟨x, List.mem_cons_self, hk⟩
      · exact .inr ⟨y, List.mem_cons_of_mem _ hy, r⟩
theorem Regs.len : ∀ {xs : List Sq} {acc R : List (List Sq)}, Regs st xs acc R → R.length ≤ acc.length + xs.length
  | [], _, _, h => by rw [show _ = _ from h]; simp
  | x :: xs, acc, R, h => by
    rcases h with ⟨_, h⟩ | ⟨_, k, hk, h⟩
    · have := h.len; rw [List.length_cons]; omega
    · have := h.len; rw [List.length_append, List.length_singleton] at this; rw [List.length_cons]; omega
end
/-! dicts as sets -/
theorem putQ_keys {β : Type} {kvs : List (Sq × β)} {q : Sq} {b : β} : (putQ kvs q b).map (·.1) = if hasK kvs q then kvs.map (·.1) else kvs.map (·.1) ++ [q] := by
  cases e : hasK kvs q with
  | true =>
    rw [putQ_old e, List.map_map, if_pos rfl]
    refine List.map_congr_left fun p _ => ?_
    show (if p.1 = q then (p.1, b) else p).1 = p.1
    split <;> rfl
  | false => rw [putQ_new e, List.map_append]; rfl
theorem hasK_put {β : Type} {kvs : List (Sq × β)} {q p : Sq} {b : β} : hasK (putQ kvs q b) p = true ↔ p = q ∨ hasK kvs p = true := by
  rw [hasK_iff, putQ_keys]
  cases e : hasK kvs q with
  | true =>
    rw [if_pos rfl]
    exact ⟨fun h => .inr (hasK_iff.mpr h), fun h => h.elim (fun h => by rw [h]; exact hasK_iff.mp e) hasK_iff.mp⟩
  | false =>
    rw [if_neg (by decide), List.mem_append, List.mem_singleton]
    exact ⟨fun h => h.elim (fun h => .inr (hasK_iff.mpr h)) .inl, fun h => h.elim .inr fun h => .inl (hasK_iff.mp h)⟩
structure KN {β : Type} (kvs : List (Sq × β)) (U : List Sq) : Prop where
  nd : (kvs.map (·.1)).Nodup
  sub : ∀ q ∈ kvs.map (·.1), q ∈ U
theorem KN.nil {β : Type} {U : List Sq} : KN ([] : List (Sq × β)) U := ⟨List.nodup_nil, fun _ h => by cases h⟩
theorem KN.put {β : Type} {kvs : List (Sq × β)} {U : List Sq} {q : Sq} {b : β} (h : KN kvs U) (hq : q ∈ U) : KN (putQ kvs q b) U := by
  constructor
  · rw [putQ_keys]
    cases e : hasK kvs q with
    | true => exact h.nd
    | false =>
      rw [if_neg (by decide), List.nodup_append]
      refine ⟨h.nd, by simp, fun x hx y hy => ?_⟩
      rw [List.mem_singleton.mp hy]
      rintro rfl
      exact hasK_false.mp e hx
  · intro p hp
    rcases hasK_put.mp (hasK_iff.mpr hp) with e | e
    · rw [e]; exact hq
    · exact h.sub p (hasK_iff.mp e)
theorem KN.len {β : Type} {kvs : List (Sq × β)} {U : List Sq} (h : KN kvs U) : kvs.length ≤ U.length := by
  have := nodup_le h.nd h.sub
  rwa [List.length_map] at this
end Y

/-! waters: neighbours, the margin, lands and waters of the program -/
namespace Y
open PySem PySem.Spec PyProof.Rows L2
def nbrs (q : Sq) : List Sq := [(q.1 + -1, q.2 + -1), (q.1 + -1, q.2 + 0), (q.1 + -1, q.2 + 1), (q.1 + 0, q.2 + -1), (q.1 + 0, q.2 + 1), (q.1 + 1, q.2 + -1), (q.1 + 1, q.2 + 0), (q.1 + 1, q.2 + 1)]
def neighboursM (a_square : Sq) : WP (List Sq) := (WP.pure a_square).bind fun a1_row_column => (WP.row (WP.pure ([] : List Sq))).bind fun a2_found => (WP.row (WP.consE (WP.neg (WP.pure (1 : Int))) (WP.consE (WP.pure (0 : Int)) (WP.consE (WP.pure (1 : Int)) (WP.pure []))))).bind fun xs3 => WP.after (WP.loop (γ := (List Sq)) (fun c3 (y3 : (List Sq)) => (WP.row (WP.consE (WP.neg (WP.pure (1 : Int))) (WP.consE (WP.pure (0 : Int)) (WP.consE (WP.pure (1 : Int)) (WP.pure []))))).bind fun xs4 => WP.after (WP.loop (γ := (List Sq)) (fun c4 (y4 : (List Sq)) => ((WP.or (WP.ne (WP.pure c3) (WP.pure (0 : Int))) (WP.ne (WP.pure c4) (WP.pure (0 : Int)))).bind fun b => WP.cond b (((WP.pair (WP.add (WP.pure a1_row_column.1) (WP.pure c3)) (WP.add (WP.pure a1_row_column.2) (WP.pure c4))).bind fun a => WP.req (y4.length < 100000) (y4 ++ [a])).bind fun a6_found => (WP.pure a6_found)) ((WP.pure y4))).bind fun (y5 : (List Sq)) => (WP.pure (.nx y5))) xs4 y3) (fun (z4 : (List Sq)) => (WP.pure (.nx z4))) (fun r => (WP.pure (.rt r)))) xs3 a2_found) (fun (z3 : (List Sq)) => (WP.pure z3)) (fun r => (WP.pure r))
theorem neighbours_is (q : Sq) : Is (neighboursM q) (nbrs q) := by
  intro n Q h
  exact ⟨by simp, by simp, by simp, by simp, by simp, by simp, by simp, by simp, by simp, by simp, by simp, by simp, by simp, h⟩
theorem mem_nbrs {a p : Sq} : p ∈ nbrs a ↔ (a.1 - 1 ≤ p.1 ∧ p.1 ≤ a.1 + 1 ∧ a.2 - 1 ≤ p.2 ∧ p.2 ≤ a.2 + 1) ∧ p ≠ a := by
  obtain ⟨r, c⟩ := a
  obtain ⟨x, y⟩ := p
  unfold nbrs
  simp only [List.mem_cons, List.not_mem_nil, or_false, Prod.mk.injEq, ne_eq]
  omega
def isNr (ch : List Str) (q : Sq) : Bool := (decide (-1 ≤ q.1) && decide (q.1 ≤ (ch.length : Int))) && (decide (-1 ≤ q.2) && decide (q.2 ≤ (wid ch : Int)))
theorem isNr_iff {ch : List Str} {q : Sq} : isNr ch q = true ↔ -1 ≤ q.1 ∧ q.1 ≤ (ch.length : Int) ∧ -1 ≤ q.2 ∧ q.2 ≤ (wid ch : Int) := by
  unfold isNr
  simp only [Bool.and_eq_true, decide_eq_true_eq]
  exact ⟨fun ⟨⟨a, b⟩, c, d⟩ => ⟨a, b, c, d⟩, fun ⟨a, b, c, d⟩ => ⟨⟨a, b⟩, c, d⟩⟩
/-- water, of the chart or the margin -/
def isWt (ch : List Str) (q : Sq) : Bool := isNr ch q && !isLd ch q
theorem isWt_iff {ch : List Str} {q : Sq} : isWt ch q = true ↔ isNr ch q = true ∧ isLd ch q = false := by
  unfold isWt
  rw [Bool.and_eq_true, Bool.not_eq_true']
def wtBeside (ch : List Str) (q : Sq) : List Sq := (nbrs q).filter (isWt ch)
theorem mem_wtB {ch : List Str} {p q : Sq} : q ∈ wtBeside ch p ↔ q ∈ nbrs p ∧ isWt ch q = true := List.mem_filter
theorem rch_wt {ch : List Str} {s q : Sq} (h : Rch (wtBeside ch) s q) : q = s ∨ isWt ch q = true := by
  induction h with
  | refl => exact .inl rfl
  | step _ h _ => exact .inr (mem_wtB.mp h).2
/-- the squares of the chart and the margin, in order: the first i rows -/
def mcRow (ch : List Str) (r : Int) : List Sq := (List.range (wid ch + 2)).map fun (c : Nat) => ((r, (c : Int) - 1) : Sq)
def mcTo (ch : List Str) (i : Nat) : List Sq := (List.range i).flatMap fun (r : Nat) => mcRow ch ((r : Int) - 1)
def mc (ch : List Str) : List Sq := mcTo ch (ch.length + 2)
theorem mem_mcTo {ch : List Str} {i : Nat} {q : Sq} : q ∈ mcTo ch i ↔ -1 ≤ q.1 ∧ q.1 < (i : Int) - 1 ∧ -1 ≤ q.2 ∧ q.2 ≤ (wid ch : Int) := by
  unfold mcTo mcRow
  simp only [List.mem_flatMap, List.mem_map, List.mem_range]
  constructor
  · rintro ⟨r, hr, c, hc, rfl⟩
    dsimp only; omega
  · rintro ⟨h1, h2, h3, h4⟩
    exact ⟨(q.1 + 1).toNat, by omega, (q.2 + 1).toNat, by omega, by apply Prod.ext <;> dsimp only <;> omega⟩
theorem mem_mc {ch : List Str} {q : Sq} : q ∈ mc ch ↔ isNr ch q = true := by
  unfold mc
  rw [mem_mcTo, isNr_iff]; omega
def landList (ch : List Str) : List Sq := (allSq ch).filter (isLd ch)
def waterList (ch : List Str) : List Sq := (mc ch).filter (isWt ch)
abbrev LandsOf (ch : List Str) (R : List (List Sq)) : Prop := Regs (ldBeside ch) (landList ch) [] R
abbrev WatersOf (ch : List Str) (R : List (List Sq)) : Prop := Regs (wtBeside ch) (waterList ch) [] R
theorem mem_landList {ch : List Str} {q : Sq} : q ∈ landList ch ↔ isLd ch q = true := by
  unfold landList
  rw [List.mem_filter, mem_allSq]
  exact ⟨fun h => h.2, fun h => ⟨isLd_sq h, h⟩⟩
theorem mem_waterList {ch : List Str} {q : Sq} : q ∈ waterList ch ↔ isWt ch q = true := by
  unfold waterList
  rw [List.mem_filter, mem_mc]
  exact ⟨fun h => h.2, fun h => ⟨(isWt_iff.mp h).1, h⟩⟩
end Y

/-! the laws' own floods (k07 and others) -/
namespace Y
open PySem PySem.Spec PyProof.Rows L2
def law_at7M (a_chart : (List Str)) (a_r : Int) (a_c : Int) : WP Bool := (WP.and (WP.chain (fun i j => decide (i ≤ j)) (fun i j => decide (i < j)) (WP.pure (0 : Int)) (WP.pure a_r) (WP.len (WP.pure a_chart))) (WP.and (WP.chain (fun i j => decide (i ≤ j)) (fun i j => decide (i < j)) (WP.pure (0 : Int)) (WP.pure a_c) (WP.lenS (WP.ix (WP.pure a_chart) (WP.pure (0 : Int))))) (WP.eq (WP.ixS (WP.ix (WP.pure a_chart) (WP.pure a_r)) (WP.pure a_c)) (WP.pure (Str.ofString "x"))))).bind fun r1 => (WP.pure r1)
theorem law_at7_is {ch : List Str} (c : Ch ch) (r k : Int) : Is (law_at7M ch r k) (isLd ch (r, k)) := by
  refine Is.ret (Is.eq (Is.and (Is.chain Is.pure Is.pure fun _ => Is.len Is.pure) fun h1 => Is.and (x := decide ((0 : Int) ≤ k) && decide (k < (wid ch : Int))) (Is.chain Is.pure Is.pure fun _ => Is.wid0 c) fun h2 => Is.eqv (x := sgn (ixD ch r) k) (y := (Str.ofString "x")) ?_ Is.pure) ?_)
  · simp only [Bool.and_eq_true, decide_eq_true_eq] at h1 h2
    exact Is.sign c (q := (r, k)) (isSq_iff.mpr ⟨h1.1, h1.2, h2.1, h2.2⟩)
  · unfold isLd isSq
    simp only [Bool.and_assoc]
def ok7 (ch : List Str) (wet : Bool) (q : Sq) : Bool := if wet then isWt ch q else isLd ch q
end Y

/-! squares of a chart changed; the drawn grid of k07 and others -/
namespace Y
open PySem PySem.Spec PyProof.Rows L2
def sgK (b : Bool) : Nat := if b then 120 else 46
theorem sgK_or (b : Bool) : sgK b = 120 ∨ sgK b = 46 := by cases b <;> simp [sgK]
def putS (ch : List Str) (qs : List Sq) (b : Bool) : List Str := qs.foldl (fun c q => if isSq ch q then setCh c q (sgK b) else c) ch
theorem putS_ok {ch : List Str} (c : GC ch) (b : Bool) : ∀ (qs : List Sq) {acc : List Str}, GC acc → Sz acc ch → GC (qs.foldl (fun c q => if isSq ch q then setCh c q (sgK b) else c) acc) ∧ Sz (qs.foldl (fun c q => if isSq ch q then setCh c q (sgK b) else c) acc) ch
  | [], acc, g, z => ⟨g, z⟩
  | q :: qs, acc, g, z => by
    rw [List.foldl_cons]
    cases e : isSq ch q with
    | true =>
      have h1 : isSq acc q = true := by rw [z.sq]; exact e
      exact putS_ok c b qs (gc_set g h1 (sgK_or b)) ((sz_set g.good h1 _).trans z)
    | false => exact putS_ok c b qs g z
theorem putS_ld {ch : List Str} (c : GC ch) (b : Bool) : ∀ (qs : List Sq) {acc : List Str}, GC acc → Sz acc ch → ∀ p, isLd (qs.foldl (fun c q => if isSq ch q then setCh c q (sgK b) else c) acc) p = if isSq ch p = true ∧ p ∈ qs then b else isLd acc p
  | [], acc, g, z, p => by rw [if_neg (fun h => by cases h.2)]; rfl
  | q :: qs, acc, g, z, p => by
    rw [List.foldl_cons]
    cases e : isSq ch q with
    | true =>
      have h1 : isSq acc q = true := by rw [z.sq]; exact e
      rw [if_pos rfl, putS_ld c b qs (gc_set g h1 (sgK_or b)) ((sz_set g.good h1 _).trans z) p, setCh_ld g.good h1]
      by_cases hp : p = q
      · subst hp
        have h2 : isSq ch p = true ∧ p ∈ p :: qs := ⟨e, List.mem_cons_self⟩
        have : decide (sgK b = 120) = b := by cases b <;> rfl
        rw [if_pos (show p = p from rfl), this, if_pos h2]; split <;> rfl
      · rw [if_neg hp]
        have : (isSq ch p = true ∧ p ∈ q :: qs) ↔ (isSq ch p = true ∧ p ∈ qs) := by rw [List.mem_cons]; exact ⟨fun h => ⟨h.1, h.2.resolve_left hp⟩, fun h => ⟨h.1, .inr h.2⟩⟩
        simp only [this]
    | false =>
      rw [if_neg (by decide), putS_ld c b qs g z p]
      have : (isSq ch p = true ∧ p ∈ q :: qs) ↔ (isSq ch p = true ∧ p ∈ qs) := by
        rw [List.mem_cons]
        exact ⟨fun h => ⟨h.1, h.2.resolve_left fun e2 => by rw [e2, e] at h; cases h.1⟩, fun h => ⟨h.1, .inr h.2⟩⟩
      simp only [this]
end Y

/-! the sea and the lakes; joined and drained -/
namespace Y
open PySem PySem.Spec PyProof.Rows L2
theorem Regs.pre {st : Sq → List Sq} : ∀ {xs : List Sq} {acc R : List (List Sq)}, Regs st xs acc R → ∃ t, R = acc ++ t
  | [], _, _, h => ⟨[], by rw [show _ = _ from h, List.append_nil]⟩
  | x :: xs, acc, R, h => by
    rcases h with ⟨_, h⟩ | ⟨_, l, _, h⟩
    · exact h.pre
    · obtain ⟨t, e⟩ := h.pre
      exact ⟨l :: t, by rw [e, List.append_assoc]; rfl⟩
theorem wet_out {ch : List Str} {q : Sq} (h : isNr ch q = true) (h' : isSq ch q = false) : isWt ch q = true := isWt_iff.mpr ⟨h, by
  cases e : isLd ch q with
  | true => rw [isLd_sq e] at h'; cases h'
  | false => rfl⟩
theorem sq_no {ch : List Str} {q : Sq} (h : q.1 < 0 ∨ (ch.length : Int) ≤ q.1 ∨ q.2 < 0 ∨ (wid ch : Int) ≤ q.2) : isSq ch q = false := by
  cases e : isSq ch q with
  | false => rfl
  | true => rw [isSq_iff] at e; omega
theorem corner_wt (ch : List Str) : isWt ch (-1, -1) = true := wet_out (isNr_iff.mpr ⟨by show (-1 : Int) ≤ -1; omega, by show (-1 : Int) ≤ _; omega, by show (-1 : Int) ≤ -1; omega, by show (-1 : Int) ≤ _; omega⟩) (sq_no (.inl (by show (-1 : Int) < 0; omega)))
theorem waterList_cons (ch : List Str) : ∃ t, waterList ch = (-1, -1) :: t := by
  unfold waterList mc
  have e : mcTo ch (ch.length + 2) = (-1, -1) :: (mcTo ch (ch.length + 2)).tail := by
    have h : ((mcTo ch (ch.length + 2)).head?) = some ((-1 : Int), (-1 : Int)) := by
      unfold mcTo mcRow
      rw [List.range_succ_eq_map (n := wid ch + 1), List.range_succ_eq_map (n := ch.length + 1), List.flatMap_cons]
      rfl
    cases e2 : mcTo ch (ch.length + 2) with
    | nil => rw [e2] at h; cases h
    | cons a t => rw [e2] at h; cases h; rfl
  rw [e, List.filter_cons_of_pos (corner_wt ch)]
  exact ⟨_, rfl⟩
theorem WatersOf.cons {ch : List Str} {R : List (List Sq)} (h : WatersOf ch R) : ∃ S L, R = S :: L ∧ IsReg (wtBeside ch) (-1, -1) S := by
  obtain ⟨t, e⟩ := waterList_cons ch
  unfold WatersOf at h
  rw [e] at h
  rcases h with ⟨⟨l, hl, _⟩, _⟩ | ⟨_, l, hl, h⟩
  · cases hl
  · obtain ⟨t, e⟩ := h.pre
    exact ⟨l, t, e, hl⟩
theorem LandsOf.in {ch : List Str} {R : List (List Sq)} (h : LandsOf ch R) : ∀ l ∈ R, ∀ q ∈ l, isLd ch q = true := fun l hl q hq => by
  rcases h.mem l hl with a | ⟨x, hx, r⟩
  · cases a
  · exact (rch_land ((r.2 q).mp hq)).elim (fun e => e ▸ mem_landList.mp hx) id
theorem WatersOf.in {ch : List Str} {R : List (List Sq)} (h : WatersOf ch R) : ∀ l ∈ R, ∀ q ∈ l, isWt ch q = true := fun l hl q hq => by
  rcases h.mem l hl with a | ⟨x, hx, r⟩
  · cases a
  · exact (rch_wt ((r.2 q).mp hq)).elim (fun e => e ▸ mem_waterList.mp hx) id
theorem Regs.srt {st : Sq → List Sq} {xs : List Sq} {R : List (List Sq)} (h : Regs st xs [] R) : ∀ l ∈ R, l.Pairwise ltQ := fun l hl => by
  rcases h.mem l hl with a | ⟨x, hx, r⟩
  · cases a
  · exact r.1
end Y

/-! rings: closed walks, inside and outside -/
namespace Y
open PySem PySem.Spec PyProof.Rows L2
section
variable {α β : Type}
def pairsFrom (a : α) : List α → List (α × α)
  | [] => []
  | x :: xs => (a, x) :: pairsFrom x xs
def lastD (a : α) : List α → α
  | [] => a
  | x :: xs => lastD x xs
/-- the steps of a closed walk: (the one before, this one), beginning with (last, first) -/
def cyc : List α → List (α × α)
  | [] => []
  | x :: xs => pairsFrom (lastD x xs) (x :: xs)
theorem lastD_mem {a : α} : ∀ {l : List α}, lastD a l ∈ a :: l
  | [] => List.mem_cons_self
  | x :: xs => List.mem_cons_of_mem _ (lastD_mem (a := x) (l := xs))
theorem lastD_map (f : α → β) : ∀ (a : α) (l : List α), f (lastD a l) = lastD (f a) (l.map f)
  | _, [] => rfl
  | _, x :: xs => lastD_map f x xs
theorem pairsFrom_map (f : α → β) : ∀ (a : α) (l : List α), (pairsFrom a l).map (fun p => (f p.1, f p.2)) = pairsFrom (f a) (l.map f)
  | _, [] => rfl
  | a, x :: xs => by
    show _ :: _ = _ :: _
    rw [pairsFrom_map f x xs]
theorem cyc_map (f : α → β) (l : List α) : (cyc l).map (fun p => (f p.1, f p.2)) = cyc (l.map f) := by
  cases l with
  | nil => rfl
  | cons x xs =>
    show (pairsFrom _ _).map _ = pairsFrom _ _
    rw [pairsFrom_map, lastD_map f]; rfl
theorem pairsFrom_mem {a : α} : ∀ {l : List α} {p : α × α}, p ∈ pairsFrom a l → (p.1 = a ∨ p.1 ∈ l) ∧ p.2 ∈ l
  | x :: xs, p, h => by
    rcases List.mem_cons.mp h with e | h
    · subst e; exact ⟨.inl rfl, List.mem_cons_self⟩
    · obtain ⟨h1, h2⟩ := pairsFrom_mem h
      exact ⟨.inr (h1.elim (fun e => e ▸ List.mem_cons_self) (List.mem_cons_of_mem _)), List.mem_cons_of_mem _ h2⟩
theorem cyc_mem {l : List α} {p : α × α} (h : p ∈ cyc l) : p.1 ∈ l ∧ p.2 ∈ l := by
  cases l with
  | nil => cases h
  | cons x xs =>
    obtain ⟨h1, h2⟩ := pairsFrom_mem h
    exact ⟨h1.elim (fun e => e ▸ lastD_mem) id, h2⟩
/-- a parity -/
def par (f : α → Bool) : List α → Bool
  | [] => false
  | x :: xs => xor (f x) (par f xs)
theorem par_map (f : β → Bool) (g : α → β) : ∀ l : List α, par f (l.map g) = par (fun x => f (g x)) l
  | [] => rfl
  | x :: xs => by show xor _ _ = xor _ _; rw [par_map f g xs]
theorem par_congr {f g : α → Bool} : ∀ {l : List α}, (∀ x ∈ l, f x = g x) → par f l = par g l
  | [], _ => rfl
  | x :: xs, h => by show xor _ _ = xor _ _; rw [h x List.mem_cons_self, par_congr fun y m => h y (List.mem_cons_of_mem _ m)]
theorem par_xor (f g : α → Bool) : ∀ l : List α, par (fun x => xor (f x) (g x)) l = xor (par f l) (par g l)
  | [] => rfl
  | x :: xs => by
    show xor (xor _ _) _ = xor (xor _ _) (xor _ _)
    rw [par_xor f g xs]
    cases f x <;> cases g x <;> cases par f xs <;> cases par g xs <;> rfl
theorem par_filter (f p : α → Bool) : ∀ l : List α, (∀ x ∈ l, p x = false → f x = false) → par f (l.filter p) = par f l
  | [], _ => rfl
  | x :: xs, h => by
    have ih := par_filter f p xs fun y m => h y (List.mem_cons_of_mem _ m)
    cases e : p x with
    | true => rw [List.filter_cons_of_pos e]; show xor _ _ = xor _ _; rw [ih]
    | false => rw [List.filter_cons_of_neg (by rw [e]; decide), ih]; show _ = xor _ _; rw [h x List.mem_cons_self e, Bool.false_xor]
theorem par_bd (A : α → Bool) : ∀ (a : α) (l : List α), par (fun p : α × α => xor (A p.1) (A p.2)) (pairsFrom a l) = xor (A a) (A (lastD a l))
  | a, [] => by show false = xor (A a) (A a); cases A a <;> rfl
  | a, x :: xs => by
    show xor (xor (A a) (A x)) (par _ (pairsFrom x xs)) = xor (A a) (A (lastD x xs))
    rw [par_bd A x xs]
    cases A a <;> cases A x <;> cases A (lastD x xs) <;> rfl
/-- a closed walk leaves a set as often as it enters it -/
theorem par_cyc (A : α → Bool) (l : List α) : par (fun p : α × α => xor (A p.1) (A p.2)) (cyc l) = false := by
  cases l with
  | nil => rfl
  | cons x xs =>
    unfold cyc
    rw [par_bd]
    show xor (A (lastD x xs)) (A (lastD x xs)) = false
    cases A (lastD x xs) <;> rfl
theorem par_none {f : α → Bool} : ∀ {l : List α}, (∀ x ∈ l, f x = false) → par f l = false
  | [], _ => rfl
  | x :: xs, h => by show xor _ _ = false; rw [h x List.mem_cons_self, par_none fun y m => h y (List.mem_cons_of_mem _ m)]; rfl
theorem par_one [DecidableEq α] {a : α} : ∀ {l : List α}, l.Nodup → a ∈ l → par (fun x => decide (x = a)) l = true
  | x :: xs, nd, h => by
    have h1 := List.nodup_cons.mp nd
    show xor (decide (x = a)) (par (fun x => decide (x = a)) xs) = true
    by_cases e : x = a
    · subst e
      rw [decide_eq_true (show x = x from rfl), par_none (f := fun y => decide (y = x)) fun y m => decide_eq_false fun e => h1.1 (by rw [← e]; exact m)]; rfl
    · rw [decide_eq_false e, par_one h1.2 ((List.mem_cons.mp h).resolve_left fun z => e z.symm)]; rfl
theorem firsts : ∀ (a : α) (l : List α), (pairsFrom a l).map (·.1) ++ [lastD a l] = a :: l
  | _, [] => rfl
  | a, x :: xs => by
    show a :: ((pairsFrom x xs).map (·.1) ++ [lastD x xs]) = _
    rw [firsts x xs]
theorem cyc_firsts {l : List α} : ((cyc l).map (·.1)).Perm l := by
  cases l with
  | nil => exact List.Perm.refl _
  | cons x xs =>
    show (lastD x xs :: (pairsFrom x xs).map (·.1)).Perm (x :: xs)
    rw [← firsts x xs]
    exact List.perm_append_comm (l₁ := [_])
/-- without those that are equal to the one before -/
def dedF [DecidableEq α] (a : α) : List α → List α
  | [] => []
  | x :: xs => if x = a then dedF a xs else x :: dedF x xs
theorem dedF_pairs [DecidableEq α] : ∀ (a : α) (l : List α), pairsFrom a (dedF a l) = (pairsFrom a l).filter fun p => !decide (p.2 = p.1)
  | _, [] => rfl
  | a, x :: xs => by
    show pairsFrom a (if x = a then dedF a xs else x :: dedF x xs) = ((a, x) :: pairsFrom x xs).filter fun p => !decide (p.2 = p.1)
    by_cases e : x = a
    · subst e
      rw [if_pos rfl, List.filter_cons_of_neg (by simp)]
      exact dedF_pairs x xs
    · rw [if_neg e, List.filter_cons_of_pos (by simp [e])]
      show _ :: _ = _ :: _
      rw [dedF_pairs x xs]
theorem dedF_last [DecidableEq α] : ∀ (a : α) (l : List α), lastD a (dedF a l) = lastD a l
  | _, [] => rfl
  | a, x :: xs => by
    show lastD a (if x = a then dedF a xs else x :: dedF x xs) = lastD x xs
    by_cases e : x = a
    · subst e
      rw [if_pos rfl]
      exact dedF_last x xs
    · rw [if_neg e]
      exact dedF_last x xs
def dedC [DecidableEq α] : List α → List α
  | [] => []
  | x :: xs => dedF (lastD x xs) (x :: xs)
theorem dedC_cyc [DecidableEq α] (l : List α) : cyc (dedC l) = (cyc l).filter fun p => !decide (p.2 = p.1) := by
  cases l with
  | nil => rfl
  | cons x xs =>
    show cyc (dedF (lastD x xs) (x :: xs)) = (pairsFrom (lastD x xs) (x :: xs)).filter _
    rw [← dedF_pairs]
    have h := dedF_last (lastD x xs) (x :: xs)
    cases e : dedF (lastD x xs) (x :: xs) with
    | nil => rfl
    | cons y ys =>
      rw [e] at h
      show pairsFrom (lastD y ys) (y :: ys) = pairsFrom (lastD x xs) (y :: ys)
      rw [show lastD y ys = lastD x xs from h]
end
/-! inside -/
def rightB (x : Sq) (s : Sq × Sq) : Bool := (decide (s.1.1 = x.1) && decide (s.2.1 = x.1 + 1) && decide (x.2 < s.1.2)) || (decide (s.2.1 = x.1) && decide (s.1.1 = x.1 + 1) && decide (x.2 < s.2.2))
def insB (R : List Sq) (x : Sq) : Bool := par (rightB x) (cyc R)
theorem rightB_iff {x : Sq} {s : Sq × Sq} : rightB x s = true ↔ (s.1.1 = x.1 ∧ s.2.1 = x.1 + 1 ∧ x.2 < s.1.2) ∨ (s.2.1 = x.1 ∧ s.1.1 = x.1 + 1 ∧ x.2 < s.2.2) := by
  unfold rightB
  simp only [Bool.or_eq_true, Bool.and_eq_true, decide_eq_true_eq]
  constructor
  · rintro (⟨⟨a, b⟩, c⟩ | ⟨⟨a, b⟩, c⟩)
    · exact .inl ⟨a, b, c⟩
    · exact .inr ⟨a, b, c⟩
  · rintro (⟨a, b, c⟩ | ⟨a, b, c⟩)
    · exact .inl ⟨⟨a, b⟩, c⟩
    · exact .inr ⟨⟨a, b⟩, c⟩
/-- a king's step or none -/
def King (p q : Sq) : Prop := p.1 - 1 ≤ q.1 ∧ q.1 ≤ p.1 + 1 ∧ p.2 - 1 ≤ q.2 ∧ q.2 ≤ p.2 + 1
end Y

/-! shores: the ring around a land -/
namespace Y
open PySem PySem.Spec PyProof.Rows L2
abbrev Shore := Sq × Sq
def nxSh (ld : Sq → Bool) (s : Shore) : Shore :=
  let d1 := s.2.2 - s.1.2
  let d2 := s.1.1 - s.2.1
  let bl : Sq := (s.1.1 + d1, s.1.2 + d2)
  let bw : Sq := (s.2.1 + d1, s.2.2 + d2)
  if !ld bl then (s.1, bl) else if !ld bw then (bl, bw) else (bw, s.2)
/-- a shore -/
structure Sh (ld : Sq → Bool) (s : Shore) : Prop where
  l : ld s.1 = true
  w : ld s.2 = false
  b : s.2 ∈ sides s.1
theorem mem_sides {p q : Sq} : q ∈ sides p ↔ (q.1 = p.1 - 1 ∧ q.2 = p.2) ∨ (q.1 = p.1 ∧ q.2 = p.2 - 1) ∨ (q.1 = p.1 ∧ q.2 = p.2 + 1) ∨ (q.1 = p.1 + 1 ∧ q.2 = p.2) := by
  obtain ⟨a, b⟩ := p
  obtain ⟨c, d⟩ := q
  unfold sides
  simp only [List.mem_cons, List.not_mem_nil, or_false, Prod.mk.injEq]
/-- where a shore leads: the three turns -/
theorem nxSh_cases {ld : Sq → Bool} {s : Shore} (h : Sh ld s) :
    let t := nxSh ld s
    Sh ld t ∧ ((t.1 = s.1 ∧ t.2.1 = s.1.1 + (s.2.2 - s.1.2) ∧ t.2.2 = s.1.2 + (s.1.1 - s.2.1)) ∨
      (t.1.1 = s.1.1 + (s.2.2 - s.1.2) ∧ t.1.2 = s.1.2 + (s.1.1 - s.2.1) ∧ t.2.1 = s.2.1 + (s.2.2 - s.1.2) ∧ t.2.2 = s.2.2 + (s.1.1 - s.2.1)) ∨
      (t.2 = s.2 ∧ t.1.1 = s.2.1 + (s.2.2 - s.1.2) ∧ t.1.2 = s.2.2 + (s.1.1 - s.2.1) ∧ ld (s.1.1 + (s.2.2 - s.1.2), s.1.2 + (s.1.1 - s.2.1)) = true)) := by
  have hb := mem_sides.mp h.b
  unfold nxSh
  dsimp only
  cases e1 : ld (s.1.1 + (s.2.2 - s.1.2), s.1.2 + (s.1.1 - s.2.1)) with
  | false =>
    simp only [Bool.not_false, if_true]
    exact ⟨⟨h.l, e1, mem_sides.mpr (by dsimp only; omega)⟩, .inl ⟨trivial, trivial, trivial⟩⟩
  | true =>
    simp only [Bool.not_true, if_false, Bool.false_eq_true]
    cases e2 : ld (s.2.1 + (s.2.2 - s.1.2), s.2.2 + (s.1.1 - s.2.1)) with
    | false =>
      simp only [Bool.not_false, if_true]
      exact ⟨⟨e1, e2, mem_sides.mpr (by dsimp only; omega)⟩, .inr (.inl ⟨trivial, trivial, trivial, trivial⟩)⟩
    | true =>
      simp only [Bool.not_true, if_false, Bool.false_eq_true]
      exact ⟨⟨e2, h.w, mem_sides.mpr (by dsimp only; omega)⟩, .inr (.inr ⟨trivial, trivial, trivial, trivial⟩)⟩
/-- a shore is what the one behind it says -/
theorem nxSh_inj {ld : Sq → Bool} {s t : Shore} (hs : Sh ld s) (ht : Sh ld t) (h : nxSh ld s = nxSh ld t) : s = t := by
  have a := (nxSh_cases hs).2
  have b := (nxSh_cases ht).2
  rw [← h] at b
  have hu := (nxSh_cases hs).1
  have sb := mem_sides.mp hs.b
  have tb := mem_sides.mp ht.b
  have ls := hs.l
  have ws := hs.w
  have lt := ht.l
  have wt := ht.w
  revert a b hu
  generalize nxSh ld s = u
  intro a b hu
  have ub := mem_sides.mp hu.b
  have lu := hu.l
  have wu := hu.w
  obtain ⟨⟨s11, s12⟩, s21, s22⟩ := s
  obtain ⟨⟨t11, t12⟩, t21, t22⟩ := t
  obtain ⟨⟨u11, u12⟩, u21, u22⟩ := u
  dsimp only at *
  have no : ∀ {a b c d : Int}, ld (a, b) = true → ld (c, d) = false → a = c → b = d → False := fun hp hq e1 e2 => by
    rw [e1, e2, hq] at hp; cases hp
  simp only [Prod.mk.injEq] at a b ⊢
  rcases a with a | a | a <;> rcases b with b | b | b
  · omega
  · exact (no lt ws (by omega) (by omega)).elim
  · exact (no b.2.2.2 ws (by omega) (by omega)).elim
  · exact (no ls wt (by omega) (by omega)).elim
  · omega
  · exact (no lt ws (by omega) (by omega)).elim
  · exact (no a.2.2.2 wt (by omega) (by omega)).elim
  · exact (no ls wt (by omega) (by omega)).elim
  · omega
end Y

/-! the ring around a land has it inside -/
namespace Y
open PySem PySem.Spec PyProof.Rows L2
def stp (ld : Sq → Bool) (q : Sq) : List Sq := (sides q).filter ld
structure Orb (ld : Sq → Bool) (s0 : Shore) (O : List Shore) : Prop where
  nd : O.Nodup
  mem : s0 ∈ O
  sh : ∀ s ∈ O, Sh ld s
  nx : ∀ p ∈ cyc O, p.2 = nxSh ld p.1
  con : ∀ s ∈ O, Rch (stp ld) s0.1 s.1
theorem seconds {α : Type} : ∀ (a : α) (l : List α), (pairsFrom a l).map (·.2) = l
  | _, [] => rfl
  | a, x :: xs => by show x :: _ = _; rw [seconds x xs]
theorem cyc_seconds {α : Type} (l : List α) : (cyc l).map (·.2) = l := by
  cases l with
  | nil => rfl
  | cons x xs => exact seconds _ _
theorem sh_con {ld : Sq → Bool} {s : Shore} (h : Sh ld s) : Rch (stp ld) s.1 (nxSh ld s).1 := by
  obtain ⟨ht, c⟩ := nxSh_cases h
  have hb := mem_sides.mp h.b
  revert ht c
  generalize nxSh ld s = t
  intro ht c
  rcases c with c | c | c
  · rw [c.1]; exact .refl
  · exact Rch.one (List.mem_filter.mpr ⟨mem_sides.mpr (by omega), ht.l⟩)
  · exact .step (Rch.one (List.mem_filter.mpr ⟨mem_sides.mpr (by dsimp only; omega), c.2.2.2⟩)) (List.mem_filter.mpr ⟨mem_sides.mpr (by dsimp only; omega), ht.l⟩)
theorem king_nx {ld : Sq → Bool} {s : Shore} (h : Sh ld s) : King s.2 (nxSh ld s).2 := by
  obtain ⟨ht, c⟩ := nxSh_cases h
  have hb := mem_sides.mp h.b
  revert ht c
  generalize nxSh ld s = t
  intro ht c
  unfold King
  rcases c with c | c | c
  · omega
  · omega
  · rw [c.1]; omega
theorem par3 {α : Type} (f g h : α → Bool) (l : List α) : par (fun x => xor (f x) (xor (g x) (h x))) l = xor (par f l) (xor (par g l) (par h l)) := by
  rw [par_xor f (fun x => xor (g x) (h x)) l, par_xor g h l]
def ringOf (O : List Shore) : List Sq := dedC (O.map (·.2))
section
variable {ld : Sq → Bool} {s0 : Shore} {O : List Shore} (o : Orb ld s0 O)
include o
theorem Orb.cyc_ring : cyc (ringOf O) = ((cyc O).map fun p => (p.1.2, p.2.2)).filter fun p => !decide (p.2 = p.1) := by
  unfold ringOf
  rw [dedC_cyc, ← cyc_map (fun s : Shore => s.2)]
theorem Orb.step {p : Sq × Sq} (h : p ∈ cyc (ringOf O)) : King p.1 p.2 ∧ p.2 ≠ p.1 := by
  rw [o.cyc_ring] at h
  obtain ⟨h1, h2⟩ := List.mem_filter.mp h
  obtain ⟨q, hq, rfl⟩ := List.mem_map.mp h1
  refine ⟨?_, of_decide_eq_false (by rwa [Bool.not_eq_true'] at h2)⟩
  have e := o.nx q hq
  show King q.1.2 q.2.2
  rw [e]
  exact king_nx (o.sh _ (cyc_mem hq).1)
end
/-- the first square of a land -/
structure First (ld : Sq → Bool) (l0 : Sq) : Prop where
  l : ld l0 = true
  min : ∀ q, Rch (stp ld) l0 q → l0.1 < q.1 ∨ (l0.1 = q.1 ∧ l0.2 ≤ q.2)
section
variable {ld : Sq → Bool} {l0 : Sq} {O : List Shore} (f : First ld l0) (o : Orb ld (l0, (l0.1 - 1, l0.2)) O)
include f o
theorem Orb.only {s : Shore} (hs : s ∈ O) (h1 : s.2.1 = l0.1 - 1) (h2 : s.2.2 = l0.2) : s = (l0, (l0.1 - 1, l0.2)) := by
  have hb := mem_sides.mp (o.sh s hs).b
  have hm := f.min _ (o.con s hs)
  obtain ⟨⟨a, b⟩, c, d⟩ := s
  obtain ⟨r, k⟩ := l0
  simp only [Prod.mk.injEq] at *
  omega
theorem Orb.first_sh : Sh ld (l0, (l0.1 - 1, l0.2)) := o.sh _ o.mem
theorem Orb.left_water : ld (l0.1, l0.2 - 1) = false := by
  cases e : ld (l0.1, l0.2 - 1) with
  | false => rfl
  | true =>
    have := f.min _ (Rch.one (List.mem_filter.mpr ⟨mem_sides.mpr (by dsimp only; omega), e⟩))
    dsimp only at this
    omega
theorem Orb.left_sh : Sh ld (l0, (l0.1, l0.2 - 1)) := ⟨f.l, o.left_water f, mem_sides.mpr (by dsimp only; omega)⟩
theorem Orb.left_nx : nxSh ld (l0, (l0.1, l0.2 - 1)) = (l0, (l0.1 - 1, l0.2)) := by
  have hw := (o.first_sh f).w
  unfold nxSh
  dsimp only at hw ⊢
  have e : ld (l0.1 + (l0.2 - 1 - l0.2), l0.2 + (l0.1 - l0.1)) = false := by
    rw [show l0.1 + (l0.2 - 1 - l0.2) = l0.1 - 1 by omega, show l0.2 + (l0.1 - l0.1) = l0.2 by omega]; exact hw
  rw [e]
  simp only [Bool.not_false, if_true, Prod.mk.injEq, true_and]
  omega
/-- what stands behind the square above the first -/
theorem Orb.succ : ((nxSh ld (l0, (l0.1 - 1, l0.2))).2.1 = l0.1 ∨ (nxSh ld (l0, (l0.1 - 1, l0.2))).2.1 = l0.1 - 1) ∧ (nxSh ld (l0, (l0.1 - 1, l0.2))).2.2 = l0.2 + 1 := by
  have hs := o.first_sh f
  obtain ⟨ht, c⟩ := nxSh_cases hs
  have hc := sh_con hs
  have hm := f.min _ hc
  revert ht c hm
  generalize nxSh ld (l0, (l0.1 - 1, l0.2)) = t
  intro ht c hm
  dsimp only at c
  rcases c with c | c | c
  · omega
  · omega
  · omega
theorem Orb.before_first {p : Shore × Shore} (hp : p ∈ cyc O) (h : p.2 = (l0, (l0.1 - 1, l0.2))) : p.1 = (l0, (l0.1, l0.2 - 1)) := by
  have e := o.nx p hp
  rw [h, ← o.left_nx f] at e
  exact (nxSh_inj (o.left_sh f) (o.sh _ (cyc_mem hp).1) e).symm
theorem Orb.parity {p : Shore × Shore} (hp : p ∈ cyc O) : rightB l0 (p.1.2, p.2.2) = xor (xor (decide (p.1.2.1 = l0.1 - 1 ∧ l0.2 < p.1.2.2)) (decide (p.2.2.1 = l0.1 - 1 ∧ l0.2 < p.2.2.2))) (xor (xor (decide (p.1.2.1 = l0.1 ∧ l0.2 < p.1.2.2)) (decide (p.2.2.1 = l0.1 ∧ l0.2 < p.2.2.2))) (decide (p.1 = (l0, (l0.1 - 1, l0.2))))) := by
  obtain ⟨m1, m2⟩ := cyc_mem hp
  have s1 := o.sh _ m1
  have s2 := o.sh _ m2
  have b1 := mem_sides.mp s1.b
  have b2 := mem_sides.mp s2.b
  have g1 := f.min _ (o.con _ m1)
  have g2 := f.min _ (o.con _ m2)
  have k : King p.1.2 p.2.2 := by rw [o.nx p hp]; exact king_nx s1
  unfold King at k
  have ne : ∀ {q : Sq}, ld q = false → ¬ (q.1 = l0.1 ∧ q.2 = l0.2) := fun hq e => by
    have : _ = l0 := Prod.ext e.1 e.2
    rw [this, f.l] at hq; cases hq
  have n1 := ne s1.w
  have n2 := ne s2.w
  have fin : ∀ c : Bool, (¬ c = true → ¬ (p.1.2.1 = l0.1 - 1 ∧ p.1.2.2 = l0.2) ∧ (¬ (p.2.2.1 = l0.1 - 1 ∧ p.2.2.2 = l0.2) ∨ (p.1.2.1 = l0.1 ∧ p.1.2.2 = l0.2 - 1 ∧ p.2.2.1 = l0.1 - 1 ∧ p.2.2.2 = l0.2))) → (c = true → p.1.2.1 = l0.1 - 1 ∧ p.1.2.2 = l0.2 ∧ (p.2.2.1 = l0.1 ∨ p.2.2.1 = l0.1 - 1) ∧ p.2.2.2 = l0.2 + 1) →
      rightB l0 (p.1.2, p.2.2) = xor (xor (decide (p.1.2.1 = l0.1 - 1 ∧ l0.2 < p.1.2.2)) (decide (p.2.2.1 = l0.1 - 1 ∧ l0.2 < p.2.2.2))) (xor (xor (decide (p.1.2.1 = l0.1 ∧ l0.2 < p.1.2.2)) (decide (p.2.2.1 = l0.1 ∧ l0.2 < p.2.2.2))) c) := by
    intro c hc0 hc1
    have hr := rightB_iff (x := l0) (s := (p.1.2, p.2.2))
    dsimp only at hr
    cases c with
    | true =>
      have hc1 := hc1 rfl
      cases e : rightB l0 (p.1.2, p.2.2) <;> rw [e] at hr <;>
        by_cases a1 : (p.1.2.1 = l0.1 - 1 ∧ l0.2 < p.1.2.2) <;> by_cases a2 : (p.2.2.1 = l0.1 - 1 ∧ l0.2 < p.2.2.2) <;> by_cases a3 : (p.1.2.1 = l0.1 ∧ l0.2 < p.1.2.2) <;> by_cases a4 : (p.2.2.1 = l0.1 ∧ l0.2 < p.2.2.2) <;>
        first
          | ((first | rw [decide_eq_true a1] | rw [decide_eq_false a1]); (first | rw [decide_eq_true a2] | rw [decide_eq_false a2]); (first | rw [decide_eq_true a3] | rw [decide_eq_false a3]); (first | rw [decide_eq_true a4] | rw [decide_eq_false a4]); rfl)
          | (exfalso; simp only [true_iff, Bool.false_eq_true, false_iff] at hr; omega)
    | false =>
      have hc0 := hc0 (by decide)
      cases e : rightB l0 (p.1.2, p.2.2) <;> rw [e] at hr <;>
        by_cases a1 : (p.1.2.1 = l0.1 - 1 ∧ l0.2 < p.1.2.2) <;> by_cases a2 : (p.2.2.1 = l0.1 - 1 ∧ l0.2 < p.2.2.2) <;> by_cases a3 : (p.1.2.1 = l0.1 ∧ l0.2 < p.1.2.2) <;> by_cases a4 : (p.2.2.1 = l0.1 ∧ l0.2 < p.2.2.2) <;>
        first
          | ((first | rw [decide_eq_true a1] | rw [decide_eq_false a1]); (first | rw [decide_eq_true a2] | rw [decide_eq_false a2]); (first | rw [decide_eq_true a3] | rw [decide_eq_false a3]); (first | rw [decide_eq_true a4] | rw [decide_eq_false a4]); rfl)
          | (exfalso; simp only [true_iff, Bool.false_eq_true, false_iff] at hr; omega)
  refine fin _ (fun hn => ?_) (fun hy => ?_)
  · rw [decide_eq_true_eq] at hn
    refine ⟨fun e => hn (o.only f m1 e.1 e.2), ?_⟩
    by_cases e : p.2.2.1 = l0.1 - 1 ∧ p.2.2.2 = l0.2
    · have := o.before_first f hp (o.only f m2 e.1 e.2)
      rw [this]
      exact .inr ⟨rfl, rfl, e.1, e.2⟩
    · exact .inl e
  · have e := of_decide_eq_true hy
    have h1 := o.succ f
    have h2 := o.nx p hp
    rw [e] at h2
    rw [← h2] at h1
    rw [e]
    exact ⟨rfl, rfl, h1.1, h1.2⟩
/-- the land is inside -/
theorem Orb.inside : insB (ringOf O) l0 = true := by
  unfold insB
  have hf : ∀ p ∈ (cyc O).map (fun p => (p.1.2, p.2.2)), (!decide (p.2 = p.1)) = false → rightB l0 p = false := fun p _ hp => by
    rw [Bool.not_eq_false', decide_eq_true_eq] at hp
    rw [← Bool.not_eq_true, rightB_iff, hp]
    omega
  rw [o.cyc_ring, par_filter _ _ _ hf, par_map, par_congr fun p hp => o.parity f hp]
  have h1 : par (fun p : Shore × Shore => xor (decide (p.1.2.1 = l0.1 - 1 ∧ l0.2 < p.1.2.2)) (decide (p.2.2.1 = l0.1 - 1 ∧ l0.2 < p.2.2.2))) (cyc O) = false := par_cyc (fun s : Shore => decide (s.2.1 = l0.1 - 1 ∧ l0.2 < s.2.2)) O
  have h2 : par (fun p : Shore × Shore => xor (decide (p.1.2.1 = l0.1 ∧ l0.2 < p.1.2.2)) (decide (p.2.2.1 = l0.1 ∧ l0.2 < p.2.2.2))) (cyc O) = false := par_cyc (fun s : Shore => decide (s.2.1 = l0.1 ∧ l0.2 < s.2.2)) O
  have h3 : par (fun p : Shore × Shore => decide (p.1 = (l0, (l0.1 - 1, l0.2)))) (cyc O) = true := by
    rw [← par_map (fun s : Shore => decide (s = (l0, (l0.1 - 1, l0.2)))) (fun p : Shore × Shore => p.1)]
    exact par_one (cyc_firsts.nodup_iff.mpr o.nd) (cyc_firsts.mem_iff.mpr o.mem)
  refine (par3 (fun p : Shore × Shore => xor (decide (p.1.2.1 = l0.1 - 1 ∧ l0.2 < p.1.2.2)) (decide (p.2.2.1 = l0.1 - 1 ∧ l0.2 < p.2.2.2))) (fun p : Shore × Shore => xor (decide (p.1.2.1 = l0.1 ∧ l0.2 < p.1.2.2)) (decide (p.2.2.1 = l0.1 ∧ l0.2 < p.2.2.2))) (fun p : Shore × Shore => decide (p.1 = (l0, (l0.1 - 1, l0.2)))) (cyc O)).trans ?_
  rw [h1, h2, h3]
  rfl
end
/-! the ring is a ring -/
section
variable {ld : Sq → Bool} {l0 : Sq} {O : List Shore} (f : First ld l0) (o : Orb ld (l0, (l0.1 - 1, l0.2)) O)
include f o
theorem Orb.long : 4 ≤ (ringOf O).length := by
  have hc := o.cyc_ring
  have in1 : ∀ {p : Shore × Shore}, p ∈ cyc O → p.2.2 ≠ p.1.2 → p.1.2 ∈ ringOf O ∧ p.2.2 ∈ ringOf O := fun {p} hp hne => by
    have : (p.1.2, p.2.2) ∈ cyc (ringOf O) := by
      rw [hc]
      exact List.mem_filter.mpr ⟨List.mem_map.mpr ⟨p, hp, rfl⟩, by rw [decide_eq_false hne]; rfl⟩
    exact cyc_mem this
  -- the one before
  obtain ⟨p, hp, ep⟩ : ∃ p ∈ cyc O, p.2 = (l0, (l0.1 - 1, l0.2)) := by
    have : (l0, (l0.1 - 1, l0.2)) ∈ (cyc O).map (·.2) := by rw [cyc_seconds]; exact o.mem
    obtain ⟨p, hp, e⟩ := List.mem_map.mp this
    exact ⟨p, hp, e⟩
  have ep1 := o.before_first f hp ep
  have w := in1 hp (by rw [ep, ep1]; intro e; injection e; omega)
  rw [ep, ep1] at w
  -- the one behind
  obtain ⟨q, hq, eq⟩ : ∃ q ∈ cyc O, q.1 = (l0, (l0.1 - 1, l0.2)) := by
    have : (l0, (l0.1 - 1, l0.2)) ∈ (cyc O).map (·.1) := cyc_firsts.mem_iff.mpr o.mem
    obtain ⟨p, hp, e⟩ := List.mem_map.mp this
    exact ⟨p, hp, e⟩
  have eq2 := o.nx q hq
  have hs := o.succ f
  rw [eq] at eq2
  rw [← eq2] at hs
  have v := in1 hq (by rw [eq]; intro e; rw [e] at hs; dsimp only at hs; omega)
  -- one below
  have hi := o.inside f
  obtain ⟨s, hs2, e3⟩ : ∃ s ∈ cyc (ringOf O), rightB l0 s = true := by
    by_cases h : ∃ s ∈ cyc (ringOf O), rightB l0 s = true
    · exact h
    · have : insB (ringOf O) l0 = false := par_none fun s hs => by
        rw [← Bool.not_eq_true]; exact fun e => h ⟨s, hs, e⟩
      rw [this] at hi; cases hi
  obtain ⟨c1, c2⟩ := cyc_mem hs2
  have hb := rightB_iff.mp e3
  obtain ⟨z, hz, ez⟩ : ∃ z ∈ ringOf O, z.1 = l0.1 + 1 := by
    rcases hb with h | h
    · exact ⟨s.2, c2, h.2.1⟩
    · exact ⟨s.1, c1, h.2.1⟩
  have key : [(l0.1 - 1, l0.2), (l0.1, l0.2 - 1), q.2.2, z].length ≤ (ringOf O).length := by
    refine nodup_le ?_ fun x hx => ?_
    · simp only [List.nodup_cons, List.mem_cons, List.not_mem_nil, or_false, not_or, not_false_iff, List.nodup_nil, and_true]
      refine ⟨⟨fun e => by injection e; omega, fun e => by rw [← e] at hs; dsimp only at hs; omega, fun e => by rw [← e] at ez; dsimp only at ez; omega⟩, ⟨fun e => by rw [← e] at hs; dsimp only at hs; omega, fun e => by rw [← e] at ez; dsimp only at ez; omega⟩, fun e => by rw [e, ez] at hs; omega⟩
    · simp only [List.mem_cons, List.not_mem_nil, or_false] at hx
      rcases hx with e | e | e | e <;> subst e
      · exact w.2
      · exact w.1
      · exact v.2
      · exact hz
  exact key
end
end Y

/-! rings and ways: the defs of the program as models, and what they give -/
namespace Y
open PySem PySem.Spec PyProof.Rows L2
/-! ### the steps of a closed walk by places -/
section
variable {α : Type} [Inhabited α]
theorem pairsFrom_get : ∀ (a : α) (l : List α) (i : Nat), i < l.length → (pairsFrom a l)[i]? = some ((a :: l).getD i default, l.getD i default)
  | a, [], i, h => by cases h
  | a, x :: xs, 0, h => rfl
  | a, x :: xs, i + 1, h => by
    show (pairsFrom x xs)[i]? = _
    rw [pairsFrom_get x xs i (by simpa using h)]
    rfl
theorem lastD_get : ∀ (a : α) (l : List α), lastD a l = (a :: l).getD l.length default
  | _, [] => rfl
  | a, x :: xs => by
    show lastD x xs = (x :: xs).getD xs.length default
    exact lastD_get x xs
theorem ixD_getD {l : List α} {i : Nat} (h : i < l.length) : ixD l (i : Int) = l.getD i default := by
  rw [ixD_nat h]; simp [h]
theorem ixD_last {x : α} {xs : List α} : ixD (x :: xs) (-1) = lastD x xs := by
  rw [lastD_get]
  unfold ixD atI ixN
  rw [if_neg (by omega), if_pos (by rw [List.length_cons]; omega)]
  have e : (-1 + (((x :: xs).length : Nat) : Int)).toNat = xs.length := by rw [List.length_cons]; omega
  have e2 : ((((x :: xs).length : Nat) : Int) + -1).toNat = xs.length := by rw [List.length_cons]; omega
  first | rw [e] | rw [e2]
  simp [List.getD]
end
/-! ### rings -/
theorem Is.lt {a b : WP Int} {x y : Int} (h : Is a x) (h' : Is b y) : Is (WP.lt a b) (decide (x < y)) := h.bind (h'.bind Is.pure)
theorem Is.gt {a b : WP Int} {x y : Int} (h : Is a x) (h' : Is b y) : Is (WP.gt a b) (decide (y < x)) := h.bind (h'.bind Is.pure)
theorem Is.all {w : WP (List Bool)} {bs : List Bool} (h : Is w bs) : Is (WP.all w) (bs.all id) := h.bind Is.pure
def ringB (R : List Sq) : Bool := decide (4 ≤ R.length) && (cyc R).all fun p => decide (p.2 ∈ nbrs p.1)
/-- what a parting ring must be -/
def partB (ch : List Str) (a b : Sq) (R : List Sq) : Bool := (ringB R && R.all (isWt ch)) && !decide (insB R a = insB R b)
end Y

/-! ways and rings: what the searches give -/
namespace Y
open PySem PySem.Spec PyProof.Rows L2
theorem pairsFrom_snoc {α : Type} : ∀ (a : α) (l : List α) (x : α), pairsFrom a (l ++ [x]) = pairsFrom a l ++ [(lastD a l, x)]
  | _, [], _ => rfl
  | a, y :: ys, x => by show (a, y) :: pairsFrom y (ys ++ [x]) = (a, y) :: pairsFrom y ys ++ [(lastD y ys, x)]; rw [pairsFrom_snoc y ys x]; rfl
theorem lastD_snoc {α : Type} : ∀ (a : α) (l : List α) (x : α), lastD a (l ++ [x]) = x
  | _, [], _ => rfl
  | _, y :: ys, x => lastD_snoc y ys x
/-- on the way round -/
structure Pre (ld : Sq → Bool) (s0 : Shore) (t : List Shore) (x : Shore) : Prop where
  nd : (s0 :: t).Nodup
  sh : ∀ s ∈ s0 :: t, Sh ld s
  nx : ∀ p ∈ pairsFrom s0 t, p.2 = nxSh ld p.1
  con : ∀ s ∈ s0 :: t, Rch (stp ld) s0.1 s.1
  cur : x = nxSh ld (lastD s0 t)
theorem Pre.step {ld : Sq → Bool} {s0 x : Shore} {t : List Shore} (p : Pre ld s0 t x) (h : x ≠ s0) : Pre ld s0 (t ++ [x]) (nxSh ld x) := by
  have hl := p.sh _ (lastD_mem (a := s0) (l := t))
  have hx : x ∉ s0 :: t := fun hm => by
    rcases List.mem_cons.mp hm with e | hm
    · exact h e
    · have hs : x ∈ (pairsFrom s0 t).map (·.2) := by rw [seconds]; exact hm
      obtain ⟨q, hq, e⟩ := List.mem_map.mp hs
      have m1 : q.1 ∈ s0 :: t := by
        rcases (pairsFrom_mem hq).1 with e | e
        · rw [e]; exact List.mem_cons_self
        · exact List.mem_cons_of_mem _ e
      have e2 := p.nx q hq
      have : q.1 = lastD s0 t := nxSh_inj (p.sh _ m1) hl (by rw [← e2, ← p.cur]; exact e)
      have nd := p.nd
      rw [← firsts s0 t, List.nodup_append] at nd
      exact nd.2.2 q.1 (List.mem_map.mpr ⟨q, hq, rfl⟩) (lastD s0 t) List.mem_cons_self this
  have hsx : Sh ld x := by rw [p.cur]; exact (nxSh_cases hl).1
  refine ⟨?_, fun s hs => ?_, fun q hq => ?_, fun s hs => ?_, by rw [lastD_snoc]⟩
  · rw [← List.cons_append, List.nodup_append]
    exact ⟨p.nd, by simp, fun a ha b hb e => hx (by simp at hb; rw [← hb, ← e]; exact ha)⟩
  · rw [← List.cons_append] at hs
    rcases List.mem_append.mp hs with hs | hs
    · exact p.sh s hs
    · simp at hs; rw [hs]; exact hsx
  · rw [pairsFrom_snoc] at hq
    rcases List.mem_append.mp hq with hq | hq
    · exact p.nx q hq
    · simp at hq; subst hq; exact p.cur
  · rw [← List.cons_append] at hs
    rcases List.mem_append.mp hs with hs | hs
    · exact p.con s hs
    · simp at hs; rw [hs, p.cur]
      exact (p.con _ (lastD_mem (a := s0) (l := t))).trans (sh_con hl)
end Y

/-! ways -/
namespace Y
open PySem PySem.Spec PyProof.Rows L2
/-- a way from a to b -/
def Way (st : Sq → List Sq) (a b : Sq) (w : List Sq) : Prop := ∃ t, w = a :: t ∧ lastD a t = b ∧ ∀ p ∈ pairsFrom a t, p.2 ∈ st p.1
theorem dist_one {gs : List (Sq × Nat)} (nd : (gs.map (·.1)).Nodup) {q : Sq} {d e : Nat} (h : (q, d) ∈ gs) (h' : (q, e) ∈ gs) : d = e := by
  have a := lookK_mem nd h
  rw [lookK_mem nd h'] at a
  exact (Option.some.inj a).symm
theorem ixD_rev {x : Sq} {xs : List Sq} : ixD (x :: xs).reverse (-1) = x := by
  rw [List.reverse_cons]
  cases e : xs.reverse with
  | nil => rw [List.nil_append, ixD_last]; rfl
  | cons y ys => rw [List.cons_append, ixD_last, lastD_snoc]
/-! the papers of ways -/
theorem Way.ix {st : Sq → List Sq} {a b : Sq} {w : List Sq} (h : Way st a b w) : 0 < w.length ∧ ixD w 0 = a ∧ ixD w (-1) = b ∧ ∀ k : Int, 1 ≤ k → k < w.length → ixD w k ∈ st (ixD w (k - 1)) := by
  obtain ⟨t, rfl, e, hp⟩ := h
  refine ⟨by simp, ixD_nat (xs := a :: t) (i := 0) (by simp), by rw [ixD_last]; exact e, fun k h1 h2 => ?_⟩
  obtain ⟨i, rfl⟩ : ∃ i : Nat, k = ((i + 1 : Nat) : Int) := ⟨(k - 1).toNat, by omega⟩
  rw [List.length_cons] at h2
  have hi : i < t.length := by omega
  have e1 : (((i + 1 : Nat) : Int)) - 1 = (i : Int) := by omega
  have g := pairsFrom_get a t i hi
  have := hp _ (List.mem_of_getElem? g)
  rw [e1, ixD_getD (by rw [List.length_cons]; omega), ixD_getD (by rw [List.length_cons]; omega)]
  exact this
theorem Way.ld {ch : List Str} {a b : Sq} {w : List Sq} (h : Way (ldBeside ch) a b w) (ha : isLd ch a = true) : ∀ q ∈ w, isLd ch q = true := by
  obtain ⟨t, rfl, e, hp⟩ := h
  intro q hq
  rcases List.mem_cons.mp hq with e | hq
  · rw [e]; exact ha
  · have hs : q ∈ (pairsFrom a t).map (·.2) := by rw [seconds]; exact hq
    obtain ⟨r, hr, e⟩ := List.mem_map.mp hs
    rw [← e]; exact (List.mem_filter.mp (hp r hr)).2
end Y

/-! step papers -/
namespace Y
open PySem PySem.Spec PyProof.Rows L2
theorem sides_is (q : Sq) : Is (law_sidesM q) (sides q) := side_neighbours_is q
end Y

/-! dicts with nested keys, plain; tides; late papers -/
namespace Y
open PySem PySem.Spec L2
theorem Is.run {α : Type} {w : WP α} {a : α} {n : Nat} {Q : Nat → α → Prop} (h : Is w a) (q : Q n a) : w.run n Q := h n Q q
section
variable {κ β : Type} [DecidableEq κ]
theorem lookN_put {kvs : List (κ × β)} {q : κ} {b : β} (h : hasN kvs q = true) (x : κ) : lookN (putD kvs q b) x = if x = q then some b else lookN kvs x := by
  have h' := h
  unfold putD
  rw [if_pos h]
  unfold hasN lookN at h'
  unfold lookN
  clear h
  induction kvs with
  | nil => cases h'
  | cons a as ih =>
    rw [List.map_cons]
    by_cases ha : a.1 = q
    · rw [if_pos ha]
      by_cases hx : x = q
      · rw [if_pos hx, List.find?_cons_of_pos (by simpa using ha.trans hx.symm)]; rfl
      · rw [if_neg hx, List.find?_cons_of_neg (by simpa using fun z => hx (z.symm.trans ha)), List.find?_cons_of_neg (by simpa using fun z => hx (z.symm.trans ha))]
        clear ih h' ha
        induction as with
        | nil => rfl
        | cons c cs ih2 =>
          rw [List.map_cons]
          by_cases hc : c.1 = x
          · rw [if_neg (fun z => hx (hc.symm.trans z)), List.find?_cons_of_pos (by simpa using hc), List.find?_cons_of_pos (by simpa using hc)]
          · have hc' : ¬ decide ((if c.1 = q then (c.1, b) else c).1 = x) = true := by
              by_cases hcq : c.1 = q
              · rw [if_pos hcq]; simpa using hc
              · rw [if_neg hcq]; simpa using hc
            rw [List.find?_cons_of_neg (a := if c.1 = q then (c.1, b) else c) (p := fun p => decide (p.1 = x)) hc', List.find?_cons_of_neg (by simpa using hc)]
            exact ih2
    · rw [if_neg ha]
      rw [List.find?_cons_of_neg (by simpa using ha)] at h'
      have ih := ih h'
      by_cases hax : a.1 = x
      · rw [List.find?_cons_of_pos (by simpa using hax), List.find?_cons_of_pos (by simpa using hax), if_neg (fun z => ha (hax.trans z))]
      · rw [List.find?_cons_of_neg (by simpa using hax), List.find?_cons_of_neg (by simpa using hax)]
        exact ih
end
/-! ### tides -/
def tl (td : List Int) (t : Int) : Int := ixD td (t % (td.length : Int))
def dry (rel : List Str) (td : List Int) (q : Sq) (t : Int) : Bool := isSq rel q && decide (tl td t ≤ hg rel q)
def stays (q : Sq) : List Sq := q :: sides q
def nx (td : List Int) (o : Sq) (i : Int) : Sq × Int := (o, (i + 1) % (td.length : Int))
/-! ### the models -/
abbrev T3P := Tri Sq Int Int
def kk (x : T3P) : Sq × Int := (x.a, x.b)
def kv (x : T3P) : (Sq × Int) × Int := ((x.a, x.b), x.c)
def kvsL (p : List T3P) : List ((Sq × Int) × Int) := p.map kv
def inT (rel : List Str) (td : List Int) (x : T3P) : Prop := isSq rel x.a = true ∧ 0 ≤ x.b ∧ x.b < (td.length : Int) ∧ 0 ≤ x.c
structure OkL (rel : List Str) (td : List Int) (p : List T3P) : Prop where
  nd : (p.map kk).Nodup
  ok : ∀ x ∈ p, inT rel td x
/-- the height of a pair, 0 where there is none -/
def hN (p : List T3P) (k : Sq × Int) : Int := (lookN (kvsL p) k).getD 0
structure Late (rel : List Str) (td : List Int) (s g : Sq) (n : Int) (p : List T3P) : Prop where
  ok : OkL rel td p
  st : dry rel td s 0 = true → n ≤ hN p (s, 0)
  go : ∀ i, 0 ≤ i → i < (td.length : Int) → dry rel td g i = true → hN p (g, i) = 0
  le : ∀ x ∈ p, dry rel td x.a x.b = true → ∀ o ∈ stays x.a, dry rel td o (x.b + 1) = true → x.c ≤ hN p (nx td o x.b) + 1
theorem mem_rangeL0 {k i : Int} : i ∈ rangeL 0 k ↔ 0 ≤ i ∧ i < k := by
  rw [List.mem_iff_getElem?]
  constructor
  · rintro ⟨j, hj⟩
    have := rangeL0_get hj
    omega
  · rintro ⟨h1, h2⟩
    refine ⟨i.toNat, ?_⟩
    rw [rangeL_get (by rw [Int.sub_zero]; omega)]
    congr 1
    omega
end Y

/-! more of Is, Gives and Draws -/
namespace Y
open PySem PySem.Spec L2
section
variable {α β γ δ s ρ : Type}
theorem Is.consE {a : WP α} {b : WP (List α)} {x : α} {xs : List α} (h : Is a x) (h' : Is b xs) : Is (WP.consE a b) (x :: xs) := h.bind (h'.bind Is.pure)
theorem Is.row {a : WP (List α)} {xs : List α} (h : Is a xs) (hl : xs.length ≤ 100000) : Is (WP.row a) xs := h.bind (Is.req hl)
theorem Is.row1 {a : WP α} {x : α} (h : Is a x) : Is (WP.row (WP.consE a (WP.pure []))) [x] := Is.row (Is.consE h Is.pure) (by show 1 ≤ 100000; decide)
theorem Is.cut {a : WP (List α)} {l m : WP (Option Int)} {xs : List α} {x y : Option Int} (h : Is a xs) (h1 : Is l x) (h2 : Is m y) : Is (WP.cut a l m) (cutL xs x y) := h.bind (h1.bind (h2.bind Is.pure))
theorem Is.pair {a : WP α} {b : WP β} {x : α} {y : β} (h : Is a x) (h' : Is b y) : Is (WP.pair a b) (x, y) := h.bind (h'.bind Is.pure)
theorem Is.add {a b : WP Int} {x y : Int} (h : Is a x) (h' : Is b y) : Is (WP.add a b) (x + y) := h.bind (h'.bind Is.pure)
theorem Is.sub {a b : WP Int} {x y : Int} (h : Is a x) (h' : Is b y) : Is (WP.sub a b) (x - y) := h.bind (h'.bind Is.pure)
theorem Is.mod {a b : WP Int} {x y : Int} (h : Is a x) (h' : Is b y) (hy : 0 < y) : Is (WP.mod a b) (x % y) := h.bind (h'.bind (Is.req hy))
theorem Is.neg {a : WP Int} {x : Int} (h : Is a x) : Is (WP.neg a) (-x) := h.bind Is.pure
theorem Is.fst {a : WP (α × β)} {x : α × β} (h : Is a x) : Is (WP.fst a) x.1 := h.bind Is.pure
theorem Is.snd {a : WP (α × β)} {x : α × β} (h : Is a x) : Is (WP.snd a) x.2 := h.bind Is.pure
theorem Is.ge {a b : WP Int} {x y : Int} (h : Is a x) (h' : Is b y) : Is (WP.ge a b) (decide (y ≤ x)) := h.bind (h'.bind Is.pure)
theorem Is.le {a b : WP Int} {x y : Int} (h : Is a x) (h' : Is b y) : Is (WP.le a b) (decide (x ≤ y)) := h.bind (h'.bind Is.pure)
theorem Is.min2 {a b : WP Int} {x y : Int} (h : Is a x) (h' : Is b y) : Is (WP.min2 a b) (if y < x then y else x) := h.bind (h'.bind Is.pure)
/-- a test that is false: what follows -/
theorem Is.passB {t : WP Bool} {A B : WP α} {x : α} (h : Is t false) (h2 : Is B x) : Is (t.bind fun b => WP.cond b A B) x := h.bind h2
theorem Draws.passB {t : WP Bool} {A B : WP α} {k : Nat} {P : α → Prop} (h : Is t false) (h2 : Draws B k P) : Draws (t.bind fun b => WP.cond b A B) k P := fun n Q hn q => h n _ (h2 n Q hn q)
theorem Draws.isB {w : WP β} {b : β} {f : β → WP α} {k : Nat} {P : α → Prop} (h : Is w b) (h' : Draws (f b) k P) : Draws (w.bind f) k P := fun n Q hn q => h n _ (h' n Q hn q)
theorem Draws.givesB {w : WP β} {P0 : β → Prop} {f : β → WP α} {k : Nat} {P : α → Prop} (h : Gives w P0) (h' : ∀ b, P0 b → Draws (f b) k P) : Draws (w.bind f) k P := fun n Q hn q => h n _ fun b hb => h' b hb n Q hn q
theorem Gives.isB {w : WP β} {b : β} {f : β → WP α} {P : α → Prop} (h : Is w b) (h' : Gives (f b) P) : Gives (w.bind f) P := fun n Q q => h n _ (h' n Q q)
theorem Gives.passB {t : WP Bool} {A B : WP α} {P : α → Prop} (h : Is t false) (h2 : Gives B P) : Gives (t.bind fun b => WP.cond b A B) P := fun n Q q => h n _ (h2 n Q q)
/-- a loop over a list in which each turn ends well -/
theorem Draws.loopT {body : α → Unit → WP (Ctl Unit γ)} {xs : List α} {k : Nat} {f : Unit → WP ρ} {r : γ → WP ρ} {k' : Nat} {P : ρ → Prop} (h : ∀ x ∈ xs, Draws (body x ()) k (· = .nx ())) (h' : Draws (f ()) k' P) : Draws (WP.after (WP.loop body xs ()) f r) (xs.length * k + k') P :=
  Draws.loop (I := fun _ _ => True) k trivial (fun i a y ha _ => (h a (List.mem_of_getElem? ha)).imp (Nat.le_refl _) fun c hc => ⟨(), hc, trivial⟩) (fun _ _ => h')
/-- a turn: if what is told is false, return; it is true -/
theorem Draws.turn {w : WP Bool} {no : γ} {k : Nat} (h : Draws w k (· = true)) : Draws ((WP.not w).bind fun b => WP.cond b ((WP.pure no).bind fun r => WP.pure (.rt r)) (WP.pure (Ctl.nx ()))) k (· = (.nx () : Ctl Unit γ)) := fun n Q hn q => h n _ hn fun m b h1 h2 hb => by
  subst hb; exact q m _ h1 h2 rfl
theorem any_eqvQ (x : Sq) (ys : List Sq) : ((ys.map Dat.dat).any fun z => PyData.eqv z (Dat.dat x)) = decide (x ∈ ys) := by
  rw [any_eqv]
  exact Bool.eq_iff_iff.mpr (by simp only [decide_eq_true_eq])
theorem Is.inQ {a : WP Sq} {b : WP (List Sq)} {x : Sq} {ys : List Sq} (ha : Is a x) (hb : Is b ys) : Is (WP.inD a b) (decide (x ∈ ys)) := ha.bind (hb.bind ((Is.req ⟨shaped_of (ok_sq x), shaped_L fun y _ => ok_sq y⟩).eq (any_eqvQ x ys)))
/-- steps of a law, each with its draws -/
theorem Draws.go {w : WP β} {f : β → WP α} {k K : Nat} {P : β → Prop} {P' : α → Prop} (h : Draws w k P) (h' : ∀ b, P b → Draws (f b) (K - k) P') (hk : k ≤ K := by decide) : Draws (w.bind f) K P' := fun n Q hn q => h n _ (by omega) fun m b h1 h2 hb => h' b hb m Q (by omega) fun m' c h3 h4 hc => q m' c (by omega) (by omega) hc
theorem Draws.u1 {f : Unit → WP α} {k : Nat} {P : α → Prop} (h : Draws (f ()) k P) : Draws (WP.b1 (WP.pure ()) f) k P := h
theorem Draws.u2 {a : WP β} {x : β} {f : Unit → β → WP α} {k : Nat} {P : α → Prop} (ha : Is a x) (h : Draws (f () x) k P) : Draws (WP.b2 (WP.pure ()) a f) k P := fun n Q hn q => ha n _ (h n Q hn q)
theorem Draws.u3 {a : WP β} {b : WP γ} {x : β} {y : γ} {f : Unit → β → γ → WP α} {k : Nat} {P : α → Prop} (ha : Is a x) (hb : Is b y) (h : Draws (f () x y) k P) : Draws (WP.b3 (WP.pure ()) a b f) k P := fun n Q hn q => ha n _ (hb n _ (h n Q hn q))
theorem Draws.u4 {a : WP β} {b : WP γ} {c : WP δ} {x : β} {y : γ} {z : δ} {f : Unit → β → γ → δ → WP α} {k : Nat} {P : α → Prop} (ha : Is a x) (hb : Is b y) (hc : Is c z) (h : Draws (f () x y z) k P) : Draws (WP.b4 (WP.pure ()) a b c f) k P := fun n Q hn q => ha n _ (hb n _ (hc n _ (h n Q hn q)))
theorem run_plain {w : WP Bool} {k : Nat} (h : Draws w k (· = true)) (hk : k ≤ 1000000 := by decide) : w.run 0 fun _ b => b = true := h 0 _ (by omega) fun _ _ _ _ e => e
theorem Draws.skip {w : WP α} {K k : Nat} {P : α → Prop} (h : Draws w k P) (hk : k ≤ K := by decide) : Draws w K P := h.imp hk fun _ z => z
theorem Draws.of {w : WP α} {a : α} {k : Nat} (h : Is w a) : Draws w k (· = a) := h.draws
/-- a test that is false, with draws -/
theorem Draws.pass {t : WP Bool} {A B : WP α} {k K : Nat} {P : α → Prop} (h : Draws t k (· = false)) (h2 : Draws B (K - k) P) (hk : k ≤ K := by decide) : Draws (t.bind fun b => WP.cond b A B) K P := Draws.go h (fun b hb => by subst hb; exact h2) hk
theorem Gives.andF {a b : WP Bool} (h : Gives a (fun x => x = true → Gives b (· = false))) : Gives (WP.and a b) (· = false) := fun n Q q => h n _ fun x hx => by
  cases x with
  | true => exact hx rfl n Q q
  | false => exact q _ rfl
theorem Gives.the [Inhabited α] {w : WP (Option α)} {P : α → Prop} (h : Gives w (fun o => ∃ x, o = Option.some x ∧ P x)) : Gives (WP.the w) P := fun n Q q => h n _ fun o ⟨x, e, hx⟩ => by subst e; exact ⟨rfl, q _ hx⟩
theorem Gives.of {w : WP α} {a : α} (h : Is w a) : Gives w (· = a) := h.gives rfl
theorem Gives.c1 {a : WP β} {x : β} {f : β → WP α} {P : α → Prop} (ha : Is a x) (h : Gives (f x) P) : Gives (WP.b1 a f) P := fun n Q q => ha n _ (h n Q q)
theorem Gives.c2 {a : WP β} {b : WP γ} {x : β} {y : γ} {f : β → γ → WP α} {P : α → Prop} (ha : Is a x) (hb : Is b y) (h : Gives (f x y) P) : Gives (WP.b2 a b f) P := fun n Q q => ha n _ (hb n _ (h n Q q))
theorem Gives.c3 {a : WP β} {b : WP γ} {c : WP δ} {x : β} {y : γ} {z : δ} {f : β → γ → δ → WP α} {P : α → Prop} (ha : Is a x) (hb : Is b y) (hc : Is c z) (h : Gives (f x y z) P) : Gives (WP.b3 a b c f) P := fun n Q q => ha n _ (hb n _ (hc n _ (h n Q q)))
theorem Gives.c4 {ε : Type} {a : WP β} {b : WP γ} {c : WP δ} {d : WP ε} {x : β} {y : γ} {z : δ} {u : ε} {f : β → γ → δ → ε → WP α} {P : α → Prop} (ha : Is a x) (hb : Is b y) (hc : Is c z) (hd : Is d u) (h : Gives (f x y z u) P) : Gives (WP.b4 a b c d f) P := fun n Q q => ha n _ (hb n _ (hc n _ (hd n _ (h n Q q))))
theorem Gives.pass {t : WP Bool} {A B : WP α} {P : α → Prop} (h : Gives t (· = false)) (h2 : Gives B P) : Gives (t.bind fun b => WP.cond b A B) P := h.bind fun b hb => by subst hb; exact h2
theorem Gives.maxL {w : WP (List Int)} {xs : List Int} (h : Is w xs) (h0 : 0 < xs.length) : Gives (WP.maxL w) (fun m => m ∈ xs ∧ ∀ y ∈ xs, y ≤ m) := fun n Q q => h n _ ⟨h0, fun m hm => q m hm⟩
theorem Gives.minL {w : WP (List Int)} {xs : List Int} (h : Is w xs) (h0 : 0 < xs.length) : Gives (WP.minL w) (fun m => m ∈ xs ∧ ∀ y ∈ xs, m ≤ y) := fun n Q q => h n _ ⟨h0, fun m hm => q m hm⟩
theorem Gives.retT {b : Bool} {P : Bool → Prop} (h : P b) : Gives ((WP.pure b).bind fun r => WP.pure r) P := Gives.pure h
theorem Gives.c5 {ε ζ : Type} {a : WP β} {b : WP γ} {c : WP δ} {d : WP ε} {e : WP ζ} {x : β} {y : γ} {z : δ} {u : ε} {v : ζ} {f : β → γ → δ → ε → ζ → WP α} {P : α → Prop} (ha : Is a x) (hb : Is b y) (hc : Is c z) (hd : Is d u) (he : Is e v) (h : Gives (f x y z u v) P) : Gives (WP.b5 a b c d e f) P := fun n Q q => ha n _ (hb n _ (hc n _ (hd n _ (he n _ (h n Q q)))))
theorem Is.notF {w : WP Bool} (h : Is w true) : Is (WP.not w) false := (Is.not h).eq rfl
theorem Is.the [Inhabited α] {w : WP (Option α)} {x : α} (h : Is w (Option.some x)) : Is (WP.the w) x := h.bind (Is.req rfl)
theorem Is.isN {w : WP (Option α)} {o : Option α} (h : Is w o) : Is (WP.isN w) o.isNone := h.bind Is.pure
theorem Is.notN {w : WP (Option α)} {o : Option α} (h : Is w o) : Is (WP.notN w) o.isSome := h.bind Is.pure
theorem Gives.loopT {body : α → Unit → WP (Ctl Unit γ)} {xs : List α} {f : Unit → WP ρ} {r : γ → WP ρ} {P : ρ → Prop} (h : ∀ x ∈ xs, Gives (body x ()) (· = .nx ())) (h' : Gives (f ()) P) : Gives (WP.after (WP.loop body xs ()) f r) P := fun n Q q => by
  refine WP.after_inv (fun i m y => m = n) rfl (fun i m x y hi hm => ?_) fun m y hm => ?_
  · refine h x (List.mem_of_getElem? hi) m _ fun c hc => ?_
    subst hc; exact hm
  · subst hm
    exact h' m Q q
theorem Gives.turn {w : WP Bool} {no : γ} (h : Gives w (· = true)) : Gives ((WP.not w).bind fun b => WP.cond b ((WP.pure no).bind fun r => WP.pure (.rt r)) (WP.pure (Ctl.nx ()))) (· = (.nx () : Ctl Unit γ)) := fun n Q q => h n _ fun b hb => by
  subst hb; exact q _ rfl
theorem Gives.stop {w : WP Bool} {no : γ} {B : WP (Ctl Unit γ)} (h : Gives w (· = false)) (hB : Gives B (· = (.nx () : Ctl Unit γ))) : Gives (w.bind fun b => WP.cond b ((WP.pure no).bind fun r => WP.pure (.rt r)) B) (· = (.nx () : Ctl Unit γ)) := Gives.pass h hB
end
end Y

/-! judges of any ways and rings; saddle papers as a law judges them -/
namespace Y
open PySem PySem.Spec L2
theorem mem_rangeLI {lo hi x : Int} : x ∈ rangeL lo hi ↔ lo ≤ x ∧ x < hi := ⟨mem_rangeL, fun ⟨h1, h2⟩ => by
  have := rangeL_get (lo := lo) (hi := hi) (i := (x - lo).toNat) (by omega)
  rw [show lo + (((x - lo).toNat : Nat) : Int) = x by omega] at this
  exact List.mem_of_getElem? this⟩
section
variable {rel : List Str} (r : Rel rel)
include r
omit r in
end
end Y

/-! rings that hold a lake -/
namespace Y
open PySem PySem.Spec PyProof.Rows L2
section
variable {α β : Type}
theorem par_app (f : α → Bool) : ∀ l m : List α, par f (l ++ m) = xor (par f l) (par f m)
  | [], m => by show _ = xor false _; rw [Bool.false_xor]; rfl
  | x :: xs, m => by show xor (f x) (par f (xs ++ m)) = xor (xor (f x) (par f xs)) (par f m); rw [par_app f xs m, Bool.xor_assoc]
theorem par_flat (f : β → Bool) (g : α → List β) : ∀ l : List α, par f (l.flatMap g) = par (fun x => par f (g x)) l
  | [] => rfl
  | x :: xs => by
    rw [List.flatMap_cons, par_app, par_flat f g xs]; rfl
theorem pairsFrom_app (a : α) : ∀ l m : List α, pairsFrom a (l ++ m) = pairsFrom a l ++ pairsFrom (lastD a l) m := fun l => by
  induction l generalizing a with
  | nil => intro m; rfl
  | cons x xs ih => intro m; show (a, x) :: pairsFrom x (xs ++ m) = (a, x) :: pairsFrom x xs ++ _; rw [ih x m]; rfl
theorem lastD_app (a : α) : ∀ l m : List α, lastD a (l ++ m) = lastD (lastD a l) m := fun l => by
  induction l generalizing a with
  | nil => intro m; rfl
  | cons x xs ih => intro m; exact ih x m
/-- steps told piece by piece -/
theorem pairs_flat (e : α → β) (h : α × α → List β) (hh : ∀ p, lastD (e p.1) (h p) = e p.2) : ∀ (a : α) (l : List α), pairsFrom (e a) ((pairsFrom a l).flatMap h) = (pairsFrom a l).flatMap (fun p => pairsFrom (e p.1) (h p)) ∧ lastD (e a) ((pairsFrom a l).flatMap h) = e (lastD a l)
  | a, [] => ⟨rfl, rfl⟩
  | a, x :: xs => by
    have ih := pairs_flat e h hh x xs
    show pairsFrom (e a) (((a, x) :: pairsFrom x xs).flatMap h) = ((a, x) :: pairsFrom x xs).flatMap _ ∧ lastD (e a) (((a, x) :: pairsFrom x xs).flatMap h) = e (lastD x xs)
    rw [List.flatMap_cons, List.flatMap_cons, pairsFrom_app, lastD_app, hh (a, x)]
    exact ⟨by rw [ih.1], ih.2⟩
theorem cyc_flat (e : α → β) (h : α × α → List β) (hh : ∀ p, lastD (e p.1) (h p) = e p.2) (hn : ∀ p, h p ≠ []) (l : List α) : cyc ((cyc l).flatMap h) = (cyc l).flatMap fun p => pairsFrom (e p.1) (h p) := by
  cases l with
  | nil => rfl
  | cons x xs =>
    have k := pairs_flat e h hh (lastD x xs) (x :: xs)
    have hc : cyc (x :: xs) = pairsFrom (lastD x xs) (x :: xs) := rfl
    rw [hc, ← k.1]
    have k2 : lastD (e (lastD x xs)) ((pairsFrom (lastD x xs) (x :: xs)).flatMap h) = e (lastD x xs) := k.2
    revert k2
    generalize hL : (pairsFrom (lastD x xs) (x :: xs)).flatMap h = L
    intro k2
    cases L with
    | nil =>
      exfalso
      have : h (lastD x xs, x) = [] := by
        have hL' : ((lastD x xs, x) :: pairsFrom x xs).flatMap h = [] := hL
        rw [List.flatMap_cons] at hL'
        exact (List.append_eq_nil_iff.mp hL').1
      exact hn _ this
    | cons y ys =>
      show pairsFrom (lastD y ys) (y :: ys) = pairsFrom (e (lastD x xs)) (y :: ys)
      have k3 : lastD y ys = e (lastD x xs) := k2
      rw [k3]
end
/-- the squares of the ring that a step of shores adds -/
def cornerOf (p : Shore × Shore) : Sq := (p.1.1.1 + p.2.1.1 - p.2.2.1, p.1.1.2 + p.2.1.2 - p.2.2.2)
def hF (p : Shore × Shore) : List Sq := if p.2.2 = p.1.2 then [cornerOf p, p.2.1] else [p.2.1]
def sqsOf (O : List Shore) : List Sq := (cyc O).flatMap hF
def ringH (O : List Shore) : List Sq := dedC (sqsOf O)
theorem hF_last (p : Shore × Shore) : lastD p.1.1 (hF p) = p.2.1 := by unfold hF; split <;> rfl
theorem hF_ne (p : Shore × Shore) : hF p ≠ [] := by unfold hF; split <;> exact fun h => by cases h
theorem sqs_cyc (O : List Shore) : cyc (sqsOf O) = (cyc O).flatMap fun p => pairsFrom p.1.1 (hF p) := cyc_flat (fun s : Shore => s.1) hF hF_last hF_ne O
/-- the step of the ring to the right of its top square -/
def Hq (w0 : Sq) (x : Sq × Sq) : Bool := decide ((x.1 = (w0.1 - 1, w0.2) ∧ x.2 = (w0.1 - 1, w0.2 + 1)) ∨ (x.2 = (w0.1 - 1, w0.2) ∧ x.1 = (w0.1 - 1, w0.2 + 1)))
theorem hq_iff {w0 : Sq} {x : Sq × Sq} : Hq w0 x = true ↔ ((x.1.1 = w0.1 - 1 ∧ x.1.2 = w0.2) ∧ x.2.1 = w0.1 - 1 ∧ x.2.2 = w0.2 + 1) ∨ ((x.2.1 = w0.1 - 1 ∧ x.2.2 = w0.2) ∧ x.1.1 = w0.1 - 1 ∧ x.1.2 = w0.2 + 1) := by
  obtain ⟨⟨a, b⟩, c, d⟩ := x
  unfold Hq
  simp only [decide_eq_true_eq, Prod.mk.injEq]
/-- a lake, w0 its first square -/
structure Lake (ld : Sq → Bool) (w0 : Sq) (Λ : Sq → Prop) : Prop where
  in0 : Λ w0
  wat : ∀ q, Λ q → ld q = false
  cl : ∀ q p, Λ q → p ∈ nbrs q → ld p = false → Λ p
  min : ∀ q, Λ q → w0.1 < q.1 ∨ (w0.1 = q.1 ∧ w0.2 ≤ q.2)
section
variable {ld : Sq → Bool} {w0 : Sq} {Λ : Sq → Prop} (K : Lake ld w0 Λ)
include K
theorem Lake.no {q : Sq} (h : q.1 < w0.1 ∨ (q.1 = w0.1 ∧ q.2 < w0.2)) : ¬ Λ q := fun z => by have := K.min q z; omega
theorem Lake.top : Sh ld ((w0.1 - 1, w0.2), w0) := by
  refine ⟨?_, K.wat _ K.in0, mem_sides.mpr (by dsimp only; omega)⟩
  cases e : ld (w0.1 - 1, w0.2) with
  | true => rfl
  | false => exact absurd (K.cl w0 _ K.in0 (mem_nbrs.mpr ⟨by dsimp only; omega, fun e => by have := congrArg Prod.fst e; dsimp only at this; omega⟩) e) (K.no (by dsimp only; omega))
theorem Lake.next {s : Shore} (h : Sh ld s) (hw : Λ s.2) : Λ (nxSh ld s).2 := by
  obtain ⟨ht, c⟩ := nxSh_cases h
  have k := king_nx h
  by_cases e : (nxSh ld s).2 = s.2
  · rw [e]; exact hw
  · exact K.cl _ _ hw (mem_nbrs.mpr ⟨k, e⟩) ht.w
theorem Lake.ne {q : Sq} (h : ld q = true) : ¬ (q.1 = w0.1 ∧ q.2 = w0.2) := fun e => by
  have : q = w0 := Prod.ext e.1 e.2
  rw [this, K.wat _ K.in0] at h; cases h
variable {O : List Shore} (o : Orb ld ((w0.1 - 1, w0.2), w0) O) (hΛ : ∀ s ∈ O, Λ s.2)
include o hΛ
/-- what a step of the orbit gives -/
theorem Lake.cases {p : Shore × Shore} (hp : p ∈ cyc O) : Sh ld p.1 ∧ Sh ld p.2 ∧ Λ p.1.2 ∧ Λ p.2.2 ∧
    ((hF p = [p.2.1] ∧ p.2.1 = p.1.1 ∧ p.2.2.1 = p.1.1.1 + (p.1.2.2 - p.1.1.2) ∧ p.2.2.2 = p.1.1.2 + (p.1.1.1 - p.1.2.1)) ∨
     (hF p = [p.2.1] ∧ p.2.1.1 = p.1.1.1 + (p.1.2.2 - p.1.1.2) ∧ p.2.1.2 = p.1.1.2 + (p.1.1.1 - p.1.2.1) ∧ p.2.2.1 = p.1.2.1 + (p.1.2.2 - p.1.1.2) ∧ p.2.2.2 = p.1.2.2 + (p.1.1.1 - p.1.2.1)) ∨
     (hF p = [cornerOf p, p.2.1] ∧ p.2.2 = p.1.2 ∧ p.2.1.1 = p.1.2.1 + (p.1.2.2 - p.1.1.2) ∧ p.2.1.2 = p.1.2.2 + (p.1.1.1 - p.1.2.1) ∧ cornerOf p = (p.1.1.1 + (p.1.2.2 - p.1.1.2), p.1.1.2 + (p.1.1.1 - p.1.2.1)) ∧ ld (cornerOf p) = true)) := by
  obtain ⟨m1, m2⟩ := cyc_mem hp
  have s1 := o.sh _ m1
  have s2 := o.sh _ m2
  have e := o.nx p hp
  obtain ⟨ht, c⟩ := nxSh_cases s1
  rw [← e] at ht c
  have hb := mem_sides.mp s1.b
  refine ⟨s1, s2, hΛ _ m1, hΛ _ m2, ?_⟩
  rcases c with c | c | c
  · refine .inl ⟨?_, c⟩
    unfold hF; rw [if_neg]
    intro z
    have z1 := congrArg Prod.fst z
    have z2 := congrArg Prod.snd z
    omega
  · refine .inr (.inl ⟨?_, c⟩)
    unfold hF; rw [if_neg]
    intro z
    have z1 := congrArg Prod.fst z
    have z2 := congrArg Prod.snd z
    omega
  · have ec : cornerOf p = (p.1.1.1 + (p.1.2.2 - p.1.1.2), p.1.1.2 + (p.1.1.1 - p.1.2.1)) := by
      unfold cornerOf
      have z1 := congrArg Prod.fst c.1
      have z2 := congrArg Prod.snd c.1
      apply Prod.ext
      · dsimp only; omega
      · dsimp only; omega
    refine .inr (.inr ⟨?_, c.1, c.2.1, c.2.2.1, ec, by rw [ec]; exact c.2.2.2⟩)
    unfold hF; rw [if_pos c.1]
theorem Lake.loc {p : Shore × Shore} (hp : p ∈ cyc O) : par (Hq w0) (pairsFrom p.1.1 (hF p)) = decide (p.2 = ((w0.1 - 1, w0.2), w0)) := by
  obtain ⟨s1, s2, l1, l2, c⟩ := K.cases o hΛ hp
  have b1 := mem_sides.mp s1.b
  have b2 := mem_sides.mp s2.b
  have m1 := K.min _ l1
  have m2 := K.min _ l2
  have n1 := K.ne s1.l
  have n2 := K.ne s2.l
  have et : p.2 = ((w0.1 - 1, w0.2), w0) ↔ (p.2.1.1 = w0.1 - 1 ∧ p.2.1.2 = w0.2) ∧ p.2.2.1 = w0.1 ∧ p.2.2.2 = w0.2 := by
    constructor
    · intro e; rw [e]; exact ⟨⟨rfl, rfl⟩, rfl, rfl⟩
    · rintro ⟨⟨h1, h2⟩, h3, h4⟩
      exact Prod.ext (Prod.ext h1 h2) (Prod.ext h3 h4)
  rcases c with ⟨h, c⟩ | ⟨h, c⟩ | ⟨h, c⟩
  · rw [h, c.1]
    show xor (Hq w0 (p.1.1, p.1.1)) false = _
    have e1 : Hq w0 (p.1.1, p.1.1) = false := by
      rw [Bool.eq_false_iff]; intro z
      rw [hq_iff] at z; dsimp only at z; omega
    rw [e1, eq_comm, Bool.xor_false, decide_eq_false_iff_not, et]
    have c1 := congrArg Prod.fst c.1
    have c2 := congrArg Prod.snd c.1
    omega
  · rw [h]
    show xor (Hq w0 (p.1.1, p.2.1)) false = _
    rw [Bool.xor_false, Bool.eq_iff_iff, decide_eq_true_eq, et, hq_iff]
    dsimp only
    omega
  · have k1 := K.ne c.2.2.2.2
    have c5 := congrArg Prod.fst c.2.2.2.1
    have c6 := congrArg Prod.snd c.2.2.2.1
    have c7 := congrArg Prod.fst c.1
    have c8 := congrArg Prod.snd c.1
    dsimp only at c5 c6
    rw [h]
    show xor (Hq w0 (p.1.1, cornerOf p)) (xor (Hq w0 (cornerOf p, p.2.1)) false) = _
    have e1 : Hq w0 (p.1.1, cornerOf p) = false := by
      rw [Bool.eq_false_iff]; intro z
      rw [hq_iff] at z; dsimp only at z; omega
    rw [e1, Bool.false_xor, Bool.xor_false, Bool.eq_iff_iff, decide_eq_true_eq, et, hq_iff]
    dsimp only
    omega
/-- the ring's squares are land, its steps go to a side, and it does not rise above the lake's top but for one row -/
theorem Lake.steps {x : Sq × Sq} (hx : x ∈ cyc (sqsOf O)) : ld x.1 = true ∧ ld x.2 = true ∧ w0.1 - 1 ≤ x.1.1 ∧ w0.1 - 1 ≤ x.2.1 ∧ (x.2 = x.1 ∨ x.2 ∈ sides x.1) := by
  rw [sqs_cyc] at hx
  obtain ⟨p, hp, hx⟩ := List.mem_flatMap.mp hx
  obtain ⟨s1, s2, l1, l2, c⟩ := K.cases o hΛ hp
  have b1 := mem_sides.mp s1.b
  have b2 := mem_sides.mp s2.b
  have m1 := K.min _ l1
  have m2 := K.min _ l2
  rcases c with ⟨h, c⟩ | ⟨h, c⟩ | ⟨h, c⟩
  · rw [h] at hx
    have hx : x ∈ [(p.1.1, p.2.1)] := hx
    simp at hx; subst hx
    refine ⟨s1.l, s2.l, ?_, ?_, .inl c.1⟩
    · dsimp only; omega
    · dsimp only; omega
  · rw [h] at hx
    have hx : x ∈ [(p.1.1, p.2.1)] := hx
    simp at hx; subst hx
    refine ⟨s1.l, s2.l, ?_, ?_, .inr (mem_sides.mpr ?_)⟩
    · dsimp only; omega
    · dsimp only; omega
    · dsimp only; omega
  · have c5 := congrArg Prod.fst c.2.2.2.1
    have c6 := congrArg Prod.snd c.2.2.2.1
    have c7 := congrArg Prod.fst c.1
    have c8 := congrArg Prod.snd c.1
    dsimp only at c5 c6
    rw [h] at hx
    have hx : x ∈ [(p.1.1, cornerOf p), (cornerOf p, p.2.1)] := hx
    simp at hx
    rcases hx with hx | hx
    · subst hx
      refine ⟨s1.l, c.2.2.2.2, ?_, ?_, .inr (mem_sides.mpr ?_)⟩
      · dsimp only; omega
      · dsimp only; omega
      · dsimp only; omega
    · subst hx
      refine ⟨c.2.2.2.2, s2.l, ?_, ?_, .inr (mem_sides.mpr ?_)⟩
      · dsimp only; omega
      · dsimp only; omega
      · dsimp only; omega
theorem Lake.inside : insB (ringH O) w0 = true := by
  unfold insB ringH
  rw [dedC_cyc, par_filter _ _ _ fun x hx e => ?_]
  · have key : par (rightB w0) (cyc (sqsOf O)) = par (fun x : Sq × Sq => xor (xor (decide (x.1.1 ≤ w0.1 ∧ w0.2 < x.1.2)) (decide (x.2.1 ≤ w0.1 ∧ w0.2 < x.2.2))) (Hq w0 x)) (cyc (sqsOf O)) := by
      refine par_congr fun x hx => ?_
      obtain ⟨d1, d2, r1, r2, st⟩ := K.steps o hΛ hx
      have n1 := K.ne d1
      have n2 := K.ne d2
      have st : (x.2.1 = x.1.1 ∧ x.2.2 = x.1.2) ∨ ((x.2.1 = x.1.1 - 1 ∧ x.2.2 = x.1.2) ∨ (x.2.1 = x.1.1 ∧ x.2.2 = x.1.2 - 1) ∨ (x.2.1 = x.1.1 ∧ x.2.2 = x.1.2 + 1) ∨ (x.2.1 = x.1.1 + 1 ∧ x.2.2 = x.1.2)) := by
        rcases st with e | e
        · exact .inl ⟨congrArg Prod.fst e, congrArg Prod.snd e⟩
        · exact .inr (mem_sides.mp e)
      cases hA : decide (x.1.1 ≤ w0.1 ∧ w0.2 < x.1.2) <;> cases hB : decide (x.2.1 ≤ w0.1 ∧ w0.2 < x.2.2) <;> cases hC : Hq w0 x <;>
        simp only [decide_eq_true_eq, decide_eq_false_iff_not, ← Bool.not_eq_true, hq_iff] at hA hB hC <;>
        simp only [Bool.xor_false, Bool.xor_true, Bool.not_false, Bool.not_true, Bool.false_xor, Bool.true_xor] <;>
        first
          | (rw [rightB_iff]; omega)
          | (rw [← Bool.not_eq_true, rightB_iff]; omega)
    rw [key, par_xor (fun x : Sq × Sq => xor (decide (x.1.1 ≤ w0.1 ∧ w0.2 < x.1.2)) (decide (x.2.1 ≤ w0.1 ∧ w0.2 < x.2.2))) (Hq w0), par_cyc (fun q : Sq => decide (q.1 ≤ w0.1 ∧ w0.2 < q.2)), Bool.false_xor, sqs_cyc, par_flat, par_congr (g := fun p => decide (p.2 = ((w0.1 - 1, w0.2), w0))) fun p hp => K.loc o hΛ hp]
    have := par_map (fun s : Shore => decide (s = ((w0.1 - 1, w0.2), w0))) (fun p : Shore × Shore => p.2) (cyc O)
    rw [cyc_seconds] at this
    rw [← this]
    exact par_one o.nd o.mem
  · have e : x.2 = x.1 := by simpa using e
    rw [← Bool.not_eq_true, rightB_iff, e]
    omega
end
end Y

/-! rings that hold a lake: their steps, their length, what is inside -/
namespace Y
open PySem PySem.Spec PyProof.Rows L2
theorem par_some {α : Type} {f : α → Bool} : ∀ {l : List α}, par f l = true → ∃ x ∈ l, f x = true
  | [], h => by cases h
  | x :: xs, h => by
    have h : xor (f x) (par f xs) = true := h
    cases e : f x with
    | true => exact ⟨x, List.mem_cons_self, e⟩
    | false =>
      rw [e, Bool.false_xor] at h
      obtain ⟨y, hy, e2⟩ := par_some h
      exact ⟨y, List.mem_cons_of_mem _ hy, e2⟩
section
variable {ld : Sq → Bool} {w0 : Sq} {Λ : Sq → Prop} (K : Lake ld w0 Λ)
variable {O : List Shore} (o : Orb ld ((w0.1 - 1, w0.2), w0) O) (hΛ : ∀ s ∈ O, Λ s.2)
include K o hΛ
theorem Lake.ring_in {x : Sq × Sq} (hx : x ∈ cyc (sqsOf O)) (hne : x.2 ≠ x.1) : x.1 ∈ ringH O ∧ x.2 ∈ ringH O := by
  have : x ∈ cyc (ringH O) := by
    unfold ringH; rw [dedC_cyc]
    exact List.mem_filter.mpr ⟨hx, by simpa using hne⟩
  exact cyc_mem this
theorem Lake.long : 4 ≤ (ringH O).length := by
  have f1 : ((w0.1 - 1, w0.2), w0) ∈ (cyc O).map (·.2) := by rw [cyc_seconds]; exact o.mem
  obtain ⟨p0, h0, e0⟩ := List.mem_map.mp f1
  have f2 : ((w0.1 - 1, w0.2), w0) ∈ (cyc O).map (·.1) := cyc_firsts.mem_iff.mpr o.mem
  obtain ⟨p1, h1, e1⟩ := List.mem_map.mp f2
  have q0 := K.loc o hΛ h0
  rw [e0, decide_eq_true rfl] at q0
  obtain ⟨x, hx, hq⟩ := par_some q0
  have hxc : x ∈ cyc (sqsOf O) := by rw [sqs_cyc]; exact List.mem_flatMap.mpr ⟨p0, h0, hx⟩
  have hq := hq_iff.mp hq
  have xne : x.2 ≠ x.1 := fun e => by
    have a := congrArg Prod.fst e
    have b := congrArg Prod.snd e
    omega
  obtain ⟨x1, x2⟩ := K.ring_in o hΛ hxc xne
  have mA : (w0.1 - 1, w0.2) ∈ ringH O ∧ (w0.1 - 1, w0.2 + 1) ∈ ringH O := by
    rcases hq with ⟨a, b⟩ | ⟨a, b⟩
    · have g1 : x.1 = (w0.1 - 1, w0.2) := Prod.ext a.1 a.2
      have g2 : x.2 = (w0.1 - 1, w0.2 + 1) := Prod.ext b.1 b.2
      exact ⟨g1 ▸ x1, g2 ▸ x2⟩
    · have g1 : x.2 = (w0.1 - 1, w0.2) := Prod.ext a.1 a.2
      have g2 : x.1 = (w0.1 - 1, w0.2 + 1) := Prod.ext b.1 b.2
      exact ⟨g1 ▸ x2, g2 ▸ x1⟩
  obtain ⟨s1, s2, l1, l2, c⟩ := K.cases o hΛ h1
  have m2 := K.min _ l2
  rw [e1] at c
  dsimp only at c
  rcases c with ⟨h, c⟩ | ⟨h, c⟩ | ⟨h, c⟩
  · have c1 := c.2.1
    have c2 := c.2.2
    omega
  · have c1 := c.2.2.1
    have c2 := c.2.2.2
    omega
  · have hpair : pairsFrom p1.1.1 (hF p1) = [(p1.1.1, cornerOf p1), (cornerOf p1, p1.2.1)] := by rw [h]; rfl
    have hc : (cornerOf p1, p1.2.1) ∈ cyc (sqsOf O) := by
      rw [sqs_cyc]; exact List.mem_flatMap.mpr ⟨p1, h1, by rw [hpair]; simp⟩
    have k1 := congrArg Prod.fst c.2.2.2.1
    have k2 := congrArg Prod.snd c.2.2.2.1
    dsimp only at k1 k2
    have cne : p1.2.1 ≠ cornerOf p1 := fun e => by
      have a := congrArg Prod.fst e
      have b := congrArg Prod.snd e
      omega
    obtain ⟨y1, y2⟩ := K.ring_in o hΛ hc cne
    have mB : (w0.1 - 1, w0.2 - 1) ∈ ringH O := by
      have : cornerOf p1 = (w0.1 - 1, w0.2 - 1) := Prod.ext (by dsimp only; omega) (by dsimp only; omega)
      exact this ▸ y1
    have mC : (w0.1, w0.2 - 1) ∈ ringH O := by
      have : p1.2.1 = (w0.1, w0.2 - 1) := Prod.ext (by dsimp only; omega) (by dsimp only; omega)
      exact this ▸ y2
    have nd : [((w0.1 - 1, w0.2) : Sq), (w0.1 - 1, w0.2 + 1), (w0.1 - 1, w0.2 - 1), (w0.1, w0.2 - 1)].Nodup := by
      have d : ∀ {a b c d : Int}, (a ≠ c ∨ b ≠ d) → ((a, b) : Sq) ≠ (c, d) := fun h e => by
        have e1 := congrArg Prod.fst e
        have e2 := congrArg Prod.snd e
        dsimp only at e1 e2
        omega
      simp only [List.nodup_cons, List.mem_cons, List.not_mem_nil, or_false, not_or, List.nodup_nil, and_true, not_false_eq_true]
      exact ⟨⟨d (by omega), d (by omega), d (by omega)⟩, ⟨d (by omega), d (by omega)⟩, d (by omega)⟩
    exact nodup_le nd fun q hq => by
      simp only [List.mem_cons, List.not_mem_nil, or_false] at hq
      rcases hq with e | e | e | e <;> rw [e]
      · exact mA.1
      · exact mA.2
      · exact mB
      · exact mC
end
end Y

/-! charts drawn with a water to the left and a land to the right; lands listed -/
namespace Y
open PySem PySem.Spec PyProof.Rows L2
def law_dry7M (a_chart : (List Str)) : WP (List Sq) := (WP.lc (WP.b1 (WP.pure a_chart) law_allM) (fun c1 => (WP.eq (WP.ixS (WP.ix (WP.pure a_chart) (WP.pure c1.1)) (WP.pure c1.2)) (WP.pure (Str.ofString "x")))) (fun c1 => (WP.pair (WP.pure c1.1) (WP.pure c1.2)))).bind fun r1 => (WP.pure r1)
theorem dry_is {ch : List Str} (c : Ch ch) : Is (law_dry7M ch) (landList ch) := by
  have ha := c.area
  refine Is.ret (Is.eq (Is.lc (p := isLd ch) (g := fun q => (q.1, q.2)) (Is.b1 Is.pure (law_all_is c)) (by omega) (fun x hx => ?_) fun x _ _ => Is.b2 Is.pure Is.pure Is.pure) ?_)
  · have hs := mem_allSq.mp hx
    refine Is.eq (Is.eqv (Is.sign c hs) Is.pure) ?_
    unfold isLd; rw [hs]; rfl
  · unfold landList
    conv => rhs; rw [← List.map_id ((allSq ch).filter (isLd ch))]
    exact List.map_congr_left fun q _ => rfl
end Y

/-! ways to the sea and holding rings: what the defs give -/
namespace Y
open PySem PySem.Spec PyProof.Rows L2
/-- what a holding ring must be -/
def holdB (ch : List Str) (x : Sq) (R : List Sq) : Bool := ((ringB R && (cyc R).all fun p => decide (p.2 ∈ sides p.1)) && R.all (isLd ch)) && insB R x
end Y

/-! ways to the sea -/
namespace Y
open PySem PySem.Spec PyProof.Rows L2
def isMg (ch : List Str) (q : Sq) : Bool := isNr ch q && !isSq ch q
theorem Way.wt {ch : List Str} {a b : Sq} {w : List Sq} (h : Way (wtBeside ch) a b w) (ha : isWt ch a = true) : ∀ q ∈ w, isWt ch q = true := by
  obtain ⟨t, rfl, e, hp⟩ := h
  intro q hq
  rcases List.mem_cons.mp hq with e | hq
  · rw [e]; exact ha
  · have hs : q ∈ (pairsFrom a t).map (·.2) := by rw [seconds]; exact hq
    obtain ⟨r, hr, e⟩ := List.mem_map.mp hs
    rw [← e]; exact (List.mem_filter.mp (hp r hr)).2
end Y

/-! two lands in one water: none is inside the ring around the other -/
namespace Y
open PySem PySem.Spec PyProof.Rows L2
theorem rb_same {x p q : Sq} (h : p.1 = q.1) : rightB x (p, q) = false := by
  rw [← Bool.not_eq_true, rightB_iff]; dsimp only; omega
theorem rb_dn {x p q : Sq} (h : q.1 = p.1 + 1) : rightB x (p, q) = decide (p.1 = x.1 ∧ x.2 < p.2) := by
  rw [Bool.eq_iff_iff, rightB_iff, decide_eq_true_eq]; dsimp only; omega
theorem rb_up {x p q : Sq} (h : p.1 = q.1 + 1) : rightB x (p, q) = decide (q.1 = x.1 ∧ x.2 < q.2) := by
  rw [Bool.eq_iff_iff, rightB_iff, decide_eq_true_eq]; dsimp only; omega
theorem xor_iff' {a b : Bool} : (xor a b = true) ↔ (a = true ∧ ¬ b = true) ∨ (¬ a = true ∧ b = true) := by cases a <;> cases b <;> simp
section
variable {ld : Sq → Bool} {s0 : Shore} {O : List Shore} (o : Orb ld s0 O)
include o
/-- what a step of the orbit gives -/
theorem Orb.cases3 {p : Shore × Shore} (hp : p ∈ cyc O) : Sh ld p.1 ∧ Sh ld p.2 ∧
    ((hF p = [p.2.1] ∧ p.2.1 = p.1.1 ∧ p.2.2.1 = p.1.1.1 + (p.1.2.2 - p.1.1.2) ∧ p.2.2.2 = p.1.1.2 + (p.1.1.1 - p.1.2.1)) ∨
     (hF p = [p.2.1] ∧ p.2.1.1 = p.1.1.1 + (p.1.2.2 - p.1.1.2) ∧ p.2.1.2 = p.1.1.2 + (p.1.1.1 - p.1.2.1) ∧ p.2.2.1 = p.1.2.1 + (p.1.2.2 - p.1.1.2) ∧ p.2.2.2 = p.1.2.2 + (p.1.1.1 - p.1.2.1)) ∨
     (hF p = [cornerOf p, p.2.1] ∧ p.2.2 = p.1.2 ∧ p.2.1.1 = p.1.2.1 + (p.1.2.2 - p.1.1.2) ∧ p.2.1.2 = p.1.2.2 + (p.1.1.1 - p.1.2.1) ∧ cornerOf p = (p.1.1.1 + (p.1.2.2 - p.1.1.2), p.1.1.2 + (p.1.1.1 - p.1.2.1)) ∧ ld (cornerOf p) = true)) := by
  obtain ⟨m1, m2⟩ := cyc_mem hp
  have s1 := o.sh _ m1
  have s2 := o.sh _ m2
  have e := o.nx p hp
  obtain ⟨ht, c⟩ := nxSh_cases s1
  rw [← e] at ht c
  have hb := mem_sides.mp s1.b
  refine ⟨s1, s2, ?_⟩
  rcases c with c | c | c
  · refine .inl ⟨?_, c⟩
    unfold hF; rw [if_neg]
    intro z
    have z1 := congrArg Prod.fst z
    have z2 := congrArg Prod.snd z
    omega
  · refine .inr (.inl ⟨?_, c⟩)
    unfold hF; rw [if_neg]
    intro z
    have z1 := congrArg Prod.fst z
    have z2 := congrArg Prod.snd z
    omega
  · have ec : cornerOf p = (p.1.1.1 + (p.1.2.2 - p.1.1.2), p.1.1.2 + (p.1.1.1 - p.1.2.1)) := by
      unfold cornerOf
      have z1 := congrArg Prod.fst c.1
      have z2 := congrArg Prod.snd c.1
      apply Prod.ext
      · dsimp only; omega
      · dsimp only; omega
    refine .inr (.inr ⟨?_, c.1, c.2.1, c.2.2.1, ec, by rw [ec]; exact c.2.2.2⟩)
    unfold hF; rw [if_pos c.1]
/-- a step of shores: no square is between -/
theorem Orb.quad {x : Sq} (h1 : ∀ s ∈ O, s.1 ≠ x) (h2 : ∀ s ∈ O, s.2 ≠ x) {p : Shore × Shore} (hp : p ∈ cyc O) (h3 : cornerOf p ≠ x ∨ ld x = false ∨ ¬ Rch (stp ld) s0.1 x) : xor (rightB x (p.1.2, p.2.2)) (par (rightB x) (pairsFrom p.1.1 (hF p))) = xor (rightB x p.1) (rightB x p.2) := by
  obtain ⟨s1, s2, c⟩ := o.cases3 hp
  have ne : ∀ {q : Sq}, q ≠ x → ¬ (q.1 = x.1 ∧ q.2 = x.2) := fun h e => h (Prod.ext e.1 e.2)
  have n1 := ne (h1 _ (cyc_mem hp).1)
  have n2 := ne (h2 _ (cyc_mem hp).1)
  have n3 := ne (h1 _ (cyc_mem hp).2)
  have n4 := ne (h2 _ (cyc_mem hp).2)
  have b1 := mem_sides.mp s1.b
  have r1 := o.con _ (cyc_mem hp).1
  clear ne h1 h2 s2
  obtain ⟨⟨⟨a1, a2⟩, w1, w2⟩, ⟨c1, c2⟩, d1, d2⟩ := p
  obtain ⟨x1, x2⟩ := x
  dsimp only at *
  rcases c with ⟨h, c⟩ | ⟨h, c⟩ | ⟨h, c⟩
  · rw [h]
    injection c.1 with e1 e2
    obtain ⟨_, e3, e4⟩ := c
    show xor _ (xor (rightB (x1, x2) ((a1, a2), (c1, c2))) false) = _
    rw [rb_same (p := (a1, a2)) (q := (c1, c2)) (by dsimp only; omega)]
    rcases b1 with b1 | b1 | b1 | b1 <;>
      (first | rw [rb_same (p := (w1, w2)) (q := (d1, d2)) (by dsimp only; omega)] | rw [rb_dn (p := (w1, w2)) (q := (d1, d2)) (by dsimp only; omega)] | rw [rb_up (p := (w1, w2)) (q := (d1, d2)) (by dsimp only; omega)]) <;>
      (first | rw [rb_same (p := (a1, a2)) (q := (w1, w2)) (by dsimp only; omega)] | rw [rb_dn (p := (a1, a2)) (q := (w1, w2)) (by dsimp only; omega)] | rw [rb_up (p := (a1, a2)) (q := (w1, w2)) (by dsimp only; omega)]) <;>
      (first | rw [rb_same (p := (c1, c2)) (q := (d1, d2)) (by dsimp only; omega)] | rw [rb_dn (p := (c1, c2)) (q := (d1, d2)) (by dsimp only; omega)] | rw [rb_up (p := (c1, c2)) (q := (d1, d2)) (by dsimp only; omega)]) <;>
      (rw [Bool.eq_iff_iff]; simp only [xor_iff', decide_eq_true_eq, Bool.false_eq_true, and_false, false_and, not_false_eq_true, and_true, or_false, false_or, not_true_eq_false, true_and]; try (constructor <;> intro _ <;> first | contradiction | omega))
  · rw [h]
    show xor _ (xor (rightB (x1, x2) ((a1, a2), (c1, c2))) false) = _
    rcases b1 with b1 | b1 | b1 | b1 <;>
      (first | rw [rb_same (p := (w1, w2)) (q := (d1, d2)) (by dsimp only; omega)] | rw [rb_dn (p := (w1, w2)) (q := (d1, d2)) (by dsimp only; omega)] | rw [rb_up (p := (w1, w2)) (q := (d1, d2)) (by dsimp only; omega)]) <;>
      (first | rw [rb_same (p := (a1, a2)) (q := (c1, c2)) (by dsimp only; omega)] | rw [rb_dn (p := (a1, a2)) (q := (c1, c2)) (by dsimp only; omega)] | rw [rb_up (p := (a1, a2)) (q := (c1, c2)) (by dsimp only; omega)]) <;>
      (first | rw [rb_same (p := (a1, a2)) (q := (w1, w2)) (by dsimp only; omega)] | rw [rb_dn (p := (a1, a2)) (q := (w1, w2)) (by dsimp only; omega)] | rw [rb_up (p := (a1, a2)) (q := (w1, w2)) (by dsimp only; omega)]) <;>
      (first | rw [rb_same (p := (c1, c2)) (q := (d1, d2)) (by dsimp only; omega)] | rw [rb_dn (p := (c1, c2)) (q := (d1, d2)) (by dsimp only; omega)] | rw [rb_up (p := (c1, c2)) (q := (d1, d2)) (by dsimp only; omega)]) <;>
      (rw [Bool.eq_iff_iff]; simp only [xor_iff', decide_eq_true_eq, Bool.false_eq_true, and_false, false_and, not_false_eq_true, and_true, or_false, false_or, not_true_eq_false, true_and]; try (constructor <;> intro _ <;> first | contradiction | omega))
  · obtain ⟨e0, e1, e2, e3, e4⟩ := c
    injection e0 with f1 f2
    have rc : Rch (stp ld) s0.1 (cornerOf (((a1, a2), (w1, w2)), ((c1, c2), (d1, d2)))) := .step r1 (List.mem_filter.mpr ⟨by rw [e3]; exact mem_sides.mpr (by clear n1 n2 n3 n4; dsimp only; omega), e4⟩)
    have nx : cornerOf (((a1, a2), (w1, w2)), ((c1, c2), (d1, d2))) ≠ (x1, x2) := by
      rcases h3 with h3 | h3 | h3
      · exact h3
      · intro e; rw [e, h3] at e4; cases e4
      · intro e; rw [e] at rc; exact h3 rc
    rw [e3] at nx
    rw [h, e3]
    have n5 : ¬ (a1 + (w2 - a2) = x1 ∧ a2 + (a1 - w1) = x2) := fun e => nx (by rw [e.1, e.2])
    clear nx rc h3 h e3 e4 hp s1 r1
    revert n5
    generalize hk1 : a1 + (w2 - a2) = k1
    generalize hk2 : a2 + (a1 - w1) = k2
    intro n5
    show xor _ (xor (rightB (x1, x2) ((a1, a2), (k1, k2))) (xor (rightB (x1, x2) ((k1, k2), (c1, c2))) false)) = _
    rw [rb_same (p := (w1, w2)) (q := (d1, d2)) f1.symm]
    rcases b1 with b1 | b1 | b1 | b1 <;>
      (first | rw [rb_same (p := (a1, a2)) (q := (k1, k2)) (by dsimp only; omega)] | rw [rb_dn (p := (a1, a2)) (q := (k1, k2)) (by dsimp only; omega)] | rw [rb_up (p := (a1, a2)) (q := (k1, k2)) (by dsimp only; omega)]) <;>
      (first | rw [rb_same (p := (k1, k2)) (q := (c1, c2)) (by dsimp only; omega)] | rw [rb_dn (p := (k1, k2)) (q := (c1, c2)) (by dsimp only; omega)] | rw [rb_up (p := (k1, k2)) (q := (c1, c2)) (by dsimp only; omega)]) <;>
      (first | rw [rb_same (p := (a1, a2)) (q := (w1, w2)) (by dsimp only; omega)] | rw [rb_dn (p := (a1, a2)) (q := (w1, w2)) (by dsimp only; omega)] | rw [rb_up (p := (a1, a2)) (q := (w1, w2)) (by dsimp only; omega)]) <;>
      (first | rw [rb_same (p := (c1, c2)) (q := (d1, d2)) (by dsimp only; omega)] | rw [rb_dn (p := (c1, c2)) (q := (d1, d2)) (by dsimp only; omega)] | rw [rb_up (p := (c1, c2)) (q := (d1, d2)) (by dsimp only; omega)]) <;>
      (rw [Bool.eq_iff_iff]; simp only [xor_iff', decide_eq_true_eq, Bool.false_eq_true, and_false, false_and, not_false_eq_true, and_true, or_false, false_or, not_true_eq_false, true_and]; try (constructor <;> intro _ <;> first | contradiction | omega))
/-- the ring of water and the ring of land run side by side -/
theorem Orb.same {x : Sq} (h1 : ∀ s ∈ O, s.1 ≠ x) (h2 : ∀ s ∈ O, s.2 ≠ x) (h3 : ld x = false ∨ ¬ Rch (stp ld) s0.1 x) : insB (ringOf O) x = insB (ringH O) x := by
  have e1 : insB (ringOf O) x = par (fun p : Shore × Shore => rightB x (p.1.2, p.2.2)) (cyc O) := by
    unfold insB
    rw [o.cyc_ring, par_filter _ _ _ fun p _ hp => ?_, par_map]
    rw [Bool.not_eq_false', decide_eq_true_eq] at hp
    rw [← Bool.not_eq_true, rightB_iff, hp]
    omega
  have e2 : insB (ringH O) x = par (fun p : Shore × Shore => par (rightB x) (pairsFrom p.1.1 (hF p))) (cyc O) := by
    unfold insB ringH
    rw [dedC_cyc, par_filter _ _ _ fun p _ hp => ?_, sqs_cyc, par_flat]
    rw [Bool.not_eq_false', decide_eq_true_eq] at hp
    rw [← Bool.not_eq_true, rightB_iff, hp]
    omega
  have e3 := par_xor (fun p : Shore × Shore => rightB x (p.1.2, p.2.2)) (fun p : Shore × Shore => par (rightB x) (pairsFrom p.1.1 (hF p))) (cyc O)
  rw [par_congr fun p hp => o.quad h1 h2 hp (.inr h3), par_cyc (fun s : Shore => rightB x s), ← e1, ← e2] at e3
  revert e3
  cases insB (ringOf O) x <;> cases insB (ringH O) x <;> decide
end
end Y

/-! lands and waters of a chart, told once -/
namespace Y
open PySem PySem.Spec PyProof.Rows L2
end Y

/-! one square more: papers of ways and rings before and behind it -/
namespace Y
open PySem PySem.Spec PyProof.Rows L2
/-! ways, judged -/
/-! a square more -/
structure AddL (ch new : List Str) (s : Sq) : Prop where
  ld : ∀ p, isLd new p = (isLd ch p || decide (p = s))
  no : isLd ch s = false
  nr : ∀ p, isNr new p = isNr ch p
  sq : ∀ p, isSq new p = isSq ch p
  sin : isSq ch s = true
section
variable {ch new : List Str} {s : Sq} (A : AddL ch new s)
include A
theorem AddL.all_ld (w : List Sq) : w.all (isLd ch) = (w.all (isLd new) && decide (s ∉ w)) := by
  rw [Bool.eq_iff_iff, Bool.and_eq_true, List.all_eq_true, List.all_eq_true, decide_eq_true_eq]
  constructor
  · intro h
    refine ⟨fun q hq => by rw [A.ld, h q hq]; rfl, fun hs => ?_⟩
    have := h s hs
    rw [A.no] at this; cases this
  · rintro ⟨h, hs⟩ q hq
    have := h q hq
    rw [A.ld] at this
    have hne : q ≠ s := fun e => hs (e ▸ hq)
    rwa [decide_eq_false hne, Bool.or_false] at this
theorem AddL.all_wt (w : List Sq) : w.all (isWt new) = (w.all (isWt ch) && decide (s ∉ w)) := by
  rw [Bool.eq_iff_iff, Bool.and_eq_true, List.all_eq_true, List.all_eq_true, decide_eq_true_eq]
  constructor
  · intro h
    refine ⟨fun q hq => ?_, fun hs => ?_⟩
    · have := isWt_iff.mp (h q hq)
      rw [A.nr, A.ld, Bool.or_eq_false_iff] at this
      exact isWt_iff.mpr ⟨this.1, this.2.1⟩
    · have := (isWt_iff.mp (h s hs)).2
      rw [A.ld, decide_eq_true rfl, Bool.or_true] at this; cases this
  · rintro ⟨h, hs⟩ q hq
    have := isWt_iff.mp (h q hq)
    have hne : q ≠ s := fun e => hs (e ▸ hq)
    exact isWt_iff.mpr ⟨by rw [A.nr]; exact this.1, by rw [A.ld, this.2, decide_eq_false hne]; rfl⟩
theorem AddL.mg (q : Sq) : isMg new q = isMg ch q := by unfold isMg; rw [A.nr, A.sq]
theorem AddL.part (a b : Sq) (R : List Sq) : partB new a b R = (partB ch a b R && decide (s ∉ R)) := by
  unfold partB; rw [A.all_wt R]
  generalize ringB R = x; generalize R.all (isWt ch) = y; generalize (!decide (insB R a = insB R b)) = z; generalize decide (s ∉ R) = u
  cases x <;> cases y <;> cases z <;> cases u <;> rfl
theorem AddL.hold (a : Sq) (R : List Sq) : holdB ch a R = (holdB new a R && decide (s ∉ R)) := by
  unfold holdB; rw [A.all_ld R]
  generalize (ringB R && (cyc R).all fun p => decide (p.2 ∈ sides p.1)) = x; generalize R.all (isLd new) = y; generalize insB R a = z; generalize decide (s ∉ R) = u
  cases x <;> cases y <;> cases z <;> cases u <;> rfl
theorem AddL.mono {a b : Sq} (h : Rch (ldBeside ch) a b) : Rch (ldBeside new) a b := by
  induction h with
  | refl => exact .refl
  | step _ h2 ih =>
    obtain ⟨m1, m2⟩ := mem_ldB.mp h2
    exact .step ih (mem_ldB.mpr ⟨m1, by rw [A.ld, m2]; rfl⟩)
/-- beside the square and joined with a -/
def Touch (ch : List Str) (s a : Sq) : Prop := ∃ t ∈ sides s, isLd ch t = true ∧ Rch (ldBeside ch) a t
theorem AddL.split {a y : Sq} (ha : isLd ch a = true) (h : Rch (ldBeside new) a y) : Rch (ldBeside ch) a y ∨ Touch ch s a := by
  induction h with
  | refl => exact .inl .refl
  | @step p q _ h2 ih =>
    rcases ih with ih | ih
    · obtain ⟨m1, m2⟩ := mem_ldB.mp h2
      rw [A.ld, Bool.or_eq_true, decide_eq_true_eq] at m2
      rcases m2 with m2 | m2
      · exact .inl (.step ih (mem_ldB.mpr ⟨m1, m2⟩))
      · subst m2
        have hp : isLd ch p = true := (rch_land ih).elim (fun e => e ▸ ha) id
        refine .inr ⟨p, ?_, hp, ih⟩
        have := mem_sides.mp m1
        exact mem_sides.mpr (by omega)
    · exact .inr ih
theorem AddL.to {a : Sq} (h : Touch ch s a) : Rch (ldBeside new) a s := by
  obtain ⟨t, h1, h2, h3⟩ := h
  refine .step (A.mono h3) (mem_ldB.mpr ⟨?_, by rw [A.ld, decide_eq_true rfl, Bool.or_true]⟩)
  have := mem_sides.mp h1
  exact mem_sides.mpr (by omega)
end
end Y

set_option maxHeartbeats 1000000
/-! what the late laws share: floods, rings -/
namespace Y
open PySem PySem.Spec L2
def law_atLM (a_chart : (List Str)) (a_r : Int) (a_c : Int) : WP Bool := (WP.and (WP.chain (fun i j => decide (i ≤ j)) (fun i j => decide (i < j)) (WP.pure (0 : Int)) (WP.pure a_r) (WP.len (WP.pure a_chart))) (WP.and (WP.chain (fun i j => decide (i ≤ j)) (fun i j => decide (i < j)) (WP.pure (0 : Int)) (WP.pure a_c) (WP.lenS (WP.ix (WP.pure a_chart) (WP.pure (0 : Int))))) (WP.eq (WP.ixS (WP.ix (WP.pure a_chart) (WP.pure a_r)) (WP.pure a_c)) (WP.pure (Str.ofString "x"))))).bind fun r1 => (WP.pure r1)
def law_sidesLM (a_square : Sq) : WP (List Sq) := (WP.pure a_square).bind fun a1_r_c => (WP.row (WP.consE (WP.pair (WP.sub (WP.pure a1_r_c.1) (WP.pure (1 : Int))) (WP.pure a1_r_c.2)) (WP.consE (WP.pair (WP.pure a1_r_c.1) (WP.sub (WP.pure a1_r_c.2) (WP.pure (1 : Int)))) (WP.consE (WP.pair (WP.pure a1_r_c.1) (WP.add (WP.pure a1_r_c.2) (WP.pure (1 : Int)))) (WP.consE (WP.pair (WP.add (WP.pure a1_r_c.1) (WP.pure (1 : Int))) (WP.pure a1_r_c.2)) (WP.pure ([] : List Sq))))))).bind fun r2 => (WP.pure r2)
def law_aroundLM (a_square : Sq) : WP (List Sq) := (WP.pure a_square).bind fun a1_r_c => (WP.row (WP.pure ([] : List Sq))).bind fun a2_found => (WP.row (WP.consE (WP.neg (WP.pure (1 : Int))) (WP.consE (WP.pure (0 : Int)) (WP.consE (WP.pure (1 : Int)) (WP.pure ([] : List Int)))))).bind fun xs3 => WP.after (WP.loop (γ := (List Sq)) (fun c3 (y3 : (List Sq)) => (WP.row (WP.consE (WP.neg (WP.pure (1 : Int))) (WP.consE (WP.pure (0 : Int)) (WP.consE (WP.pure (1 : Int)) (WP.pure ([] : List Int)))))).bind fun xs4 => WP.after (WP.loop (γ := (List Sq)) (fun c4 (y4 : (List Sq)) => ((WP.or (WP.ne (WP.pure c3) (WP.pure (0 : Int))) (WP.ne (WP.pure c4) (WP.pure (0 : Int)))).bind fun b => WP.cond b (((WP.pair (WP.add (WP.pure a1_r_c.1) (WP.pure c3)) (WP.add (WP.pure a1_r_c.2) (WP.pure c4))).bind fun a => WP.req (y4.length < 100000) (y4 ++ [a])).bind fun a6_found => (WP.pure a6_found)) ((WP.pure y4))).bind fun (y5 : (List Sq)) => (WP.pure (.nx y5))) xs4 y3) (fun (z4 : (List Sq)) => (WP.pure (.nx z4))) (fun r => (WP.pure (.rt r)))) xs3 a2_found) (fun (z3 : (List Sq)) => (WP.pure z3)) (fun r => (WP.pure r))
def law_spreadLM (a_squares : (List Sq)) (a_start : Sq) (a_wide : Bool) : WP (List Sq) := (WP.pure ([] : (List (Sq × Bool)))).bind fun a1_known => WP.after (WP.loop (γ := (List Sq)) (fun c2 (y2 : (List (Sq × Bool))) => (WP.b2 (WP.pure false) (WP.pure c2) fun b q => WP.req (y2.length < 100000) (putQ y2 q b)).bind fun a3_known => (WP.pure (.nx a3_known))) a_squares a1_known) (fun (z2 : (List (Sq × Bool))) => (WP.row (WP.consE (WP.pure a_start) (WP.pure ([] : List Sq)))).bind fun a4_met => (WP.b2 (WP.pure true) (WP.pure a_start) fun b q => WP.req (z2.length < 100000) (putQ z2 q b)).bind fun a5_known => (WP.range1 (WP.pure (3000 : Int))).bind fun xs6 => WP.after (WP.loop (γ := (List Sq)) (fun c6 (y6 : (List (Sq × Bool)) × (List Sq)) => ((WP.lt (WP.pure c6) (WP.len (WP.pure y6.2))).bind fun b => WP.cond b (((WP.ite (WP.pure a_wide) (WP.b1 (WP.ix (WP.pure y6.2) (WP.pure c6)) law_aroundLM) (WP.b1 (WP.ix (WP.pure y6.2) (WP.pure c6)) law_sidesLM)).bind fun xs => WP.pure (⟨xs⟩ : (Ls Sq))).bind fun a8_near => ((WP.pure a8_near).bind fun x => WP.pure x.l).bind fun xs9 => WP.after (WP.loop (γ := (List Sq)) (fun c9 (y9 : (List (Sq × Bool)) × (List Sq)) => ((WP.and (WP.din (WP.pure c9) (WP.pure y9.1)) (WP.not (WP.dget (WP.pure y9.1) (WP.pure c9)))).bind fun b => WP.cond b ((WP.b2 (WP.pure true) (WP.pure c9) fun b q => WP.req (y9.1.length < 100000) (putQ y9.1 q b)).bind fun a11_known => ((WP.pure c9).bind fun a => WP.req (y9.2.length < 100000) (y9.2 ++ [a])).bind fun a12_met => (WP.pure (a11_known, a12_met))) ((WP.pure (y9.1, y9.2)))).bind fun (y10 : (List (Sq × Bool)) × (List Sq)) => (WP.pure (.nx (y10.1, y10.2)))) xs9 (y6.1, y6.2)) (fun (z9 : (List (Sq × Bool)) × (List Sq)) => (WP.pure (z9.1, z9.2))) (fun r => (WP.none (b := r)))) ((WP.pure (y6.1, y6.2)))).bind fun (y7 : (List (Sq × Bool)) × (List Sq)) => (WP.pure (.nx (y7.1, y7.2)))) xs6 (a5_known, a4_met)) (fun (z6 : (List (Sq × Bool)) × (List Sq)) => (WP.pure z6.2)) (fun r => (WP.pure r))) (fun r => (WP.pure r))
theorem lookK_put {β : Type} {kvs : List (Sq × β)} {q p : Sq} {b : β} : lookK (putQ kvs q b) p = if p = q then some b else lookK kvs p := by
  cases h : hasK kvs q with
  | true => exact lookN_put (κ := Sq) h p
  | false =>
    rw [putQ_new h]
    have hn : lookK kvs q = none := by
      unfold hasK at h
      cases e : lookK kvs q with
      | none => rfl
      | some x => rw [e] at h; cases h
    unfold lookK at hn ⊢
    rw [List.find?_append]
    by_cases e : p = q
    · subst e
      rw [if_pos rfl]
      rw [Option.map_eq_none_iff] at hn
      rw [hn]; simp
    · rw [if_neg e]
      have : ([(q, b)] : List (Sq × β)).find? (fun x => decide (x.1 = p)) = none := by simp; exact fun z => e z.symm
      rw [this]; simp
theorem putQ_same {β : Type} {kvs : List (Sq × β)} {q : Sq} {b : β} (h : hasK kvs q = true) : (putQ kvs q b).length = kvs.length := by
  rw [putQ_old h, List.length_map]
theorem putQ_len1 {β : Type} (kvs : List (Sq × β)) (q : Sq) (b : β) : (putQ kvs q b).length ≤ kvs.length + 1 := by
  unfold putQ
  split
  · rw [List.length_map]; omega
  · rw [List.length_append, List.length_singleton]; omega
def nbW (wide : Bool) (p : Sq) : List Sq := if wide then nbrs p else sides p
theorem law_aroundL_is (q : Sq) : Is (law_aroundLM q) (nbrs q) := neighbours_is q
theorem law_sidesL_is (q : Sq) : Is (law_sidesLM q) (sides q) := sides_is q
/-- what a flood knows: i squares looked at -/
structure Fl (sq : List Sq) (s : Sq) (st : Sq → List Sq) (i : Nat) (y : List (Sq × Bool) × List Sq) : Prop where
  km : ∀ q, lookK y.1 q = if q ∈ y.2 then some true else if q ∈ sq then some false else none
  kl : y.1.length ≤ sq.length + 1
  nd : y.2.Nodup
  sub : ∀ q ∈ y.2, q = s ∨ q ∈ sq
  s0 : s ∈ y.2
  rch : ∀ q ∈ y.2, Rch st s q
  cl : ∀ j p, j < i → y.2[j]? = some p → ∀ x ∈ st p, x ∈ y.2
theorem Fl.len {sq : List Sq} {s : Sq} {st : Sq → List Sq} {i : Nat} {y : List (Sq × Bool) × List Sq} (f : Fl sq s st i y) : y.2.length ≤ sq.length + 1 := by
  have := nodup_le (U := s :: sq) f.nd fun q hq => by
    rcases f.sub q hq with rfl | h
    · exact List.mem_cons_self
    · exact List.mem_cons_of_mem _ h
  rwa [List.length_cons] at this
theorem spread_gives {sq : List Sq} {s : Sq} {wide : Bool} (hl : sq.length < 2999) : Gives (law_spreadLM sq s wide) (fun met => (∀ q, q ∈ met ↔ Rch (fun p => (nbW wide p).filter fun x => decide (x = s) || decide (x ∈ sq)) s q) ∧ met.Nodup) := by
  intro n Q q
  unfold law_spreadLM
  rw [WP.run_bind, WP.run_pure]
  refine WP.after_inv (fun i m y => m = n ∧ y.length ≤ i ∧ ∀ p, lookK y p = if p ∈ sq.take i then some false else none) ⟨rfl, Nat.le_refl _, fun p => by simp [lookK]⟩ (fun i m c y hi hI => ?_) fun m y hI => ?_
  · obtain ⟨rfl, h1, h2⟩ := hI
    have hi' := (List.getElem?_eq_some_iff.mp hi).1
    rw [WP.run_bind]
    refine Is.run (a := putQ y c false) (Is.b2 Is.pure Is.pure (Is.req (by omega))) ?_
    refine ⟨rfl, by have := putQ_len1 y c false; omega, fun p => ?_⟩
    rw [lookK_put, h2 p, take_snoc hi]
    by_cases e : p = c
    · rw [if_pos e, if_pos (by rw [e]; simp)]
    · rw [if_neg e]
      by_cases e2 : p ∈ sq.take i
      · rw [if_pos e2, if_pos (List.mem_append_left _ e2)]
      · rw [if_neg e2, if_neg fun z => by
          rcases List.mem_append.mp z with z | z
          · exact e2 z
          · exact e (List.mem_singleton.mp z)]
  · obtain ⟨rfl, h1, h2⟩ := hI
    rw [List.take_length] at h2
    rw [WP.run_bind]
    refine Is.run (Is.row1 Is.pure) ?_
    rw [WP.run_bind]
    refine Is.run (a := putQ y s true) (Is.b2 Is.pure Is.pure (Is.req (by omega))) ?_
    rw [WP.run_bind]
    refine Is.run (Is.range1 Is.pure (by decide)) ?_
    refine WP.after_inv (fun i m' z => m' = m ∧ Fl sq s (fun p => (nbW wide p).filter fun x => decide (x = s) || decide (x ∈ sq)) i z) ⟨rfl, ⟨fun p => ?_, by have := putQ_len1 y s true; show (putQ y s true).length ≤ _; omega, by simp, fun p hp => .inl (List.mem_singleton.mp hp), by simp, fun p hp => by rw [List.mem_singleton.mp hp]; exact .refl, fun j p hj => by omega⟩⟩ (fun i m' t z hi hI => ?_) fun m' z hI => ?_
    · show lookK (putQ y s true) p = if p ∈ [s] then _ else _
      rw [lookK_put, h2 p]
      by_cases e : p = s
      · rw [if_pos e, if_pos (by rw [e]; simp)]
      · rw [if_neg e, if_neg (show ¬ p ∈ [s] from fun z => e (List.mem_singleton.mp z))]
    · obtain ⟨rfl, f⟩ := hI
      obtain ⟨rfl, _⟩ := rangeL0_get hi
      rw [WP.run_bind, WP.run_bind]
      refine Is.run (Is.lt Is.pure (Is.len Is.pure)) ?_
      rw [WP.run_cond]
      refine ⟨fun h => ?_, fun h => ?_⟩
      · have h : (i : Int) < (z.2.length : Int) := of_decide_eq_true h
        have hiz : i < z.2.length := by omega
        rw [WP.run_bind]
        have e1 : Is (WP.ix (WP.pure z.2) (WP.pure (i : Int))) (z.2[i]) := (Is.ix Is.pure Is.pure ⟨by omega, by omega⟩).eq (ixD_nat hiz)
        generalize hc : z.2[i] = c at e1
        have hget : z.2[i]? = some c := by rw [List.getElem?_eq_getElem hiz, hc]
        refine Is.run (a := (⟨nbW wide c⟩ : Ls Sq)) (Is.bind ((Is.ite Is.pure (fun _ => Is.b1 e1 (law_aroundL_is c)) fun _ => Is.b1 e1 (law_sidesL_is c)).eq (by unfold nbW; rfl)) Is.pure) ?_
        rw [WP.run_bind]
        refine Is.run (Is.bind Is.pure Is.pure) ?_
        have fl := f.len
        refine WP.after_inv (fun j m2 x => m2 = m' ∧ Fl sq s (fun p => (nbW wide p).filter fun x => decide (x = s) || decide (x ∈ sq)) i x ∧ x.2[i]? = some c ∧ ∀ o ∈ (nbW wide c).take j, (o = s ∨ o ∈ sq) → o ∈ x.2) ⟨rfl, f, hget, fun o ho => by simp at ho⟩ (fun j m2 o x hj hx => ?_) fun m2 x hx => ?_
        · obtain ⟨rfl, g, gc, gn⟩ := hx
          have gl := g.len
          have gk := g.kl
          have hmem : c ∈ x.2 := List.mem_of_getElem? gc
          have kmo := g.km o
          rw [WP.run_bind, WP.run_bind]
          have e2 : Is (WP.and (WP.din (WP.pure o) (WP.pure x.1)) (WP.not (WP.dget (WP.pure x.1) (WP.pure o)))) (decide (o ∉ x.2 ∧ o ∈ sq)) := by
            refine (Is.and (x := hasK x.1 o) (y := !getK x.1 o) (Is.b2 Is.pure Is.pure Is.pure) fun h => Is.not (Is.b2 Is.pure Is.pure (Is.req h))).eq ?_
            unfold hasK getK
            rw [kmo]
            by_cases a : o ∈ x.2
            · rw [if_pos a, decide_eq_false fun z => z.1 a]; rfl
            · rw [if_neg a]
              by_cases b : o ∈ sq
              · rw [if_pos b, decide_eq_true ⟨a, b⟩]; rfl
              · rw [if_neg b, decide_eq_false fun z => b z.2]; rfl
          refine Is.run e2 ?_
          rw [WP.run_cond]
          refine ⟨fun h => ?_, fun h => ?_⟩
          · obtain ⟨a, b⟩ := of_decide_eq_true h
            have hk : hasK x.1 o = true := by unfold hasK; rw [kmo, if_neg a, if_pos b]; rfl
            rw [WP.run_bind]
            refine Is.run (a := putQ x.1 o true) (Is.b2 Is.pure Is.pure (Is.req (by omega))) ?_
            rw [WP.run_bind]
            refine Is.run (a := x.2 ++ [o]) (Is.bind Is.pure (Is.req (by omega))) ?_
            refine ⟨rfl, ⟨fun p => ?_, by show (putQ x.1 o true).length ≤ _; rw [putQ_same hk]; exact gk, ?_, fun p hp => ?_, List.mem_append_left _ g.s0, fun p hp => ?_, fun k p hk2 hp y hy => ?_⟩, ?_, fun p hp hps => ?_⟩
            · show lookK (putQ x.1 o true) p = if p ∈ x.2 ++ [o] then _ else _
              rw [lookK_put, g.km p]
              by_cases e : p = o
              · rw [if_pos e, if_pos (by rw [e]; simp)]
              · rw [if_neg e]
                by_cases e2 : p ∈ x.2
                · rw [if_pos e2, if_pos (List.mem_append_left _ e2)]
                · rw [if_neg e2, if_neg (show ¬ p ∈ x.2 ++ [o] from fun z => by
                    rcases List.mem_append.mp z with z | z
                    · exact e2 z
                    · exact e (List.mem_singleton.mp z))]
            · refine List.nodup_append.mpr ⟨g.nd, by simp, fun u hu v hv e => ?_⟩
              rw [List.mem_singleton.mp hv] at e
              exact a (e ▸ hu)
            · rcases List.mem_append.mp hp with hp | hp
              · exact g.sub p hp
              · rw [List.mem_singleton.mp hp]; exact .inr b
            · rcases List.mem_append.mp hp with hp | hp
              · exact g.rch p hp
              · rw [List.mem_singleton.mp hp]
                refine .step (g.rch c hmem) (List.mem_filter.mpr ⟨List.mem_of_getElem? hj, ?_⟩)
                rw [decide_eq_true b, Bool.or_true]
            · have hkl : k < x.2.length := by
                have := (List.getElem?_eq_some_iff.mp gc).1
                omega
              rw [show (x.1, x.2).2 = x.2 from rfl] at *
              have hp : (x.2 ++ [o])[k]? = some p := hp
              rw [List.getElem?_append_left hkl] at hp
              exact List.mem_append_left _ (g.cl k p hk2 hp y hy)
            · show (x.2 ++ [o])[i]? = some c
              rw [List.getElem?_append_left (List.getElem?_eq_some_iff.mp gc).1]; exact gc
            · rw [take_snoc hj] at hp
              rcases List.mem_append.mp hp with hp | hp
              · exact List.mem_append_left _ (gn p hp hps)
              · rw [List.mem_singleton.mp hp]; exact List.mem_append_right _ (List.mem_singleton.mpr rfl)
          · refine ⟨rfl, g, gc, fun p hp hps => ?_⟩
            rw [take_snoc hj] at hp
            rcases List.mem_append.mp hp with hp | hp
            · exact gn p hp hps
            · have hpo := List.mem_singleton.mp hp
              subst hpo
              apply Classical.byContradiction
              intro hn
              rcases hps with hps | hps
              · exact hn (by rw [hps]; exact g.s0)
              · exact of_decide_eq_false h ⟨hn, hps⟩
        · obtain ⟨rfl, g, gc, gn⟩ := hx
          rw [List.take_length] at gn
          refine ⟨rfl, g.km, g.kl, g.nd, g.sub, g.s0, g.rch, fun k p hk hp y hy => ?_⟩
          by_cases e : k = i
          · subst e
            rw [gc] at hp
            cases hp
            obtain ⟨hy1, hy2⟩ := List.mem_filter.mp hy
            refine gn y hy1 ?_
            rw [Bool.or_eq_true, decide_eq_true_eq, decide_eq_true_eq] at hy2
            exact hy2
          · exact g.cl k p (by omega) hp y hy
      · have h : ¬ (i : Int) < (z.2.length : Int) := of_decide_eq_false h
        refine ⟨rfl, f.km, f.kl, f.nd, f.sub, f.s0, f.rch, fun k p hk hp => ?_⟩
        have hp' : z.2[k]? = some p := hp
        have := (List.getElem?_eq_some_iff.mp hp').1
        exact f.cl k p (by omega) hp'
    · obtain ⟨rfl, f⟩ := hI
      have fl := f.len
      rw [rangeL0_len] at f
      refine q _ ⟨fun p => ⟨f.rch p, fun h => ?_⟩, f.nd⟩
      induction h with
      | refl => exact f.s0
      | step h1 h2 ih =>
        obtain ⟨k, hk, e⟩ := List.getElem_of_mem ih
        have hk' : k < z.2.length := hk
        exact f.cl k _ (show k < 3000 by omega) (by rw [List.getElem?_eq_getElem hk, e]) _ h2
section
variable {ch : List Str} (c : Ch ch)
include c
theorem law_atL_is (r k : Int) : Is (law_atLM ch r k) (isLd ch (r, k)) := law_at7_is c r k
omit c in
end
end Y

set_option maxHeartbeats 1000000
/-! reliefs as the late laws draw them -/
namespace Y
open PySem PySem.Spec L2
def law_pickLM (_ : Unit) (a_squares : (List Sq)) : WP Sq := (WP.ix (WP.pure a_squares) (WP.b2 (WP.pure ()) (WP.len (WP.pure a_squares)) m_take)).bind fun r1 => (WP.pure r1)

theorem draw_pickL {row : List Sq} (h : 0 < row.length) : Draws (law_pickLM () row) 1 (· ∈ row) := by
  intro n Q hn q
  unfold law_pickLM
  (simp only [WP.run_bind, WP.run_pure, WP.run_req, WP.run_any, WP.run_take, WP.run_cond, WP.run_range1, WP.run_range2, decide_eq_true_eq, decide_eq_false_iff_not, Bool.not_eq_true', Bool.not_eq_false'])
  exact ⟨by omega, by omega, fun x x0 x1 => ⟨⟨by omega, by omega⟩, q _ _ (by omega) (by omega) (ixD_mem x0 x1)⟩⟩
end Y

set_option maxHeartbeats 1000000
/-! charts as the late laws draw them; charts put together and cut -/
namespace Y
open PySem PySem.Spec PyProof.Rows L2
def law_gridLM (_ : Unit) (a_rows : Int) (a_columns : Int) : WP (List Str) := (WP.b2 (WP.pure ()) (WP.pure (6 : Int)) m_take).bind fun a1_style => (WP.ix (WP.row (WP.consE (WP.pure (2 : Int)) (WP.consE (WP.pure (3 : Int)) (WP.consE (WP.pure (4 : Int)) (WP.consE (WP.pure (5 : Int)) (WP.pure ([] : List Int))))))) (WP.b2 (WP.pure ()) (WP.pure (4 : Int)) m_take)).bind fun a2_chance => (WP.row (WP.pure ([] : List (List Str)))).bind fun a3_grid => (WP.range1 (WP.pure a_rows)).bind fun xs4 => WP.after (WP.loop (γ := (List Str)) (fun c4 (y4 : (List (List Str))) => (WP.row (WP.pure ([] : List Str))).bind fun a5_row => (WP.range1 (WP.pure a_columns)).bind fun xs6 => WP.after (WP.loop (γ := (List Str)) (fun c6 (y6 : (List Str)) => (WP.gt (WP.b2 (WP.pure ()) (WP.pure a2_chance) m_take) (WP.pure (0 : Int))).bind fun a7_land => ((WP.eq (WP.pure a1_style) (WP.pure (1 : Int))).bind fun b => WP.cond b ((WP.eq (WP.b2 (WP.pure ()) (WP.pure a2_chance) m_take) (WP.pure (0 : Int))).bind fun a16_land => (WP.pure a16_land)) ((WP.pure a7_land))).bind fun (y8 : Bool) => ((WP.eq (WP.pure a1_style) (WP.pure (2 : Int))).bind fun b => WP.cond b ((WP.eq (WP.mod (WP.min4 (WP.pure c4) (WP.pure c6) (WP.sub (WP.sub (WP.pure a_rows) (WP.pure (1 : Int))) (WP.pure c4)) (WP.sub (WP.sub (WP.pure a_columns) (WP.pure (1 : Int))) (WP.pure c6))) (WP.pure (2 : Int))) (WP.pure (0 : Int))).bind fun a15_land => (WP.pure a15_land)) ((WP.pure y8))).bind fun (y9 : Bool) => ((WP.eq (WP.pure a1_style) (WP.pure (3 : Int))).bind fun b => WP.cond b ((WP.eq (WP.mod (WP.add (WP.pure c4) (WP.pure c6)) (WP.pure (2 : Int))) (WP.pure (0 : Int))).bind fun a14_land => (WP.pure a14_land)) ((WP.pure y9))).bind fun (y10 : Bool) => ((WP.eq (WP.pure a1_style) (WP.pure (4 : Int))).bind fun b => WP.cond b ((WP.or (WP.eq (WP.mod (WP.pure c4) (WP.pure (2 : Int))) (WP.pure (0 : Int))) (WP.eq (WP.pure c6) (WP.ix (WP.row (WP.consE (WP.pure (0 : Int)) (WP.consE (WP.sub (WP.pure a_columns) (WP.pure (1 : Int))) (WP.pure ([] : List Int))))) (WP.mod (WP.fdiv (WP.pure c4) (WP.pure (2 : Int))) (WP.pure (2 : Int)))))).bind fun a13_land => (WP.pure a13_land)) ((WP.pure y10))).bind fun (y11 : Bool) => ((WP.ite (WP.pure y11) (WP.pure (Str.ofString "x")) (WP.pure (Str.ofString "."))).bind fun a => WP.req (y6.length < 100000) (y6 ++ [a])).bind fun a12_row => (WP.pure (.nx a12_row))) xs6 a5_row) (fun (z6 : (List Str)) => (WP.req (y4.length < 100000) (y4 ++ [z6])).bind fun a17_grid => (WP.pure (.nx a17_grid))) (fun r => (WP.pure (.rt r)))) xs4 a3_grid) (fun (z4 : (List (List Str))) => (WP.range1 (WP.b2 (WP.pure ()) (WP.pure (4 : Int)) m_take)).bind fun xs18 => WP.after (WP.loop (γ := (List Str)) (fun c18 (y18 : (List (List Str))) => (WP.b2 (WP.pure ()) (WP.pure a_rows) m_take).bind fun a19_r => (WP.b2 (WP.pure ()) (WP.pure a_columns) m_take).bind fun a20_c => (WP.gset y18 (WP.ite (WP.eq (WP.ix (WP.ix (WP.pure y18) (WP.pure a19_r)) (WP.pure a20_c)) (WP.pure (Str.ofString "x"))) (WP.pure (Str.ofString ".")) (WP.pure (Str.ofString "x"))) (WP.pure a19_r) (WP.pure a20_c)).bind fun a21_grid => (WP.pure (.nx a21_grid))) xs18 z4) (fun (z18 : (List (List Str))) => ((WP.lc (WP.pure z18) (fun c1 => (WP.pure true)) (fun c1 => (WP.join (WP.pure (Str.ofString "")) (WP.pure c1)))).bind fun xs => WP.pure (α := List _) xs).bind fun r22 => (WP.pure r22)) (fun r => (WP.pure r))) (fun r => (WP.pure r))
def law_chartLM (_ : Unit) : WP (List Str) := (WP.add (WP.pure (1 : Int)) (WP.b2 (WP.pure ()) (WP.pure (7 : Int)) m_take)).bind fun a1_rows => (WP.add (WP.pure (1 : Int)) (WP.b2 (WP.pure ()) (WP.pure (7 : Int)) m_take)).bind fun a2_columns => ((WP.eq (WP.b2 (WP.pure ()) (WP.pure (10 : Int)) m_take) (WP.pure (0 : Int))).bind fun b => WP.cond b ((WP.add (WP.pure (1 : Int)) (WP.b2 (WP.pure ()) (WP.pure (12 : Int)) m_take)).bind fun a5_rows => (WP.add (WP.pure (1 : Int)) (WP.b2 (WP.pure ()) (WP.pure (12 : Int)) m_take)).bind fun a6_columns => (WP.pure (a5_rows, a6_columns))) ((WP.pure (a1_rows, a2_columns)))).bind fun (y3 : Int × Int) => (WP.b3 (WP.pure ()) (WP.pure y3.1) (WP.pure y3.2) law_gridLM).bind fun r4 => (WP.pure r4)
def chart_fromM (a_rows : Int) (a_columns : Int) (a_squares : (List Sq)) : WP (List Str) := (WP.lc (WP.range1 (WP.pure a_rows)) (fun c1 => (WP.pure true)) (fun c1 => (WP.rep (WP.row (WP.consE (WP.pure ("." : Str)) (WP.pure ([] : List Str)))) (WP.pure a_columns)))).bind fun a1_grid => WP.after (WP.loop (γ := (List Str)) (fun c2 (y2 : (List (List Str))) => ((WP.and (WP.chain (fun i j => decide (i ≤ j)) (fun i j => decide (i < j)) (WP.pure (0 : Int)) (WP.pure c2.1) (WP.pure a_rows)) (WP.chain (fun i j => decide (i ≤ j)) (fun i j => decide (i < j)) (WP.pure (0 : Int)) (WP.pure c2.2) (WP.pure a_columns))).bind fun b => WP.cond b ((WP.gset y2 (WP.pure ("x" : Str)) (WP.pure c2.1) (WP.pure c2.2)).bind fun a4_grid => (WP.pure a4_grid)) ((WP.pure y2))).bind fun (y3 : (List (List Str))) => (WP.pure (.nx y3))) a_squares a1_grid) (fun (z2 : (List (List Str))) => ((WP.lc (WP.pure z2) (fun c2 => (WP.pure true)) (fun c2 => (WP.join (WP.pure (Str.ofString "")) (WP.pure c2)))).bind fun xs => WP.pure (α := List _) xs).bind fun r5 => (WP.pure r5)) (fun r => (WP.pure r))
def size_ofM (a_chart : (List Str)) : WP Sq := (WP.pair (WP.len (WP.pure a_chart)) (WP.lenS (WP.ix (WP.pure a_chart) (WP.pure (0 : Int))))).bind fun r1 => (WP.pure r1)
def reverseM (a_chart : (List Str)) : WP (List Str) := (WP.b1 (WP.pure a_chart) size_ofM).bind fun a1_rows_columns => (WP.b3 (WP.pure a1_rows_columns.1) (WP.pure a1_rows_columns.2) (WP.lc (WP.b1 (WP.pure a_chart) squares_ofM) (fun c1 => (WP.not (WP.b2 (WP.pure a_chart) (WP.pure c1) is_landM))) (fun c1 => (WP.pure c1))) chart_fromM).bind fun r2 => (WP.pure r2)
def windowM (a_chart : (List Str)) (a_top : Int) (a_left : Int) (a_rows : Int) (a_columns : Int) : WP (List Str) := (WP.b3 (WP.pure a_rows) (WP.pure a_columns) (WP.lc (WP.b1 (WP.pure a_chart) land_squaresM) (fun c1 => (WP.pure true)) (fun c1 => (WP.pair (WP.sub (WP.pure c1.1) (WP.pure a_top)) (WP.sub (WP.pure c1.2) (WP.pure a_left))))) chart_fromM).bind fun r1 => (WP.pure r1)
theorem draw_gridL {rows columns : Int} (hr : 1 ≤ rows) (hr2 : rows ≤ 40) (hc : 1 ≤ columns) (hc2 : columns ≤ 40) : Draws (law_gridLM () rows columns) 5000 (ChO rows columns) := by
  have er : ((rows.toNat : Nat) : Int) = rows := by omega
  have ec : ((columns.toNat : Nat) : Int) = columns := by omega
  have hmul : rows.toNat * columns.toNat ≤ 40 * 40 := Nat.mul_le_mul (by omega) (by omega)
  have hmul2 : rows.toNat * (columns.toNat * 2) ≤ 40 * 80 := Nat.mul_le_mul (by omega) (by omega)
  have tk : ∀ many : Int, 0 < many → Draws (WP.b2 (WP.pure ()) (WP.pure many) m_take) 1 (fun x => 0 ≤ x ∧ x < many) := fun many h => Draws.take h
  unfold law_gridLM
  refine Draws.imp (k := 1 + (1 + (0 + (0 + ((rangeL 0 rows).length * (columns.toNat * 2) + 9))))) ?_ (by rw [rangeL0_len]; omega) (fun _ h => h)
  refine Draws.bind (tk 6 (by decide)) fun style hs => Draws.bind (k := 1) (P := fun x => 2 ≤ x) (fun n Q hn q => ⟨by simp, by omega, by decide, fun x x0 x1 => ⟨⟨by simp; omega, by simp; omega⟩, q _ _ (by omega) (by omega) ?_⟩⟩) fun ch hch => ?_
  · have : x = 0 ∨ x = 1 ∨ x = 2 ∨ x = 3 := by omega
    rcases this with e | e | e | e <;> subst e <;> decide
  refine Draws.bind (Is.draws (Is.req (by simp))) fun G0 hG0 => ?_
  subst hG0
  refine Draws.bind (P := fun xs => xs = rangeL 0 rows) (Is.draws (by rw [← er]; exact Is.range1 (k := rows.toNat) Is.pure (by omega))) fun xs hxs => ?_
  subst hxs
  refine Draws.loop (fun i y => SGrid y i columns.toNat) (columns.toNat * 2) ⟨rfl, fun _ h => by cases h⟩ (fun i a y ha hg => ?_) (fun y hg => ?_)
  · obtain ⟨rfl, hi⟩ := rangeL0_get ha
    refine Draws.imp (k := 0 + (0 + ((rangeL 0 columns).length * 2 + 0))) ?_ (by rw [rangeL0_len]; omega) (fun _ h => h)
    refine Draws.bind (Is.draws (Is.req (by simp))) fun G0 hG0 => ?_
    subst hG0
    refine Draws.bind (P := fun xs => xs = rangeL 0 columns) (Is.draws (by rw [← ec]; exact Is.range1 (k := columns.toNat) Is.pure (by omega))) fun xs hxs => ?_
    subst hxs
    refine Draws.loop (fun j r => r.length = j ∧ ∀ d ∈ r, d = (⟨#[120]⟩ : Str) ∨ d = ⟨#[46]⟩) 2 ⟨rfl, fun _ h => by cases h⟩ (fun j b r hb hr' => ?_) (fun r hr' => ?_)
    · obtain ⟨rfl, hj⟩ := rangeL0_get hb
      refine Draws.imp (k := 1 + (1 + 0)) ?_ (by omega) (fun _ h => h)
      refine Draws.bind (P := tt) (fun n Q hn q => ⟨by omega, by omega, fun x x0 x1 => q _ _ (by omega) (by omega) trivial⟩) fun b _ => ?_
      refine Draws.bind (P := tt) ?_ fun _ _ => Gives.draws ?_
      · intro n Q hn q
        rw [WP.run_bind]
        refine eq_ok n _ fun b _ => ?_
        cases b with
        | true => exact ⟨by omega, by omega, fun x x0 x1 => q _ _ (by omega) (by omega) trivial⟩
        | false => exact q _ _ (by omega) (by omega) trivial
      refine Gives.bind (style_if eq_ok edge_ok) fun _ _ => ?_
      refine Gives.bind (style_if eq_ok (fun n Q q => by (simp only [WP.run_bind, WP.run_pure, WP.run_req, WP.run_any, WP.run_take, WP.run_cond, WP.run_range1, WP.run_range2, decide_eq_true_eq, decide_eq_false_iff_not, Bool.not_eq_true', Bool.not_eq_false']); exact ⟨by decide, q _ trivial⟩)) fun _ _ => ?_
      refine Gives.bind (style_if eq_ok wind_ok) fun _ _ => ?_
      exact sign_app _ hr'.1 (by omega) hr'.2
    · refine Gives.draws (Is.gives (Is.bind (Is.req (by have := hg.len; omega)) Is.pure) ⟨_, rfl, by rw [List.length_append, hg.len]; rfl, fun r2 hr2 => ?_⟩)
      rcases List.mem_append.mp hr2 with h | h
      · exact hg.row r2 h
      · rw [List.mem_singleton.mp h]
        refine ⟨by rw [hr'.1, rangeL0_len], hr'.2⟩
  · rw [rangeL0_len] at hg
    refine Draws.imp (k := 1 + 8) ?_ (by omega) (fun _ h => h)
    refine Draws.bind (P := fun xs => xs.length ≤ 4) (fun n Q hn q => ⟨by omega, by decide, fun x x0 x1 => ⟨⟨by omega, by omega⟩, q _ _ (by omega) (by omega) (by show (rangeL 0 x).length ≤ 4; rw [rangeL0_len]; omega)⟩⟩) fun xs hxs => ?_
    refine Draws.imp (k := xs.length * 2 + 0) ?_ (by omega) (fun _ h => h)
    refine Draws.loop (fun _ G => SGrid G rows.toNat columns.toNat) 2 hg (fun i a G ha hG => grid_turn hG er.symm ec.symm (by omega) (by omega) (by omega) (by omega)) (fun G hG => ?_)
    refine Draws.imp (Gives.draws (grid_end hG (by omega) (by omega) (by omega) (by omega))) (Nat.le_refl _) fun ch h => ?_
    rw [er, ec] at h
    exact h
theorem draw_chartL : Draws (law_chartLM ()) 5010 (fun ch => GC ch ∧ ch.length ≤ 12 ∧ wid ch ≤ 12) := by
  have dim : ∀ k : Int, 0 < k → Draws (WP.add (WP.pure (1 : Int)) (WP.b2 (WP.pure ()) (WP.pure k) m_take)) 1 (fun x => 1 ≤ x ∧ x ≤ k) := fun k hk n Q hn q => ⟨by omega, hk, fun x h0 h1 => q _ _ (by omega) (by omega) ⟨by omega, by omega⟩⟩
  unfold law_chartLM
  refine Draws.go (dim 7 (by decide)) fun rows hr => ?_
  refine Draws.go (dim 7 (by decide)) fun cols hc => ?_
  refine Draws.go (k := 3) (P := fun p => (1 ≤ p.1 ∧ p.1 ≤ 12) ∧ 1 ≤ p.2 ∧ p.2 ≤ 12) ?_ fun p hp => ?_
  · refine Draws.go (k := 1) (P := tt) (fun n Q hn q => ⟨by omega, by decide, fun x h0 h1 => q _ _ (by omega) (by omega) trivial⟩) fun b _ => ?_
    cases b with
    | true =>
      refine Draws.go (dim 12 (by decide)) fun rows hr => ?_
      refine Draws.go (dim 12 (by decide)) fun cols hc => ?_
      exact (Draws.pure ⟨hr, hc⟩).skip
    | false => exact (Draws.pure ⟨⟨hr.1, by omega⟩, hc.1, by omega⟩).skip
  · refine Draws.go (k := 5000) (P := ChO p.1 p.2) (Draws.u3 Is.pure Is.pure (draw_gridL hp.1.1 (by omega) hp.2.1 (by omega))) fun ch h => ?_
    exact (Draws.pure ⟨GC.of h, by have := h.len; omega, by have := h.wd; omega⟩).skip
theorem flat_rep {α : Type} (a : α) : ∀ n : Nat, (List.replicate n [a]).flatten = List.replicate n a
  | 0 => rfl
  | n + 1 => by rw [List.replicate_succ, List.flatten_cons, flat_rep a n, List.replicate_succ]; rfl
/-! a chart from its squares of land -/
def blank (r c : Nat) : List Str := List.replicate r (mkS (List.replicate c 46))
theorem blank_wid {r c : Nat} (hr : 0 < r) : wid (blank r c) = c := by
  unfold wid blank
  have e : ixD (List.replicate r (mkS (List.replicate c 46))) 0 = mkS (List.replicate c 46) := ixD_of (i := 0) (by rw [List.getElem?_replicate, if_pos hr])
  rw [e]
  show (mkS _).cps.toList.length = c
  rw [tl_mkS, List.length_replicate]
theorem blank_gc {r c : Nat} (hr : 0 < r) (hr2 : r ≤ 300) (hc : 0 < c) (hc2 : c ≤ 300) : GC (blank r c) := by
  have hw := blank_wid (c := c) hr
  refine ⟨⟨by unfold blank; rw [List.length_replicate]; exact hr, by unfold blank; rw [List.length_replicate]; exact hr2, fun s hs => ?_, by rw [hw]; exact hc, by rw [hw]; exact hc2⟩, fun s hs k hk => ?_⟩
  · rw [hw, (List.mem_replicate.mp hs).2]
    show (mkS _).cps.toList.length = c
    rw [tl_mkS, List.length_replicate]
  · rw [(List.mem_replicate.mp hs).2, tl_mkS] at hk
    exact .inr (List.mem_replicate.mp hk).2
theorem blank_len {r c : Nat} : (blank r c).length = r := by unfold blank; rw [List.length_replicate]
theorem blank_ld {r c : Nat} (q : Sq) : isLd (blank r c) q = false := by
  cases e : isLd (blank r c) q with
  | false => rfl
  | true =>
    obtain ⟨h1, h2⟩ := isLd_iff.mp e
    have hh := isSq_iff.mp h1
    rw [blank_len] at hh
    have hr : 0 < r := by omega
    rw [blank_wid hr] at hh
    have e1 : ixD (blank r c) q.1 = mkS (List.replicate c 46) := by
      have e2 : q.1 = ((q.1.toNat : Nat) : Int) := by omega
      rw [e2]
      exact ixD_of (by unfold blank; rw [List.getElem?_replicate, if_pos (by omega)])
    rw [e1] at h2
    have e3 : sgn (mkS (List.replicate c 46)) q.2 = ⟨#[46]⟩ := by
      unfold sgn
      have e4 : q.2 = ((q.2.toNat : Nat) : Int) := by omega
      rw [tl_mkS, e4, ixD_of (i := q.2.toNat) (a := 46) (by rw [List.getElem?_replicate, if_pos (by omega)])]
    rw [e3] at h2
    exact absurd h2 (by decide +kernel)
def chF (r c : Nat) (qs : List Sq) : List Str := putS (blank r c) qs true
section
variable {r c : Nat} (hr : 0 < r) (hr2 : r ≤ 300) (hc : 0 < c) (hc2 : c ≤ 300)
include hr hr2 hc hc2
theorem chF_ok (qs : List Sq) : GC (chF r c qs) ∧ Sz (chF r c qs) (blank r c) := putS_ok (blank_gc hr hr2 hc hc2) true qs (blank_gc hr hr2 hc hc2) (Sz.refl _)
theorem chF_sq (qs : List Sq) (p : Sq) : isSq (chF r c qs) p = (decide (0 ≤ p.1) && decide (p.1 < (r : Int)) && (decide (0 ≤ p.2) && decide (p.2 < (c : Int)))) := by
  rw [(chF_ok hr hr2 hc hc2 qs).2.sq]
  unfold isSq
  rw [blank_len, blank_wid hr]
theorem chF_ld (qs : List Sq) (p : Sq) : isLd (chF r c qs) p = true ↔ (0 ≤ p.1 ∧ p.1 < (r : Int) ∧ 0 ≤ p.2 ∧ p.2 < (c : Int)) ∧ p ∈ qs := by
  have e := putS_ld (blank_gc hr hr2 hc hc2) true qs (blank_gc hr hr2 hc hc2) (Sz.refl _) p
  unfold chF putS
  rw [e, blank_ld]
  have hs : isSq (blank r c) p = true ↔ (0 ≤ p.1 ∧ p.1 < (r : Int) ∧ 0 ≤ p.2 ∧ p.2 < (c : Int)) := by rw [isSq_iff, blank_len, blank_wid hr]
  split
  · rename_i h; exact ⟨fun _ => ⟨hs.mp h.1, h.2⟩, fun _ => rfl⟩
  · rename_i h; exact ⟨fun z => (by cases z), fun z => absurd ⟨hs.mpr z.1, z.2⟩ h⟩
theorem chart_from_is {qs : List Sq} (hl : qs.length ≤ 100000) : Is (chart_fromM (r : Int) (c : Int) qs) (chF r c qs) := by
  have gb := blank_gc hr hr2 hc hc2
  have hbl := blank_len (r := r) (c := c)
  have hbw := blank_wid (c := c) hr
  unfold chart_fromM
  refine Is.bind (a := (blank r c).map signs) ?_ ?_
  · refine (Is.lcM (g := fun _ => List.replicate c (⟨#[46]⟩ : Str)) (Is.range1 Is.pure (by omega)) (by rw [rangeL0_len]; omega) fun x _ => ?_).eq ?_
    · refine (Is.bind (Is.row1 Is.pure) (Is.bind Is.pure (Is.req (a := (List.replicate ((c : Int)).toNat [("." : Str)]).flatten) ⟨by omega, by omega, by show 1 * _ ≤ _; omega⟩)) : Is (WP.rep _ _) _).eq ?_
      rw [Int.toNat_natCast, dot_str, flat_rep]
    · apply List.ext_getElem
      · rw [List.length_map, rangeL0_len, List.length_map, blank_len]; omega
      · intro i h1 h2
        rw [List.getElem_map, List.getElem_map]
        unfold blank
        rw [List.getElem_replicate, signs_map, tl_mkS, List.map_replicate]
  have key : ∀ (qs : List Sq) (acc : List Str), GC acc → Sz acc (blank r c) → Is (WP.after (WP.loop (γ := (List Str)) (fun c2 (y2 : (List (List Str))) => ((WP.and (WP.chain (fun i j => decide (i ≤ j)) (fun i j => decide (i < j)) (WP.pure (0 : Int)) (WP.pure c2.1) (WP.pure (r : Int))) (WP.chain (fun i j => decide (i ≤ j)) (fun i j => decide (i < j)) (WP.pure (0 : Int)) (WP.pure c2.2) (WP.pure (c : Int)))).bind fun b => WP.cond b ((WP.gset y2 (WP.pure ("x" : Str)) (WP.pure c2.1) (WP.pure c2.2)).bind fun a4_grid => (WP.pure a4_grid)) ((WP.pure y2))).bind fun (y3 : (List (List Str))) => (WP.pure (.nx y3))) qs (acc.map signs)) (fun (z2 : (List (List Str))) => ((WP.lc (WP.pure z2) (fun c2 => (WP.pure true)) (fun c2 => (WP.join (WP.pure (Str.ofString "")) (WP.pure c2)))).bind fun xs => WP.pure (α := List _) xs).bind fun r5 => (WP.pure r5)) (fun r => (WP.pure r))) (qs.foldl (fun c' q => if isSq (blank r c) q then setCh c' q (sgK true) else c') acc) := by
    intro qs
    induction qs with
    | nil =>
      intro acc ga sz
      refine Is.loopNil (Is.ret (Is.bind (Is.eq (Is.lcM (g := fun z => mkS (z.map cod)) Is.pure (by rw [List.length_map, sz.l]; omega) fun z hz => ?_) ?_) Is.pure))
      · obtain ⟨s, hs, rfl⟩ := List.mem_map.mp hz
        have e : (signs s).map cod = s.cps.toList := by
          rw [signs_map, List.map_map]
          conv => rhs; rw [← List.map_id s.cps.toList]
          exact List.map_congr_left fun x _ => rfl
        rw [e, mkS_tl]
        exact joinS_is (by have := ga.good.w s hs; have := ga.good.wl; omega)
      · rw [List.map_map]
        conv => rhs; rw [List.foldl_nil, ← List.map_id acc]
        refine List.map_congr_left fun s _ => ?_
        show mkS ((signs s).map cod) = s
        have e : (signs s).map cod = s.cps.toList := by
          rw [signs_map, List.map_map]
          conv => rhs; rw [← List.map_id s.cps.toList]
          exact List.map_congr_left fun x _ => rfl
        rw [e, mkS_tl]
    | cons q qs ih =>
      intro acc ga sz
      have tq : Is (WP.and (WP.chain (fun i j => decide (i ≤ j)) (fun i j => decide (i < j)) (WP.pure (0 : Int)) (WP.pure q.1) (WP.pure (r : Int))) (WP.chain (fun i j => decide (i ≤ j)) (fun i j => decide (i < j)) (WP.pure (0 : Int)) (WP.pure q.2) (WP.pure (c : Int)))) (isSq (blank r c) q) := by
        unfold isSq
        rw [hbl, hbw]
        exact Is.and (Is.chain Is.pure Is.pure fun _ => Is.pure) fun _ => Is.chain Is.pure Is.pure fun _ => Is.pure
      rw [List.foldl_cons]
      cases e : isSq (blank r c) q with
      | false =>
        rw [if_neg (by decide)]
        refine Is.loopNx (y := acc.map signs) (Is.bind (Is.bind tq ?_) Is.pure) (ih _ ga sz)
        rw [e]; exact Is.pure
      | true =>
        have h1' : isSq acc q = true := by rw [sz.sq]; exact e
        have hh := isSq_iff.mp h1'
        rw [if_pos rfl]
        refine Is.loopNx (y := (setCh acc q (sgK true)).map signs) (Is.bind (Is.bind tq ?_) Is.pure) (ih _ (gc_set ga h1' (sgK_or true)) ((sz_set ga.good h1' _).trans sz))
        rw [e]
        refine Is.bind ?_ Is.pure
        have o1 : okI (acc.map signs).length q.1 := ⟨by rw [List.length_map]; omega, by rw [List.length_map]; omega⟩
        have o2 : okI (ixD (acc.map signs) q.1).length q.2 := by
          rw [ixD_map hh.1 hh.2.1, signs_map, List.length_map, tl_len]
          exact ga.good.ok2 h1'
        rw [← grid_set ga.good h1' (sgK true), x_str]
        intro n Q hQ
        (simp only [WP.run_bind, WP.run_pure, WP.run_req, WP.run_any, WP.run_take, WP.run_cond, WP.run_range1, WP.run_range2, decide_eq_true_eq, decide_eq_false_iff_not, Bool.not_eq_true', Bool.not_eq_false'])
        exact ⟨o1, o2, hQ⟩
  exact key qs (blank r c) gb (Sz.refl _)
end
section
variable {ch : List Str} (g : GC ch)
include g
theorem size_of_is : Is (size_ofM ch) ((ch.length : Int), (wid ch : Int)) := Is.ret (Is.b2 (Is.len Is.pure) (Is.wid0 g.good) Is.pure)
def revC (ch : List Str) : List Str := chF ch.length (wid ch) ((allSq ch).filter fun q => !isLd ch q)
omit g in
theorem filter_area (c : Ch ch) (f : Sq → Bool) : ((allSq ch).filter f).length ≤ 100000 := Nat.le_trans (List.length_filter_le _ _) (by have := c.area; omega)
theorem reverse_is : Is (reverseM ch) (revC ch) := by
  have c := g.good
  refine Is.bind (size_of_is g) (Is.ret (Is.b3 Is.pure Is.pure (Is.lcF (Is.b1 Is.pure (squares_of_is c)) (by have := c.area; omega) fun x _ => Is.not (Is.b2 Is.pure Is.pure (is_land_is c x))) (chart_from_is c.ne c.hl c.w0 c.wl (filter_area c _))))
def winC (ch : List Str) (t l : Int) (r c : Nat) : List Str := chF r c (((allSq ch).filter (isLd ch)).map fun q => (q.1 - t, q.2 - l))
theorem window_is {t l : Int} {r c : Nat} (hr : 0 < r) (hr2 : r ≤ 300) (hc : 0 < c) (hc2 : c ≤ 300) : Is (windowM ch t l r c) (winC ch t l r c) :=
  Is.ret (Is.b3 Is.pure Is.pure (Is.lcM (Is.b1 Is.pure (land_squares_is g.good)) (filter_area g.good _) fun x _ => Is.b2 (Is.bind Is.pure (Is.bind Is.pure Is.pure)) (Is.bind Is.pure (Is.bind Is.pure Is.pure)) Is.pure) (chart_from_is hr hr2 hc hc2 (by rw [List.length_map]; exact filter_area g.good _)))
end
/-- all land of a lies in b -/
theorem within_true {a b : List Str} (ca : Ch a) (cb : Ch b) (h : ∀ q, isLd a q = true → isLd b q = true) : Is (is_withinM a b) true := by
  refine (is_within_is ca cb).eq (decide_eq_true ?_)
  have : (((allSq a).filter (isLd a)).filter fun q => !isLd b q) = [] := by
    rw [List.filter_eq_nil_iff]
    intro q hq
    rw [h q (List.mem_filter.mp hq).2]
    decide
  rw [this]; rfl
end Y

set_option maxHeartbeats 1000000
/-! ships: where they can lie, where they come to, what they sweep -/
namespace Y
open PySem PySem.Spec PyProof.Rows L2
def underM (a_size : Int) (a_place : Sq) : WP (List Sq) := (WP.pure a_place).bind fun a1_row_column => (WP.lc2 (WP.range1 (WP.pure a_size)) (fun c1 => (WP.pure true)) (fun c1 => (WP.range1 (WP.pure a_size))) (fun c1 d1 => (WP.pure true)) (fun c1 d1 => (WP.pair (WP.add (WP.pure a1_row_column.1) (WP.pure c1)) (WP.add (WP.pure a1_row_column.2) (WP.pure d1))))).bind fun r2 => (WP.pure r2)
def can_lieM (a_chart : (List Str)) (a_size : Int) (a_place : Sq) : WP Bool := (WP.b2 (WP.pure a_size) (WP.pure a_place) underM).bind fun xs1 => WP.after (WP.loop (γ := Bool) (fun c1 (y1 : Unit) => (WP.b2 (WP.pure a_chart) (WP.pure c1) is_landM).bind fun b => WP.cond b ((WP.pure false).bind fun r3 => (WP.pure (.rt r3))) ((WP.pure (.nx ())))) xs1 ()) (fun (z1 : Unit) => (WP.pure true).bind fun r4 => (WP.pure r4)) (fun r => (WP.pure r))
def ship_placesM (a_chart : (List Str)) (a_size : Int) : WP (List Sq) := (WP.row (WP.pure ([] : List Sq))).bind fun a1_found => (WP.range2 (WP.neg (WP.pure a_size)) (WP.add (WP.len (WP.pure a_chart)) (WP.pure (1 : Int)))).bind fun xs2 => WP.after (WP.loop (γ := (List Sq)) (fun c2 (y2 : (List Sq)) => (WP.range2 (WP.neg (WP.pure a_size)) (WP.add (WP.lenS (WP.ix (WP.pure a_chart) (WP.pure (0 : Int)))) (WP.pure (1 : Int)))).bind fun xs3 => WP.after (WP.loop (γ := (List Sq)) (fun c3 (y3 : (List Sq)) => ((WP.b3 (WP.pure a_chart) (WP.pure a_size) (WP.pair (WP.pure c2) (WP.pure c3)) can_lieM).bind fun b => WP.cond b (((WP.pair (WP.pure c2) (WP.pure c3)).bind fun a => WP.req (y3.length < 100000) (y3 ++ [a])).bind fun a5_found => (WP.pure a5_found)) ((WP.pure y3))).bind fun (y4 : (List Sq)) => (WP.pure (.nx y4))) xs3 y2) (fun (z3 : (List Sq)) => (WP.pure (.nx z3))) (fun r => (WP.pure (.rt r)))) xs2 a1_found) (fun (z2 : (List Sq)) => (WP.pure z2)) (fun r => (WP.pure r))
def free_placesM (a_chart : (List Str)) (a_size : Int) : WP (List (Sq × Bool)) := (WP.dc putQ (WP.b2 (WP.pure a_chart) (WP.pure a_size) ship_placesM) (fun c1 => (WP.pure true)) (fun c1 => (WP.pure c1)) (fun c1 => (WP.pure true))).bind fun r1 => (WP.pure r1)
def next_placesM (a_free : (List (Sq × Bool))) (a_place : Sq) : WP (List Sq) := (WP.lc (WP.b1 (WP.pure a_place) side_neighboursM) (fun c1 => (WP.din (WP.pure c1) (WP.pure a_free))) (fun c1 => (WP.pure c1))).bind fun r1 => (WP.pure r1)
def reached_placesM (a_free : (List (Sq × Bool))) (a_start : Sq) : WP (List (Sq × (Option Sq))) := (WP.b2 (WP.pure a_start) (WP.pure (none : (Option Sq))) fun x b => WP.pure [(x, b)]).bind fun a1_before => (WP.row (WP.consE (WP.pure a_start) (WP.pure ([] : List Sq)))).bind fun a2_queue => (WP.pure (0 : Int)).bind fun a3_at => WP.after (WP.whilst (γ := (List (Sq × (Option Sq)))) (fun (y4 : (List (Sq × (Option Sq))) × (List Sq) × Int) => (WP.lt (WP.pure y4.2.2) (WP.len (WP.pure y4.2.1)))) (fun (y4 : (List (Sq × (Option Sq))) × (List Sq) × Int) => (WP.b2 (WP.pure a_free) (WP.ix (WP.pure y4.2.1) (WP.pure y4.2.2)) next_placesM).bind fun xs5 => WP.after (WP.loop (γ := (List (Sq × (Option Sq)))) (fun c5 (y5 : (List (Sq × (Option Sq))) × (List Sq)) => ((WP.not (WP.din (WP.pure c5) (WP.pure y5.1))).bind fun b => WP.cond b ((WP.b2 (WP.some' (WP.ix (WP.pure y5.2) (WP.pure y4.2.2))) (WP.pure c5) fun b q => WP.req (y5.1.length < 100000) (putQ y5.1 q b)).bind fun a7_before => ((WP.pure c5).bind fun a => WP.req (y5.2.length < 100000) (y5.2 ++ [a])).bind fun a8_queue => (WP.pure (a7_before, a8_queue))) ((WP.pure (y5.1, y5.2)))).bind fun (y6 : (List (Sq × (Option Sq))) × (List Sq)) => (WP.pure (.nx (y6.1, y6.2)))) xs5 (y4.1, y4.2.1)) (fun (z5 : (List (Sq × (Option Sq))) × (List Sq)) => (WP.add (WP.pure y4.2.2) (WP.pure (1 : Int))).bind fun a9_at => (WP.pure (.nx (z5.1, z5.2, a9_at)))) (fun r => (WP.pure (.rt r)))) (a1_before, a2_queue, a3_at)) (fun (z4 : (List (Sq × (Option Sq))) × (List Sq) × Int) => (WP.pure z4.1)) (fun r => (WP.pure r))
def voyageM (a_chart : (List Str)) (a_size : Int) (a_a : Sq) (a_b : Sq) : WP (Option (Ls Sq)) := (WP.b2 (WP.b2 (WP.pure a_chart) (WP.pure a_size) free_placesM) (WP.pure a_a) reached_placesM).bind fun a1_before => (WP.not (WP.din (WP.pure a_b) (WP.pure a1_before))).bind fun b => WP.cond b ((WP.pure (none : (Option (Ls Sq)))).bind fun r3 => (WP.pure r3)) ((WP.row (WP.consE (WP.pure a_b) (WP.pure ([] : List Sq)))).bind fun a4_way => WP.after (WP.whilst (γ := (Option (Ls Sq))) (fun (y5 : (List Sq)) => (WP.notN (WP.dget (WP.pure a1_before) (WP.ix (WP.pure y5) (WP.neg (WP.pure (1 : Int))))))) (fun (y5 : (List Sq)) => ((WP.the (WP.dget (WP.pure a1_before) (WP.ix (WP.pure y5) (WP.neg (WP.pure (1 : Int)))))).bind fun a => WP.req (y5.length < 100000) (y5 ++ [a])).bind fun a6_way => (WP.pure (.nx a6_way))) a4_way) (fun (z5 : (List Sq)) => (WP.some' (((WP.pure z5).bind fun xs => WP.pure xs.reverse).bind fun xs => WP.pure (⟨xs⟩ : (Ls Sq)))).bind fun r7 => (WP.pure r7)) (fun r => (WP.pure r)))
def blocking_paperM (a_chart : (List Str)) (a_size : Int) (a_a : Sq) (a_b : Sq) : WP (Option (Ls Sq)) := (WP.b2 (WP.b2 (WP.pure a_chart) (WP.pure a_size) free_placesM) (WP.pure a_a) reached_placesM).bind fun a1_before => (WP.din (WP.pure a_b) (WP.pure a1_before)).bind fun b => WP.cond b ((WP.pure (none : (Option (Ls Sq)))).bind fun r3 => (WP.pure r3)) ((WP.some' ((WP.keys (WP.pure a1_before)).bind fun xs => WP.pure (⟨xs⟩ : (Ls Sq)))).bind fun r4 => (WP.pure r4))
def sweptM (a_chart : (List Str)) (a_size : Int) : WP (List Str) := (WP.pure ([] : (List (Sq × Bool)))).bind fun a1_wet => (WP.b2 (WP.pure a_chart) (WP.pure a_size) ship_placesM).bind fun xs2 => WP.after (WP.loop (γ := (List Str)) (fun c2 (y2 : (List (Sq × Bool))) => (WP.b2 (WP.pure a_size) (WP.pure c2) underM).bind fun xs3 => WP.after (WP.loop (γ := (List Str)) (fun c3 (y3 : (List (Sq × Bool))) => (WP.b2 (WP.pure true) (WP.pure c3) fun b q => WP.req (y3.length < 100000) (putQ y3 q b)).bind fun a4_wet => (WP.pure (.nx a4_wet))) xs3 y2) (fun (z3 : (List (Sq × Bool))) => (WP.pure (.nx z3))) (fun r => (WP.pure (.rt r)))) xs2 a1_wet) (fun (z2 : (List (Sq × Bool))) => (WP.lc (WP.b1 (WP.pure a_chart) squares_ofM) (fun c1 => (WP.not (WP.din (WP.pure c1) (WP.pure z2)))) (fun c1 => (WP.pure c1))).bind fun a5_dry => (WP.b3 (WP.len (WP.pure a_chart)) (WP.lenS (WP.ix (WP.pure a_chart) (WP.pure (0 : Int)))) (WP.pure a5_dry) chart_fromM).bind fun r6 => (WP.pure r6)) (fun r => (WP.pure r))
/-- the squares under a ship of size s at p -/
def und (s : Int) (p : Sq) : List Sq := (rangeL 0 s).flatMap fun a => (rangeL 0 s).map fun b => (p.1 + a, p.2 + b)
theorem mem_und {s : Int} {p q : Sq} : q ∈ und s p ↔ (p.1 ≤ q.1 ∧ q.1 < p.1 + s) ∧ p.2 ≤ q.2 ∧ q.2 < p.2 + s := by
  unfold und
  simp only [List.mem_flatMap, List.mem_map, mem_rangeLI]
  constructor
  · rintro ⟨a, ha, b, hb, rfl⟩
    dsimp only; omega
  · intro h
    exact ⟨q.1 - p.1, by omega, q.2 - p.2, by omega, by apply Prod.ext <;> dsimp only <;> omega⟩
theorem und_len {s : Nat} {p : Sq} : (und s p).length = s * s := by
  unfold und
  rw [flatMap_len _ _ s (fun x _ => by rw [List.length_map, rangeL0_len]; omega), rangeL0_len, Int.toNat_natCast]
theorem under_is {s : Nat} (hs : s ≤ 300) (p : Sq) : Is (underM s p) (und s p) := by
  have hm : s * s ≤ 300 * 300 := Nat.mul_le_mul hs hs
  refine Is.ret ((Is.range1 Is.pure (by omega)).bind ?_)
  exact Is.comp2 (by have := und_len (s := s) (p := p); unfold und at this; omega) (fun _ _ => Is.pure) (fun _ _ => Is.range1 Is.pure (by omega)) (fun _ _ _ _ => Is.pure) (fun _ _ _ _ => Is.b2 (Is.add Is.pure Is.pure) (Is.add Is.pure Is.pure) Is.pure)
def lies (ch : List Str) (s : Int) (p : Sq) : Bool := (und s p).all fun q => !isLd ch q
theorem lies_iff {ch : List Str} {s : Int} {p : Sq} : lies ch s p = true ↔ ∀ q, (p.1 ≤ q.1 ∧ q.1 < p.1 + s) → (p.2 ≤ q.2 ∧ q.2 < p.2 + s) → isLd ch q = false := by
  unfold lies
  rw [List.all_eq_true]
  exact ⟨fun h q h1 h2 => by simpa using h q (mem_und.mpr ⟨h1, h2⟩), fun h q hq => by simpa using h q (mem_und.mp hq).1 (mem_und.mp hq).2⟩
theorem can_lie_is {ch : List Str} (c : Ch ch) {s : Nat} (hs : s ≤ 300) (p : Sq) : Is (can_lieM ch s p) (lies ch s p) := by
  unfold can_lieM
  refine Is.bind (Is.b2 Is.pure Is.pure (under_is hs p)) (Is.afterAll (Is.loopAll (p := fun q => !isLd ch q) fun x _ => Is.guard ((Is.b2 Is.pure Is.pure (is_land_is c x)).eq (Bool.not_not _).symm) fun _ => Is.pure) (fun e => ?_) fun e => ?_)
  · have e : lies ch s p = true := e
    rw [e]; exact Is.ret Is.pure
  · have e : lies ch s p = false := e
    rw [e]; exact Is.pure
/-! squares told row by row -/
theorem found_row {γ : Type} {r : Int} {t : Int → WP Bool} {p : Int → Bool} : ∀ {xs : List Int} {y : List Sq}, y.length + xs.length ≤ 100000 → (∀ x ∈ xs, Is (t x) (p x)) → Is (WP.loop (γ := γ) (fun c3 (y3 : List Sq) => ((t c3).bind fun b => WP.cond b (((WP.pair (WP.pure r) (WP.pure c3)).bind fun a => WP.req (y3.length < 100000) (y3 ++ [a])).bind fun a5 => WP.pure a5) ((WP.pure y3))).bind fun y4 => WP.pure (.nx y4)) xs y) (.nx (y ++ (xs.filter p).map fun k => (r, k)))
  | [], y, _, _ => by
    rw [List.filter_nil, List.map_nil, List.append_nil]; exact Is.pure
  | x :: xs, y, hl, h => by
    rw [List.length_cons] at hl
    have hx := h x List.mem_cons_self
    rw [List.filter_cons]
    cases e : p x with
    | true =>
      have ih := found_row (γ := γ) (r := r) (t := t) (p := p) (xs := xs) (y := y ++ [(r, x)]) (by rw [List.length_append]; show y.length + 1 + _ ≤ _; omega) fun z m => h z (List.mem_cons_of_mem _ m)
      rw [e] at hx
      refine Is.bind (a := .nx (y ++ [(r, x)])) (Is.bind (Is.bind hx (Is.ret (Is.bind (Is.pair Is.pure Is.pure) (Is.req (by omega))))) Is.pure) ?_
      rw [if_pos rfl, List.map_cons]
      rw [List.append_assoc] at ih
      exact ih
    | false =>
      have ih := found_row (γ := γ) (r := r) (t := t) (p := p) (xs := xs) (y := y) (by omega) fun z m => h z (List.mem_cons_of_mem _ m)
      rw [e] at hx
      refine Is.bind (a := .nx y) (Is.bind (Is.bind hx Is.pure) Is.pure) ?_
      exact ih
def fnd (p : Int → Int → Bool) (rows cols : List Int) : List Sq := rows.flatMap fun r => (cols.filter (p r)).map fun k => (r, k)
theorem mem_fnd {p : Int → Int → Bool} {rows cols : List Int} {q : Sq} : q ∈ fnd p rows cols ↔ q.1 ∈ rows ∧ q.2 ∈ cols ∧ p q.1 q.2 = true := by
  unfold fnd
  simp only [List.mem_flatMap, List.mem_map, List.mem_filter]
  constructor
  · rintro ⟨r, hr, k, ⟨hk, hp⟩, rfl⟩
    exact ⟨hr, hk, hp⟩
  · rintro ⟨h1, h2, h3⟩
    exact ⟨q.1, h1, q.2, ⟨h2, h3⟩, rfl⟩
theorem fnd_len {p : Int → Int → Bool} {rows cols : List Int} : (fnd p rows cols).length ≤ rows.length * cols.length := by
  unfold fnd
  induction rows with
  | nil => simp
  | cons r rows ih =>
    rw [List.flatMap_cons, List.length_append, List.length_map, List.length_cons, Nat.succ_mul]
    have := List.length_filter_le (p r) cols
    omega
theorem found_is {t : Int → Int → WP Bool} {p : Int → Int → Bool} {rows cols : List Int} {wr wc : WP (List Int)} (hr : Is wr rows) (hc : Is wc cols) (hl : rows.length * cols.length ≤ 100000) (ht : ∀ r ∈ rows, ∀ k ∈ cols, Is (t r k) (p r k)) :
    Is ((WP.row (WP.pure ([] : List Sq))).bind fun a1 => wr.bind fun xs2 => WP.after (WP.loop (γ := List Sq) (fun c2 (y2 : List Sq) => wc.bind fun xs3 => WP.after (WP.loop (γ := List Sq) (fun c3 (y3 : List Sq) => ((t c2 c3).bind fun b => WP.cond b (((WP.pair (WP.pure c2) (WP.pure c3)).bind fun a => WP.req (y3.length < 100000) (y3 ++ [a])).bind fun a5 => WP.pure a5) ((WP.pure y3))).bind fun y4 => WP.pure (.nx y4)) xs3 y2) (fun (z3 : List Sq) => WP.pure (.nx z3)) (fun r => WP.pure (.rt r))) xs2 a1) (fun (z2 : List Sq) => WP.pure z2) (fun r => WP.pure r)) (fnd p rows cols) := by
  refine (Is.row Is.pure (by decide)).bind (hr.bind ?_)
  have key : ∀ (rs : List Int) (y : List Sq), (∀ r ∈ rs, r ∈ rows) → y.length + rs.length * cols.length ≤ 100000 → Is (WP.after (WP.loop (γ := List Sq) (fun c2 (y2 : List Sq) => wc.bind fun xs3 => WP.after (WP.loop (γ := List Sq) (fun c3 (y3 : List Sq) => ((t c2 c3).bind fun b => WP.cond b (((WP.pair (WP.pure c2) (WP.pure c3)).bind fun a => WP.req (y3.length < 100000) (y3 ++ [a])).bind fun a5 => WP.pure a5) ((WP.pure y3))).bind fun y4 => WP.pure (.nx y4)) xs3 y2) (fun (z3 : List Sq) => WP.pure (.nx z3)) (fun r => WP.pure (.rt r))) rs y) (fun (z2 : List Sq) => WP.pure z2) (fun r => WP.pure r)) (y ++ fnd p rs cols) := by
    intro rs
    induction rs with
    | nil => intro y _ _; exact Is.loopNil (by unfold fnd; rw [List.flatMap_nil, List.append_nil]; exact Is.pure)
    | cons r rs ih =>
      intro y hm hy
      rw [List.length_cons, Nat.succ_mul] at hy
      have hf := List.length_filter_le (p r) cols
      refine Is.loopNx (y := y ++ (cols.filter (p r)).map fun k => (r, k)) (hc.bind (Is.bind (found_row (by omega) fun x hx => ht r (hm r List.mem_cons_self) x hx) Is.pure)) ?_
      have h2 := ih (y ++ (cols.filter (p r)).map fun k => (r, k)) (fun z m => hm z (List.mem_cons_of_mem _ m)) (by rw [List.length_append, List.length_map]; omega)
      rw [List.append_assoc] at h2
      exact h2
  exact key rows [] (fun _ h => h) (by show 0 + _ ≤ _; omega)
/-- the places of ships of size s -/
def plc (ch : List Str) (s : Int) : List Sq := fnd (fun r k => lies ch s (r, k)) (rangeL (-s) ((ch.length : Int) + 1)) (rangeL (-s) ((wid ch : Int) + 1))
theorem mem_plc {ch : List Str} {s : Int} {q : Sq} : q ∈ plc ch s ↔ ((-s ≤ q.1 ∧ q.1 ≤ ch.length) ∧ -s ≤ q.2 ∧ q.2 ≤ wid ch) ∧ lies ch s q = true := by
  unfold plc
  rw [mem_fnd, mem_rangeLI, mem_rangeLI]
  exact ⟨fun ⟨h1, h2, h3⟩ => ⟨by omega, h3⟩, fun ⟨h1, h3⟩ => ⟨by omega, by omega, h3⟩⟩
section
variable {ch : List Str} (c : Ch ch) (h40 : ch.length ≤ 40) (w40 : wid ch ≤ 40) {s : Nat} (hs : s ≤ 10)
include c h40 w40 hs
theorem plc_len : (plc ch s).length ≤ 51 * 51 := by
  refine Nat.le_trans fnd_len (Nat.mul_le_mul ?_ ?_) <;> rw [rangeL_len] <;> omega
theorem rng_rows : Is (WP.range2 (WP.neg (WP.pure (s : Int))) (WP.add (WP.len (WP.pure ch)) (WP.pure (1 : Int)))) (rangeL (-(s : Int)) ((ch.length : Int) + 1)) := Is.bind (Is.neg Is.pure) (Is.bind (Is.add (Is.len Is.pure) Is.pure) (Is.req ⟨by omega, by omega, by omega, by omega⟩))
theorem rng_cols : Is (WP.range2 (WP.neg (WP.pure (s : Int))) (WP.add (WP.lenS (WP.ix (WP.pure ch) (WP.pure (0 : Int)))) (WP.pure (1 : Int)))) (rangeL (-(s : Int)) ((wid ch : Int) + 1)) := Is.bind (Is.neg Is.pure) (Is.bind (Is.add (Is.wid0 c) Is.pure) (Is.req ⟨by omega, by omega, by omega, by omega⟩))
theorem rng_mul : (rangeL (-(s : Int)) ((ch.length : Int) + 1)).length * (rangeL (-(s : Int)) ((wid ch : Int) + 1)).length ≤ 100000 := by
  have h1 : (rangeL (-(s : Int)) ((ch.length : Int) + 1)).length ≤ 51 := by rw [rangeL_len]; omega
  have h2 : (rangeL (-(s : Int)) ((wid ch : Int) + 1)).length ≤ 51 := by rw [rangeL_len]; omega
  exact Nat.le_trans (Nat.mul_le_mul h1 h2) (by decide)
theorem ship_places_is : Is (ship_placesM ch s) (plc ch s) :=
  found_is (rng_rows c h40 w40 hs) (rng_cols c h40 w40 hs) (rng_mul c h40 w40 hs) fun r _ k _ => Is.b3 Is.pure Is.pure (Is.pair Is.pure Is.pure) (can_lie_is c (by omega) _)
end
/-! free places -/
theorem hasK_putB {β : Type} {kvs : List (Sq × β)} {q p : Sq} {b : β} : hasK (putQ kvs q b) p = (decide (p = q) || hasK kvs p) := by
  unfold hasK
  rw [lookK_put]
  split
  · rename_i h; simp [h]
  · rename_i h; simp [h]
theorem hasK_puts {qs : List Sq} : ∀ {kvs : List (Sq × Bool)} {p : Sq}, hasK (qs.foldl (fun k q => putQ k q true) kvs) p = (decide (p ∈ qs) || hasK kvs p) := by
  induction qs with
  | nil => intro kvs p; simp
  | cons q qs ih =>
    intro kvs p
    rw [List.foldl_cons, ih, hasK_putB, ← Bool.or_assoc]
    congr 1
    rw [Bool.eq_iff_iff]
    simp only [Bool.or_eq_true, decide_eq_true_eq, List.mem_cons]
    exact or_comm
theorem dcomp_is : ∀ (xs : List Sq) (kvs : List (Sq × Bool)), Is (WP.dcomp putQ (fun _ => WP.pure true) (fun c1 => WP.pure c1) (fun _ => WP.pure true) xs kvs) (xs.foldl (fun k q => putQ k q true) kvs)
  | [], _ => Is.pure
  | x :: xs, kvs => dcomp_is xs (putQ kvs x true)
def freeK (ch : List Str) (s : Int) : List (Sq × Bool) := (plc ch s).foldl (fun k q => putQ k q true) []
theorem freeK_has {ch : List Str} {s : Int} {q : Sq} : hasK (freeK ch s) q = decide (q ∈ plc ch s) := by
  unfold freeK
  rw [hasK_puts]
  show (_ || false) = _
  rw [Bool.or_false]
def nxP (ch : List Str) (s : Int) (p : Sq) : List Sq := (sides p).filter fun q => decide (q ∈ plc ch s)
section
variable {ch : List Str} (c : Ch ch) (h40 : ch.length ≤ 40) (w40 : wid ch ≤ 40) {s : Nat} (hs : s ≤ 10)
include c h40 w40 hs
theorem free_places_is : Is (free_placesM ch s) (freeK ch s) :=
  Is.ret (Is.bind (Is.b2 Is.pure Is.pure (ship_places_is c h40 w40 hs)) ((Is.req (by have := plc_len c h40 w40 hs; omega)).bind (dcomp_is _ _)))
omit c h40 w40 hs in
theorem next_places_is (p : Sq) : Is (next_placesM (freeK ch s) p) (nxP ch s p) :=
  Is.ret (Is.lcF (Is.b1 Is.pure (side_neighbours_is p)) (by show 4 ≤ 100000; decide) fun x _ => (Is.b2 Is.pure Is.pure Is.pure).eq freeK_has)
omit c h40 w40 hs in
theorem rch_plc {a q : Sq} (h : Rch (nxP ch s) a q) : q = a ∨ q ∈ plc ch s := by
  cases h with
  | refl => exact .inl rfl
  | step _ hq => exact .inr (of_decide_eq_true (List.mem_filter.mp hq).2)
theorem reached_gives {a : Sq} (ha : a ∈ plc ch s) : Gives (reached_placesM (freeK ch s) a) (Met (nxP ch s) a) := by
  have h := met_gives (ch := ([] : List Str)) (s := a) (steps := fun _ q => next_placesM (freeK ch s) q) (st := nxP ch s) (U := plc ch s) (fun q _ => next_places_is q) (fun q h => (rch_plc h).elim (fun e => e ▸ ha) id) (by have := plc_len c h40 w40 hs; omega)
  exact h
end
theorem Gives.c2b {β γ α : Type} {a : WP β} {x : β} {y : γ} {f : β → γ → WP α} {P : α → Prop} (ha : Is a x) (h : Gives (f x y) P) : Gives (WP.b2 a (WP.pure y) f) P := fun n Q q => ha n _ (h n Q q)
theorem way_loop {γ ρ : Type} {st : Sq → List Sq} {s b : Sq} {kvs : List (Sq × Option Sq)} (m : Met st s kvs) (h : Rch st s b) {U : List Sq} (hU : ∀ q, Rch st s q → q ∈ U) (hz : U.length < 100000) {f : List Sq → WP ρ} {r : γ → WP ρ} {P : ρ → Prop}
    (hf : ∀ w, (Way st s b w.reverse ∧ w.reverse.length ≤ U.length ∧ w.reverse.Nodup ∧ ∃ d, w.reverse.length = d + 1 ∧ Wk st d s b ∧ ∀ e, Wk st e s b → d ≤ e) → Gives (f w) P) :
    Gives (WP.after (WP.whilst (γ := γ) (fun (y2 : (List Sq)) => (WP.notN (WP.dget (WP.pure kvs) (WP.ix (WP.pure y2) (WP.neg (WP.pure (1 : Int))))))) (fun (y2 : (List Sq)) => ((WP.the (WP.dget (WP.pure kvs) (WP.ix (WP.pure y2) (WP.neg (WP.pure (1 : Int)))))).bind fun a => WP.req (y2.length < 100000) (y2 ++ [a])).bind fun a3_way => (WP.pure (.nx a3_way))) [b]) f r) P := by
  intro n Q hQ
  obtain ⟨gs, f0, p⟩ := id m.ex
  have key : ∀ {q d}, (q, d) ∈ gs → q ∈ kvs.map (·.1) := fun h => by rw [p.keys]; exact List.mem_map.mpr ⟨_, h, rfl⟩
  have hb : ∃ d, (b, d) ∈ gs := by
    have := m.mem.mpr h
    rw [p.keys] at this
    obtain ⟨r, hr, e⟩ := List.mem_map.mp this
    exact ⟨r.2, by rw [← e]; exact hr⟩
  obtain ⟨d0, hb⟩ := hb
  refine WP.after_whilst (fun m n' y => n' = n ∧ ∃ cur rest, y = (cur :: rest).reverse ∧ lastD cur rest = b ∧ (∀ q ∈ pairsFrom cur rest, q.2 ∈ st q.1) ∧ (cur, m) ∈ gs ∧ (∀ q ∈ rest, ∃ d', m < d' ∧ (q, d') ∈ gs) ∧ (cur :: rest).Nodup ∧ rest.length + m = d0) ⟨d0, rfl, b, [], rfl, rfl, (by intro q hq; cases hq), hb, (by intro q hq; cases hq), by simp, by simp⟩ ?_
  rintro d n' y ⟨rfl, cur, rest, e1, e2, e3, e4, e5, e6, e7⟩
  subst e1
  have inU : ∀ q ∈ cur :: rest, q ∈ U := fun q hq => by
    rcases List.mem_cons.mp hq with e | hq
    · subst e; exact hU _ (m.mem.mp (key e4))
    · obtain ⟨d', _, hd⟩ := e5 q hq
      exact hU _ (m.mem.mp (key hd))
  have hlen : (cur :: rest).length ≤ U.length := nodup_le e6 inU
  have hk : hasK kvs cur = true := hasK_iff.mpr (key e4)
  have il : Is (WP.ix (WP.pure (cur :: rest).reverse) (WP.neg (WP.pure (1 : Int)))) cur := (Is.ix Is.pure (Is.bind Is.pure Is.pure) ⟨by rw [List.length_reverse, List.length_cons]; omega, by rw [List.length_reverse, List.length_cons]; omega⟩).eq ixD_rev
  have ig : Is (WP.dget (WP.pure kvs) (WP.ix (WP.pure (cur :: rest).reverse) (WP.neg (WP.pure (1 : Int))))) (getK kvs cur) := Is.b2 Is.pure il (Is.req hk)
  have hgk : ∃ o, lookK kvs cur = some o ∧ getK kvs cur = o := by
    unfold hasK at hk
    obtain ⟨o, ho⟩ := Option.isSome_iff_exists.mp hk
    exact ⟨o, ho, by unfold getK; rw [ho]; rfl⟩
  obtain ⟨o, ho, hg⟩ := hgk
  rw [hg] at ig
  refine (Is.bind ig Is.pure) _ _ ⟨fun e => ?_, fun e => ?_⟩
  · obtain ⟨pr, rfl⟩ := Option.isSome_iff_exists.mp e
    obtain ⟨hp, d1, g1, g2⟩ := p.par cur pr (lookK_some ho)
    have hd := dist_one f0.nd e4 g2
    have hlr : (cur :: rest).reverse.length < 100000 := by rw [List.length_reverse]; omega
    have np : pr ∉ cur :: rest := fun hm => by
      rcases List.mem_cons.mp hm with e | hm
      · subst e; have := dist_one f0.nd e4 g1; omega
      · obtain ⟨d', h1, h2⟩ := e5 pr hm
        have := dist_one f0.nd h2 g1; omega
    refine (Is.bind (a := (cur :: rest).reverse ++ [pr]) (Is.bind (a := pr) (Is.bind (a := some pr) ig (Is.req rfl)) (Is.req hlr)) Is.pure : Is _ (Ctl.nx (γ := γ) ((cur :: rest).reverse ++ [pr]))) _ _ ?_
    refine ⟨d1, by omega, rfl, pr, cur :: rest, by simp, e2, fun q hq => ?_, g1, fun q hq => ?_, List.nodup_cons.mpr ⟨np, e6⟩, by rw [List.length_cons]; omega⟩
    · rcases List.mem_cons.mp hq with e | hq
      · subst e; exact hp
      · exact e3 q hq
    · rcases List.mem_cons.mp hq with e | hq
      · subst e; exact ⟨d, by omega, e4⟩
      · obtain ⟨d', h1, h2⟩ := e5 q hq
        exact ⟨d', by omega, h2⟩
  · have e : o = none := by cases o with | none => rfl | some x => cases e
    subst e
    have hc := p.non cur (lookK_some ho)
    subst hc
    have hd := dist_one f0.nd e4 (List.mem_of_getElem? f0.hd)
    refine hf _ ?_ _ _ hQ
    refine ⟨⟨rest, List.reverse_reverse _, e2, e3⟩, ?_, ?_, d0, ?_, f0.wk _ hb, fun e w => ?_⟩
    · rw [List.reverse_reverse]; exact hlen
    · rw [List.reverse_reverse]; exact e6
    · rw [List.reverse_reverse, List.length_cons]; omega
    · obtain ⟨r, hr, er, hle⟩ := f0.all e b w
      have : (b, r.2) ∈ gs := by rw [← er]; exact hr
      have := dist_one f0.nd hb this
      omega
section
variable {ch : List Str} (c : Ch ch) (h40 : ch.length ≤ 40) (w40 : wid ch ≤ 40) {s : Nat} (hs : s ≤ 10)
include c h40 w40 hs
theorem voyage_gives {a b : Sq} (ha : a ∈ plc ch s) : Gives (voyageM ch s a b) (fun o => (o = none ∧ ¬ Rch (nxP ch s) a b) ∨ ∃ w, o = some ⟨w⟩ ∧ Rch (nxP ch s) a b ∧ Way (nxP ch s) a b w ∧ w.length ≤ 2601 ∧ w.Nodup ∧ ∃ d, w.length = d + 1 ∧ Wk (nxP ch s) d a b ∧ ∀ e, Wk (nxP ch s) e a b → d ≤ e) := by
  have hl := plc_len c h40 w40 hs
  unfold voyageM
  refine Gives.bind (Gives.c2b (free_places_is c h40 w40 hs) (reached_gives c h40 w40 hs ha)) fun kvs m => ?_
  refine Gives.isB (Is.not (Is.b2 Is.pure Is.pure Is.pure)) ?_
  cases e : hasK kvs b with
  | false => exact Gives.isB Is.pure (Gives.pure (.inl ⟨rfl, fun h => by rw [m.has.mpr h] at e; cases e⟩))
  | true =>
    have h := m.has.mp e
    refine Gives.isB (b := [b]) (Is.row1 Is.pure) ?_
    refine way_loop m h (U := plc ch s) (fun q h => (rch_plc h).elim (fun e => e ▸ ha) id) (by omega) fun w hw => ?_
    refine Is.gives (Is.ret (Is.bind (Is.bind (Is.bind Is.pure Is.pure) Is.pure) Is.pure)) (.inr ⟨w.reverse, rfl, h, hw.1, by omega, hw.2.2⟩)
theorem blocking_gives {a b : Sq} (ha : a ∈ plc ch s) : Gives (blocking_paperM ch s a b) (fun o => (o = none ∧ Rch (nxP ch s) a b) ∨ ∃ l, o = some ⟨l⟩ ∧ ¬ Rch (nxP ch s) a b ∧ l.Nodup ∧ ∀ q, q ∈ l ↔ Rch (nxP ch s) a q) := by
  unfold blocking_paperM
  refine Gives.bind (Gives.c2b (free_places_is c h40 w40 hs) (reached_gives c h40 w40 hs ha)) fun kvs m => ?_
  refine Gives.isB (Is.b2 Is.pure Is.pure Is.pure) ?_
  cases e : hasK kvs b with
  | true => exact Gives.isB Is.pure (Gives.pure (.inl ⟨rfl, m.has.mp e⟩))
  | false =>
    exact Is.gives (Is.ret (Is.bind (Is.bind (Is.bind Is.pure Is.pure) Is.pure) Is.pure)) (.inr ⟨_, rfl, (fun h => by rw [m.has.mpr h] at e; cases e), m.nd, fun q => m.mem⟩)
end
/-! what ships sweep -/
def wetS (ch : List Str) (s : Int) (q : Sq) : Prop := ∃ p ∈ plc ch s, q ∈ und s p
theorem puts_bind {s : Int} {ps : List Sq} : ∀ {kvs : List (Sq × Bool)} {p : Sq}, hasK (ps.foldl (fun k z => (und s z).foldl (fun k q => putQ k q true) k) kvs) p = true ↔ (∃ z ∈ ps, p ∈ und s z) ∨ hasK kvs p = true := by
  induction ps with
  | nil => intro kvs p; simp
  | cons z ps ih =>
    intro kvs p
    rw [List.foldl_cons, ih, hasK_puts, Bool.or_eq_true, decide_eq_true_eq]
    constructor
    · rintro (⟨y, hy, h⟩ | h | h)
      · exact .inl ⟨y, List.mem_cons_of_mem _ hy, h⟩
      · exact .inl ⟨z, List.mem_cons_self, h⟩
      · exact .inr h
    · rintro (⟨y, hy, h⟩ | h)
      · rcases List.mem_cons.mp hy with rfl | hy
        · exact .inr (.inl h)
        · exact .inl ⟨y, hy, h⟩
      · exact .inr (.inr h)
theorem keys_nd {β : Type} {kvs : List (Sq × β)} {q : Sq} {b : β} (nd : (kvs.map (·.1)).Nodup) : ((putQ kvs q b).map (·.1)).Nodup := by
  rw [putQ_keys]
  split
  · exact nd
  · rename_i h
    refine List.nodup_append.mpr ⟨nd, by simp, fun x hx y hy e => ?_⟩
    rw [List.mem_singleton.mp hy] at e
    subst e
    exact absurd (hasK_iff.mpr hx) h
theorem keys_sub {β : Type} {kvs : List (Sq × β)} {q : Sq} {b : β} {U : List Sq} (h : ∀ x ∈ kvs.map (·.1), x ∈ U) (hq : q ∈ U) : ∀ x ∈ (putQ kvs q b).map (·.1), x ∈ U := fun x hx => by
  rcases hasK_put.mp (hasK_iff.mpr hx) with e | e
  · exact e ▸ hq
  · exact h x (hasK_iff.mp e)
structure Kin (U : List Sq) (kvs : List (Sq × Bool)) : Prop where
  nd : (kvs.map (·.1)).Nodup
  sub : ∀ x ∈ kvs.map (·.1), x ∈ U
theorem Kin.put {U : List Sq} {kvs : List (Sq × Bool)} (k : Kin U kvs) {q : Sq} (hq : q ∈ U) : Kin U (putQ kvs q true) := ⟨keys_nd k.nd, keys_sub k.sub hq⟩
theorem Kin.puts {U : List Sq} : ∀ {xs : List Sq} {kvs : List (Sq × Bool)}, Kin U kvs → (∀ x ∈ xs, x ∈ U) → Kin U (xs.foldl (fun k q => putQ k q true) kvs)
  | [], _, k, _ => k
  | x :: xs, _, k, h => Kin.puts (xs := xs) (k.put (h x List.mem_cons_self)) fun y m => h y (List.mem_cons_of_mem _ m)
theorem Kin.len {U : List Sq} {kvs : List (Sq × Bool)} (k : Kin U kvs) : kvs.length ≤ U.length := by
  have := nodup_le k.nd k.sub
  rwa [List.length_map] at this
theorem put_loop {γ ρ : Type} {U : List Sq} (hU : U.length < 100000) {f : List (Sq × Bool) → WP ρ} {r : γ → WP ρ} {z : ρ} : ∀ (xs : List Sq) (kvs : List (Sq × Bool)), Kin U kvs → (∀ x ∈ xs, x ∈ U) → Is (f (xs.foldl (fun k q => putQ k q true) kvs)) z →
    Is (WP.after (WP.loop (γ := γ) (fun c3 (y3 : (List (Sq × Bool))) => (WP.b2 (WP.pure true) (WP.pure c3) fun b q => WP.req (y3.length < 100000) (putQ y3 q b)).bind fun a4_wet => (WP.pure (.nx a4_wet))) xs kvs) f r) z
  | [], _, _, _, h => Is.loopNil h
  | x :: xs, kvs, k, hx, h => Is.loopNx (y := putQ kvs x true) (Is.bind (Is.b2 Is.pure Is.pure (Is.req (by have := k.len; omega))) Is.pure) (put_loop hU xs _ (k.put (hx x List.mem_cons_self)) (fun y m => hx y (List.mem_cons_of_mem _ m)) h)
def wetK (ch : List Str) (s : Int) : List (Sq × Bool) := (plc ch s).foldl (fun k z => (und s z).foldl (fun k q => putQ k q true) k) []
theorem wetK_has {ch : List Str} {s : Nat} {q : Sq} : hasK (wetK ch s) q = true ↔ wetS ch s q := by
  unfold wetK
  rw [puts_bind]
  exact ⟨fun h => h.elim id (fun h => by cases h), .inl⟩
def swC (ch : List Str) (s : Int) : List Str := chF ch.length (wid ch) ((allSq ch).filter fun q => !hasK (wetK ch s) q)
section
variable {ch : List Str} (c : Ch ch) (h40 : ch.length ≤ 40) (w40 : wid ch ≤ 40) {s : Nat} (hs : s ≤ 10)
include c
theorem swC_ok {s : Int} : GC (swC ch s) ∧ Sz (swC ch s) ch := by
  have h := chF_ok c.ne c.hl c.w0 c.wl ((allSq ch).filter fun q => !hasK (wetK ch s) q)
  exact ⟨h.1, h.2.trans ⟨blank_len, blank_wid c.ne⟩⟩
theorem swC_ld {s : Nat} {q : Sq} : isLd (swC ch s) q = true ↔ isSq ch q = true ∧ ¬ wetS ch s q := by
  unfold swC
  rw [chF_ld c.ne c.hl c.w0 c.wl, List.mem_filter, mem_allSq, ← wetK_has, isSq_iff]
  constructor
  · rintro ⟨_, h1, h2⟩
    exact ⟨h1, by rw [Bool.not_eq_true'] at h2; rw [h2]; decide⟩
  · rintro ⟨h1, h2⟩
    exact ⟨by omega, h1, by rw [Bool.not_eq_true']; exact Bool.eq_false_iff.mpr h2⟩
include h40 w40 hs
theorem swept_is : Is (sweptM ch s) (swC ch s) := by
  unfold sweptM
  refine Is.bind Is.pure (Is.bind (Is.b2 Is.pure Is.pure (ship_places_is c h40 w40 hs)) ?_)
  have hb : (fnd (fun _ _ => true) (rangeL (-(s : Int)) ((ch.length : Int) + s)) (rangeL (-(s : Int)) ((wid ch : Int) + s))).length < 100000 := by
    have h1 : (rangeL (-(s : Int)) ((ch.length : Int) + s)).length ≤ 60 := by rw [rangeL_len]; omega
    have h2 : (rangeL (-(s : Int)) ((wid ch : Int) + s)).length ≤ 60 := by rw [rangeL_len]; omega
    exact Nat.lt_of_le_of_lt (Nat.le_trans fnd_len (Nat.mul_le_mul h1 h2)) (by decide)
  have hin : ∀ z ∈ plc ch s, ∀ q ∈ und s z, q ∈ fnd (fun _ _ => true) (rangeL (-(s : Int)) ((ch.length : Int) + s)) (rangeL (-(s : Int)) ((wid ch : Int) + s)) := fun z hz q hq => by
    have h1 := (mem_plc.mp hz).1
    have h2 := mem_und.mp hq
    exact mem_fnd.mpr ⟨mem_rangeLI.mpr (by omega), mem_rangeLI.mpr (by omega), rfl⟩
  have key : ∀ (ps : List Sq) (kvs : List (Sq × Bool)), (∀ z ∈ ps, z ∈ plc ch s) → Kin (fnd (fun _ _ => true) (rangeL (-(s : Int)) ((ch.length : Int) + s)) (rangeL (-(s : Int)) ((wid ch : Int) + s))) kvs →
      ∀ {f : List (Sq × Bool) → WP (List Str)} {r : List Str → WP (List Str)} {o : List Str}, Is (f (ps.foldl (fun k z => (und s z).foldl (fun k q => putQ k q true) k) kvs)) o →
      Is (WP.after (WP.loop (γ := (List Str)) (fun c2 (y2 : (List (Sq × Bool))) => (WP.b2 (WP.pure (s : Int)) (WP.pure c2) underM).bind fun xs3 => WP.after (WP.loop (γ := (List Str)) (fun c3 (y3 : (List (Sq × Bool))) => (WP.b2 (WP.pure true) (WP.pure c3) fun b q => WP.req (y3.length < 100000) (putQ y3 q b)).bind fun a4_wet => (WP.pure (.nx a4_wet))) xs3 y2) (fun (z3 : (List (Sq × Bool))) => (WP.pure (.nx z3))) (fun r => (WP.pure (.rt r)))) ps kvs) f r) o := by
    intro ps
    induction ps with
    | nil => intro kvs _ _ f r o h; exact Is.loopNil h
    | cons z ps ih =>
      intro kvs hp k f r o h
      exact Is.loopNx (y := (und s z).foldl (fun k q => putQ k q true) kvs) (Is.bind (Is.b2 Is.pure Is.pure (under_is (by omega) z)) (put_loop hb _ _ k (hin z (hp z List.mem_cons_self)) Is.pure)) (ih _ (fun y m => hp y (List.mem_cons_of_mem _ m)) (k.puts (hin z (hp z List.mem_cons_self))) h)
  refine key _ _ (fun _ h => h) ⟨by simp, by simp⟩ ?_
  refine Is.bind (Is.lcF (p := fun q => !hasK (wetK ch s) q) (Is.b1 Is.pure (squares_of_is c)) (by have := c.area; omega) fun x _ => Is.not (Is.b2 Is.pure Is.pure Is.pure)) (Is.ret (Is.b3 (Is.len Is.pure) (Is.wid0 c) Is.pure (chart_from_is c.ne c.hl c.w0 c.wl (filter_area c _))))
end
section
variable {ch : List Str} (c : Ch ch) {s : Nat}
include c
/-- land stays dry -/
theorem wet_dry {q : Sq} (h : wetS ch s q) : isLd ch q = false := by
  obtain ⟨p, hp, hq⟩ := h
  exact lies_iff.mp (mem_plc.mp hp).2 q (mem_und.mp hq).1 (mem_und.mp hq).2
theorem sw_land {q : Sq} (h : isLd ch q = true) : isLd (swC ch s) q = true := (swC_ld c).mpr ⟨isLd_sq h, fun w => by rw [wet_dry c w] at h; cases h⟩
/-- a smaller ship sweeps what a larger one sweeps -/
theorem wet_less {q : Sq} (hs : 1 ≤ s) (hq : isSq ch q = true) (h : wetS ch ((s + 1 : Nat) : Int) q) : wetS ch s q := by
  obtain ⟨p, hp, hu⟩ := h
  obtain ⟨h1, h2⟩ := mem_plc.mp hp
  have h3 := mem_und.mp hu
  have hh := isSq_iff.mp hq
  rw [lies_iff] at h2
  obtain ⟨r, r1, r2⟩ : ∃ r : Int, (p.1 ≤ r ∧ r ≤ p.1 + 1) ∧ (r ≤ q.1 ∧ q.1 < r + s) := by
    by_cases h : q.1 < p.1 + s
    · exact ⟨p.1, by omega⟩
    · exact ⟨p.1 + 1, by omega⟩
  obtain ⟨k, k1, k2⟩ : ∃ r : Int, (p.2 ≤ r ∧ r ≤ p.2 + 1) ∧ (r ≤ q.2 ∧ q.2 < r + s) := by
    by_cases h : q.2 < p.2 + s
    · exact ⟨p.2, by omega⟩
    · exact ⟨p.2 + 1, by omega⟩
  refine ⟨(r, k), mem_plc.mpr ⟨⟨⟨?_, ?_⟩, ?_, ?_⟩, lies_iff.mpr fun x x1 x2 => h2 x ?_ ?_⟩, mem_und.mpr ⟨r2, k2⟩⟩ <;> dsimp only at * <;> omega
theorem sw_more {q : Sq} (hs : 1 ≤ s) (h : isLd (swC ch s) q = true) : isLd (swC ch ((s + 1 : Nat) : Int)) q = true := by
  obtain ⟨h1, h2⟩ := (swC_ld c).mp h
  exact (swC_ld c).mpr ⟨h1, fun w => h2 (wet_less c hs h1 w)⟩
end
theorem sw_one {ch : List Str} (g : GC ch) : swC ch 1 = ch := by
  have c := g.good
  have ok := swC_ok (s := 1) c
  refine gc_ext ok.1 g ok.2 fun q => ?_
  rw [Bool.eq_iff_iff]
  refine ⟨fun h => ?_, fun h => sw_land (s := 1) c h⟩
  obtain ⟨h1, h2⟩ := (swC_ld (s := 1) c).mp h
  cases e : isLd ch q with
  | true => rfl
  | false =>
    refine absurd ⟨q, mem_plc.mpr ⟨?_, lies_iff.mpr fun x x1 x2 => ?_⟩, mem_und.mpr ?_⟩ h2
    · have := isSq_iff.mp h1; omega
    · have e2 : x = q := Prod.ext (by omega) (by omega)
      rw [e2]; exact e
    · omega
/-! a smaller ship comes where a larger one comes -/
def clp (s : Int) (p : Sq) : Sq := (max p.1 (-(s - 1)), max p.2 (-(s - 1)))
theorem clp_plc {ch : List Str} (c : Ch ch) {s : Int} (hs : 2 ≤ s) {p : Sq} (h : p ∈ plc ch s) : clp s p ∈ plc ch (s - 1) := by
  obtain ⟨h1, h2⟩ := mem_plc.mp h
  rw [lies_iff] at h2
  have c1 := c.ne
  have c2 := c.w0
  refine mem_plc.mpr ⟨?_, lies_iff.mpr fun x x1 x2 => ?_⟩
  · unfold clp; dsimp only; omega
  · unfold clp at x1 x2
    dsimp only at x1 x2
    cases e : isLd ch x with
    | false => rfl
    | true =>
      have hh := isSq_iff.mp (isLd_sq e)
      rw [h2 x (by omega) (by omega)] at e
      cases e
theorem clp_side {s : Int} {p q : Sq} (h : q ∈ sides p) : clp s q = clp s p ∨ clp s q ∈ sides (clp s p) := by
  obtain ⟨a, b⟩ := p
  obtain ⟨x, y⟩ := q
  unfold clp
  simp only [sides, List.mem_cons, Prod.mk.injEq, List.not_mem_nil, or_false] at h ⊢
  omega
theorem rch_less {ch : List Str} (c : Ch ch) {s : Int} (hs : 2 ≤ s) {a b : Sq} (h : Rch (nxP ch s) a b) : Rch (nxP ch (s - 1)) (clp s a) (clp s b) := by
  induction h with
  | refl => exact .refl
  | step _ hq ih =>
    obtain ⟨h1, h2⟩ := List.mem_filter.mp hq
    rcases clp_side (s := s) h1 with e | e
    · rw [e]; exact ih
    · exact .step ih (List.mem_filter.mpr ⟨e, decide_eq_true (clp_plc c hs (of_decide_eq_true h2))⟩)
theorem clp_in {s : Int} {p : Sq} (h1 : -s < p.1) (h2 : -s < p.2) : clp s p = p := by
  unfold clp
  exact Prod.ext (by dsimp only; omega) (by dsimp only; omega)
end Y

set_option maxHeartbeats 1000000
/-! the largest squares of land -/
namespace Y
open PySem PySem.Spec PyProof.Rows L2
def sizes_ofM (a_chart : (List Str)) : WP (List (Sq × Int)) := (WP.pure ([] : (List (Sq × Int)))).bind fun a1_sizes => (((WP.b1 (WP.pure a_chart) squares_ofM).bind fun xs => WP.pure (⟨xs⟩ : (Ls Sq))).bind fun x => WP.pure x.l.reverse).bind fun xs2 => WP.after (WP.loop (γ := (List (Sq × Int))) (fun c2 (y2 : (List (Sq × Int))) => (WP.pure (0 : Int)).bind fun a3_size => ((WP.b2 (WP.pure a_chart) (WP.pair (WP.pure c2.1) (WP.pure c2.2)) is_landM).bind fun b => WP.cond b ((WP.row (WP.consE (WP.pair (WP.add (WP.pure c2.1) (WP.pure (1 : Int))) (WP.pure c2.2)) (WP.consE (WP.pair (WP.pure c2.1) (WP.add (WP.pure c2.2) (WP.pure (1 : Int)))) (WP.consE (WP.pair (WP.add (WP.pure c2.1) (WP.pure (1 : Int))) (WP.add (WP.pure c2.2) (WP.pure (1 : Int)))) (WP.pure ([] : List Sq)))))).bind fun a6_beside => (WP.add (WP.pure (1 : Int)) (WP.minL (WP.lc (WP.pure a6_beside) (fun c1 => (WP.pure true)) (fun c1 => (WP.look2 (WP.pure y2) (WP.pure c1) (WP.pure (0 : Int))))))).bind fun a7_size => (WP.pure a7_size)) ((WP.pure a3_size))).bind fun (y4 : Int) => (WP.b2 (WP.pure y4) (WP.pair (WP.pure c2.1) (WP.pure c2.2)) fun b q => WP.req (y2.length < 100000) (putQ y2 q b)).bind fun a5_sizes => (WP.pure (.nx a5_sizes))) xs2 a1_sizes) (fun (z2 : (List (Sq × Int))) => (WP.pure z2)) (fun r => (WP.pure r))
def largest_squareM (a_chart : (List Str)) : WP Int := (WP.maxL (WP.vals (WP.b1 (WP.pure a_chart) sizes_ofM))).bind fun r1 => (WP.pure r1)
def largest_placesM (a_chart : (List Str)) : WP (List Sq) := (WP.b1 (WP.pure a_chart) sizes_ofM).bind fun a1_sizes => (WP.maxL (WP.vals (WP.pure a1_sizes))).bind fun a2_most => (WP.eq (WP.pure a2_most) (WP.pure (0 : Int))).bind fun b => WP.cond b ((WP.row (WP.pure ([] : List Sq))).bind fun r4 => (WP.pure r4)) ((WP.lc (WP.b1 (WP.pure a_chart) squares_ofM) (fun c1 => (WP.eq (WP.dget (WP.pure a1_sizes) (WP.pure c1)) (WP.pure a2_most))) (fun c1 => (WP.pure c1))).bind fun r5 => (WP.pure r5))
theorem nd_rev {α : Type} {xs : List α} (h : xs.Nodup) : xs.reverse.Nodup := List.pairwise_reverse.mpr (h.imp fun z => Ne.symm z)
/-- all squares of a square of size k at q are land -/
def blk (ch : List Str) (k : Int) (q : Sq) : Prop := ∀ x ∈ und k q, isLd ch x = true
def Pz (ch : List Str) (q : Sq) (v : Int) : Prop := 0 ≤ v ∧ ∀ k : Nat, (k : Int) ≤ v ↔ blk ch k q
theorem blk0 (ch : List Str) (q : Sq) : blk ch ((0 : Nat) : Int) q := fun x hx => by
  have := mem_und.mp hx; omega
theorem blk_sub {ch : List Str} {j k : Int} {q p : Sq} (h : blk ch k q) (h1 : q.1 ≤ p.1) (h2 : p.1 + j ≤ q.1 + k) (h3 : q.2 ≤ p.2) (h4 : p.2 + j ≤ q.2 + k) : blk ch j p := fun x hx => by
  have := mem_und.mp hx
  exact h x (mem_und.mpr (by omega))
theorem blk_wet {ch : List Str} {k : Nat} {q : Sq} (h : isLd ch q = false) (b : blk ch k q) : k = 0 := by
  cases k with
  | zero => rfl
  | succ k =>
    have := b q (mem_und.mpr (by omega))
    rw [h] at this; cases this
theorem pz_wet {ch : List Str} {q : Sq} (h : isLd ch q = false) : Pz ch q 0 := ⟨Int.le_refl _, fun k => ⟨fun hk => by
  have : k = 0 := by omega
  subst this; exact blk0 ch q, fun b => by have := blk_wet h b; omega⟩⟩
theorem pz_land {ch : List Str} {q : Sq} {a b d m : Int} (h : isLd ch q = true) (ha : Pz ch (q.1 + 1, q.2) a) (hb : Pz ch (q.1, q.2 + 1) b) (hd : Pz ch (q.1 + 1, q.2 + 1) d) (hm : m ∈ [a, b, d]) (hl : ∀ y ∈ [a, b, d], m ≤ y) : Pz ch q (1 + m) := by
  have l1 := hl a (by simp)
  have l2 := hl b (by simp)
  have l3 := hl d (by simp)
  have h0 : 0 ≤ m := by
    simp only [List.mem_cons, List.not_mem_nil, or_false] at hm
    rcases hm with e | e | e <;> rw [e]
    · exact ha.1
    · exact hb.1
    · exact hd.1
  refine ⟨by omega, fun k => ?_⟩
  cases k with
  | zero => exact ⟨fun _ => blk0 ch q, fun _ => by omega⟩
  | succ j =>
    constructor
    · intro hk
      have b1 := (ha.2 j).mp (by omega)
      have b2 := (hb.2 j).mp (by omega)
      have b3 := (hd.2 j).mp (by omega)
      intro x hx
      have hx := mem_und.mp hx
      by_cases e1 : q.1 < x.1
      · by_cases e2 : q.2 < x.2
        · exact b3 x (mem_und.mpr (by dsimp only; omega))
        · exact b1 x (mem_und.mpr (by dsimp only; omega))
      · by_cases e2 : q.2 < x.2
        · exact b2 x (mem_und.mpr (by dsimp only; omega))
        · have : x = q := Prod.ext (by omega) (by omega)
          rw [this]; exact h
    · intro hk
      have b1 := (ha.2 j).mpr (blk_sub hk (by dsimp only; omega) (by dsimp only; omega) (by dsimp only; omega) (by dsimp only; omega))
      have b2 := (hb.2 j).mpr (blk_sub hk (by dsimp only; omega) (by dsimp only; omega) (by dsimp only; omega) (by dsimp only; omega))
      have b3 := (hd.2 j).mpr (blk_sub hk (by dsimp only; omega) (by dsimp only; omega) (by dsimp only; omega) (by dsimp only; omega))
      simp only [List.mem_cons, List.not_mem_nil, or_false] at hm
      rcases hm with e | e | e <;> omega
structure Szs (ch : List Str) (pre : List Sq) (y : List (Sq × Int)) : Prop where
  keys : y.map (·.1) = pre
  val : ∀ q v, lookK y q = some v → Pz ch q v
theorem sizes_gives {ch : List Str} (c : Ch ch) : Gives (sizes_ofM ch) (Szs ch (allSq ch).reverse) := by
  unfold sizes_ofM
  refine Gives.isB Is.pure (Gives.isB (b := (allSq ch).reverse) (Is.bind (Is.bind (Is.b1 Is.pure (squares_of_is c)) Is.pure) Is.pure) ?_)
  have har := c.area
  intro n Q hQ
  have srt := allSq_srt ch
  refine WP.after_inv (fun i m y => m = n ∧ Szs ch ((allSq ch).reverse.take i) y) ⟨rfl, rfl, fun q v h => by cases h⟩ (fun i m q y hi hI => ?_) fun m y hI => ?_
  · obtain ⟨rfl, hy⟩ := hI
    have hlt : i < (allSq ch).reverse.length := (List.getElem?_eq_some_iff.mp hi).1
    have hq : q ∈ allSq ch := List.mem_reverse.mp (List.mem_of_getElem? hi)
    have hqs := isSq_iff.mp (mem_allSq.mp hq)
    -- the squares behind q stand there
    have behind : ∀ x, ltQ q x → x ∈ allSq ch → x ∈ (allSq ch).reverse.take i := fun x hlx hx => by
      obtain ⟨j, hj⟩ := List.mem_iff_getElem?.mp (List.mem_reverse.mpr hx)
      have hj' := (List.getElem?_eq_some_iff.mp hj).1
      have prv : (allSq ch).reverse.Pairwise fun a b => ltQ b a := List.pairwise_reverse.mpr srt
      refine List.mem_iff_getElem?.mpr ⟨j, ?_⟩
      rw [List.getElem?_take, if_pos, hj]
      rcases Nat.lt_trichotomy j i with h | h | h
      · exact h
      · subst h
        rw [hj] at hi
        cases hi
        exact absurd hlx (ltQ_irr _)
      · have := List.pairwise_iff_getElem.mp prv i j hlt hj' h
        rw [(List.getElem?_eq_some_iff.mp hi).2, (List.getElem?_eq_some_iff.mp hj).2] at this
        exact absurd this (ltQ_asym hlx)
    have nin : q ∉ (allSq ch).reverse.take i := fun hm => by
      have nd : (allSq ch).reverse.Nodup := nd_rev (srt_nodup srt)
      obtain ⟨j, hj⟩ := List.mem_iff_getElem?.mp hm
      rw [List.getElem?_take] at hj
      split at hj
      · rename_i hji
        have hj' := (List.getElem?_eq_some_iff.mp hj).1
        have := List.pairwise_iff_getElem.mp nd j i hj' hlt hji
        rw [(List.getElem?_eq_some_iff.mp hi).2, (List.getElem?_eq_some_iff.mp hj).2] at this
        exact this rfl
      · cases hj
    have hnk : hasK y q = false := hasK_false.mpr (by rw [hy.keys]; exact nin)
    have near : ∀ x, ltQ q x → Pz ch x ((lookK y x).getD 0) := fun x hlx => by
      cases e : lookK y x with
      | some v => exact hy.val x v e
      | none =>
        refine pz_wet ?_
        cases el : isLd ch x with
        | false => rfl
        | true =>
          have := behind x hlx (mem_allSq.mpr (isLd_sq el))
          rw [← hy.keys] at this
          exact absurd this (lookK_none e)
    have hlen : y.length < 100000 := by
      have := congrArg List.length hy.keys
      rw [List.length_map, List.length_take, List.length_reverse] at this
      omega
    have body : Gives ((WP.pure (0 : Int)).bind fun a3_size => ((WP.b2 (WP.pure ch) (WP.pair (WP.pure q.1) (WP.pure q.2)) is_landM).bind fun b => WP.cond b ((WP.row (WP.consE (WP.pair (WP.add (WP.pure q.1) (WP.pure (1 : Int))) (WP.pure q.2)) (WP.consE (WP.pair (WP.pure q.1) (WP.add (WP.pure q.2) (WP.pure (1 : Int)))) (WP.consE (WP.pair (WP.add (WP.pure q.1) (WP.pure (1 : Int))) (WP.add (WP.pure q.2) (WP.pure (1 : Int)))) (WP.pure ([] : List Sq)))))).bind fun a6_beside => (WP.add (WP.pure (1 : Int)) (WP.minL (WP.lc (WP.pure a6_beside) (fun c1 => (WP.pure true)) (fun c1 => (WP.look2 (WP.pure y) (WP.pure c1) (WP.pure (0 : Int))))))).bind fun a7_size => (WP.pure a7_size)) ((WP.pure a3_size)))) (Pz ch q) := by
      refine Gives.isB Is.pure (Gives.isB (Is.b2 Is.pure (Is.pair Is.pure Is.pure) (is_land_is c q)) ?_)
      cases e : isLd ch q with
      | false => exact Gives.pure (pz_wet e)
      | true =>
        refine Gives.isB (Is.row (Is.consE (Is.pair (Is.add Is.pure Is.pure) Is.pure) (Is.consE (Is.pair Is.pure (Is.add Is.pure Is.pure)) (Is.consE (Is.pair (Is.add Is.pure Is.pure) (Is.add Is.pure Is.pure)) Is.pure))) (by show 3 ≤ 100000; decide)) ?_
        have hm : Gives (WP.minL (WP.lc (WP.pure [(q.1 + 1, q.2), (q.1, q.2 + 1), (q.1 + 1, q.2 + 1)]) (fun c1 => (WP.pure true)) (fun c1 => (WP.look2 (WP.pure y) (WP.pure c1) (WP.pure (0 : Int)))))) _ := Gives.minL (Is.lcM (g := fun x => (lookK y x).getD 0) Is.pure (by show 3 ≤ 100000; decide) fun x _ => Is.b3 Is.pure Is.pure Is.pure Is.pure) (by show 0 < 3; decide)
        refine Gives.bind (P := Pz ch q) ?_ fun v hv => Gives.pure hv
        intro n Q q'
        refine hm n _ fun m hm => q' _ ?_
        exact pz_land e (near _ (.inl (by dsimp only; omega))) (near _ (.inr ⟨rfl, by dsimp only; omega⟩)) (near _ (.inl (by dsimp only; omega))) hm.1 hm.2
    have body2 := Gives.bind body (f := fun y4 => (WP.b2 (WP.pure y4) (WP.pair (WP.pure q.1) (WP.pure q.2)) fun b q => WP.req (y.length < 100000) (putQ y q b)).bind fun a5_sizes => (WP.pure (.nx a5_sizes : Ctl (List (Sq × Int)) (List (Sq × Int))))) (P' := fun o => ∃ v, Pz ch q v ∧ o = .nx (putQ y q v)) fun v hv => Is.gives (Is.bind (Is.b2 Is.pure (Is.pair Is.pure Is.pure) (Is.req hlen)) Is.pure) ⟨v, hv, rfl⟩
    refine body2 _ _ fun o ho => ?_
    obtain ⟨v, hv, rfl⟩ := ho
    refine ⟨rfl, ?_, fun x w hx => ?_⟩
    · rw [putQ_new hnk, List.map_append, hy.keys, List.take_add_one, hi]; rfl
    · rw [lookK_put] at hx
      split at hx
      · rename_i e; cases hx; rw [e]; exact hv
      · exact hy.val x w hx
  · obtain ⟨rfl, hy⟩ := hI
    rw [List.take_length] at hy
    exact hQ _ hy
/-- what the size of the largest square is -/
def Lsq (ch : List Str) (m : Int) : Prop := 0 ≤ m ∧ ∀ k : Nat, (k : Int) ≤ m ↔ ∃ q, isSq ch q = true ∧ blk ch k q
theorem lsq_of {ch : List Str} {y : List (Sq × Int)} (hy : Szs ch (allSq ch).reverse y) {m : Int} (h1 : m ∈ y.map (·.2)) (h2 : ∀ z ∈ y.map (·.2), z ≤ m) : Lsq ch m := by
  have nd : (y.map (·.1)).Nodup := by rw [hy.keys]; exact nd_rev (srt_nodup (allSq_srt ch))
  obtain ⟨⟨q, v⟩, hq, rfl⟩ := List.mem_map.mp h1
  have hk : ∀ {x w}, (x, w) ∈ y → isSq ch x = true := fun {x w} h => by
    have : x ∈ y.map (·.1) := List.mem_map.mpr ⟨_, h, rfl⟩
    rw [hy.keys] at this
    exact mem_allSq.mp (List.mem_reverse.mp this)
  have pz := hy.val q v (lookK_mem nd hq)
  refine ⟨pz.1, fun k => ⟨fun h => ⟨q, hk hq, (pz.2 k).mp h⟩, fun ⟨x, hx, b⟩ => ?_⟩⟩
  have hx' : x ∈ y.map (·.1) := by rw [hy.keys]; exact List.mem_reverse.mpr (mem_allSq.mpr hx)
  obtain ⟨⟨x', w⟩, hw, e⟩ := List.mem_map.mp hx'
  cases e
  exact Int.le_trans (((hy.val _ w (lookK_mem nd hw)).2 k).mpr b) (h2 w (List.mem_map.mpr ⟨_, hw, rfl⟩))
theorem vals_len {ch : List Str} (c : Ch ch) {y : List (Sq × Int)} (hy : Szs ch (allSq ch).reverse y) : 0 < (y.map (·.2)).length := by
  have h1 := congrArg List.length hy.keys
  rw [List.length_map, List.length_reverse, allSq_len] at h1
  rw [List.length_map, h1]
  exact Nat.mul_pos c.ne c.w0
theorem largest_square_gives {ch : List Str} (c : Ch ch) : Gives (largest_squareM ch) (Lsq ch) := by
  unfold largest_squareM
  refine Gives.bind (P := Lsq ch) ?_ fun _ h => Gives.pure h
  intro n Q q
  exact sizes_gives c n _ fun y hy => ⟨vals_len c hy, fun m hm => q m (lsq_of hy hm.1 hm.2)⟩
theorem largest_places_gives {ch : List Str} (c : Ch ch) : Gives (largest_placesM ch) (fun l => ∃ m, Lsq ch m ∧ l.Pairwise ltQ ∧ ∀ q, q ∈ l ↔ (m ≠ 0 ∧ isSq ch q = true ∧ blk ch m q)) := by
  unfold largest_placesM
  refine Gives.bind (Gives.c1 Is.pure (sizes_gives c)) fun y hy => ?_
  refine Gives.bind (P := fun m => m ∈ y.map (·.2) ∧ ∀ z ∈ y.map (·.2), z ≤ m) (fun n Q q => ⟨vals_len c hy, fun m hm => q m hm⟩) fun m hm => ?_
  have hl := lsq_of hy hm.1 hm.2
  have nd : (y.map (·.1)).Nodup := by rw [hy.keys]; exact nd_rev (srt_nodup (allSq_srt ch))
  refine Gives.isB (Is.eqv Is.pure Is.pure) ?_
  by_cases e : m = 0
  · rw [decide_eq_true e]
    exact Is.gives (Is.ret (Is.row Is.pure (by decide))) ⟨m, hl, .nil, fun q => ⟨fun h => (by cases h), fun h => absurd e h.1⟩⟩
  · rw [decide_eq_false e]
    have hh : ∀ q ∈ allSq ch, ∃ v, lookK y q = some v ∧ Pz ch q v := fun q hq => by
      have hx' : q ∈ y.map (·.1) := by rw [hy.keys]; exact List.mem_reverse.mpr hq
      obtain ⟨⟨x', w⟩, hw, e⟩ := List.mem_map.mp hx'
      cases e
      exact ⟨w, lookK_mem nd hw, hy.val _ _ (lookK_mem nd hw)⟩
    refine Is.gives (Is.ret (Is.lcF (p := fun q => decide (getK y q = m)) (Is.b1 Is.pure (squares_of_is c)) (by have := c.area; omega) fun q hq => ?_)) ⟨m, hl, (allSq_srt ch).sublist List.filter_sublist, fun q => ?_⟩
    · obtain ⟨v, h1, h2⟩ := hh q hq
      exact Is.eqv (Is.b2 Is.pure Is.pure (Is.req (by unfold hasK; rw [h1]; rfl))) Is.pure
    · rw [List.mem_filter, mem_allSq, decide_eq_true_eq]
      have hm0 : ((m.toNat : Nat) : Int) = m := by have := hl.1; omega
      constructor
      · rintro ⟨h1, h2⟩
        obtain ⟨v, h3, h4⟩ := hh q (mem_allSq.mpr h1)
        have : v = m := by rw [← h2]; unfold getK; rw [h3]; rfl
        subst this
        have := (h4.2 v.toNat).mp (by omega)
        rw [hm0] at this
        exact ⟨e, h1, this⟩
      · rintro ⟨_, h1, h2⟩
        obtain ⟨v, h3, h4⟩ := hh q (mem_allSq.mpr h1)
        refine ⟨h1, ?_⟩
        have e1 : getK y q = v := by unfold getK; rw [h3]; rfl
        rw [e1]
        have g1 : m ≤ v := by rw [← hm0]; exact (h4.2 m.toNat).mpr (by rw [hm0]; exact h2)
        have hv0 : ((v.toNat : Nat) : Int) = v := by have := h4.1; omega
        have g2 : v ≤ m := by rw [← hv0]; exact (hl.2 v.toNat).mpr ⟨q, h1, (h4.2 v.toNat).mp (by omega)⟩
        omega
/-! places told row by row ascend -/
theorem fnd_srt {p : Int → Int → Bool} {rows cols : List Int} (hr : rows.Pairwise (· < ·)) (hc : cols.Pairwise (· < ·)) : (fnd p rows cols).Pairwise ltQ := by
  unfold fnd
  induction rows with
  | nil => exact .nil
  | cons r rows ih =>
    obtain ⟨h1, h2⟩ := List.pairwise_cons.mp hr
    rw [List.flatMap_cons]
    refine List.pairwise_append.mpr ⟨?_, ih h2, fun a ha b hb => ?_⟩
    · rw [List.pairwise_map]
      exact (hc.sublist List.filter_sublist).imp fun h => .inr ⟨rfl, h⟩
    · obtain ⟨k, hk, rfl⟩ := List.mem_map.mp ha
      obtain ⟨r', hr', hb⟩ := List.mem_flatMap.mp hb
      obtain ⟨k', hk', rfl⟩ := List.mem_map.mp hb
      exact .inl (h1 r' hr')
theorem rangeL_srt (lo hi : Int) : (rangeL lo hi).Pairwise (· < ·) := by
  unfold rangeL
  rw [List.pairwise_map]
  exact List.pairwise_lt_range.imp fun h => by omega
theorem plc_srt (ch : List Str) (s : Int) : (plc ch s).Pairwise ltQ := fnd_srt (rangeL_srt _ _) (rangeL_srt _ _)
end Y

set_option maxHeartbeats 1000000
namespace W
open PySem PySem.Spec L2 Y
theorem deal_plain (ns : List Int) (hl : ns.length ≤ 63) (n : Nat) : (m__law_deal ns).run n fun _ _ => True := Y.deal_plain ns hl n
theorem same6_is {α : Type} [PyI α] [Dat α] [Cm α] [EqD α] [DecidableEq α] {x y : α} (hx : Cm.ok x) (hy : Cm.ok y) (hn : Cm.n α ≤ 5 := by decide) : Is (m__law_same 6 (Dat.dat x) (Dat.dat y)) (decide (x = y)) := Y.same_is hx hy hn
section
variable {ch : List Str} (c : Ch ch)
include c
theorem law_lies_is {s : Nat} (hs : s ≤ 300) (p : Sq) : Is (m__law_lies ch s p) (lies ch s p) := by
  unfold m__law_lies
  refine Is.bind (Is.range1 Is.pure (by omega)) (Is.afterAll (Is.loopAll (no := false) (p := fun a => (rangeL 0 s).all fun b => !isLd ch (p.1 + a, p.2 + b)) fun a _ => ?_) (fun e => ?_) fun e => ?_)
  · refine Is.bind (Is.range1 Is.pure (by omega)) (Is.afterAll (Is.loopAll (no := false) (p := fun b => !isLd ch (p.1 + a, p.2 + b)) fun b _ => Is.guard ((Is.b3 Is.pure (Is.add (Is.fst Is.pure) Is.pure) (Is.add (Is.snd Is.pure) Is.pure) (law_atL_is c _ _)).eq (Bool.not_not _).symm) fun _ => Is.pure) (fun e => ?_) fun e => ?_)
    · rw [e]; exact Is.pure
    · rw [e]; exact Is.pure
  · have : lies ch s p = true := by
      unfold lies und
      rw [List.all_flatMap]
      simpa [List.all_map] using e
    rw [this]; exact Is.ret Is.pure
  · have : lies ch s p = false := by
      unfold lies und
      rw [List.all_flatMap, ← e]
      simp [List.all_map, Function.comp_def]
    rw [this]; exact Is.pure
variable (h40 : ch.length ≤ 40) (w40 : wid ch ≤ 40) {s : Nat} (hs : s ≤ 10)
include h40 w40 hs
theorem law_places_is : Is (m__law_places ch s) (plc ch s) :=
  found_is (rng_rows c h40 w40 hs) (rng_cols c h40 w40 hs) (rng_mul c h40 w40 hs) fun r _ k _ => Is.b3 Is.pure Is.pure (Is.pair Is.pure Is.pure) (law_lies_is c (by omega) _)
end
theorem notB_is {w : WP Bool} {b : Bool} (h : Is w b) (d : Bool) : Is (WP.notB w d) (!(b == d)) := h.bind Is.pure
theorem sameL_is {α : Type} [PyI α] [Dat α] [Cm α] [EqD α] [DecidableEq α] {xs ys : List α} (hx : Cm.ok xs) (hy : Cm.ok ys) (hn : Cm.n α ≤ 5 := by decide) : Is (m__law_same__l (xs.map Dat.dat) (ys.map Dat.dat)) (decide (xs = ys)) := Y.same_l_is hx hy hn
theorem sl_is {α : Type} [PyI α] [Dat α] [Cm α] [EqD α] [DecidableEq α] {w1 w2 : WP (List α)} {xs ys : List α} (h1 : Is w1 xs) (h2 : Is w2 ys) (hx : Cm.ok xs) (hy : Cm.ok ys) (hn : Cm.n α ≤ 5 := by decide) : Is (WP.b2 (w1.bind fun xs => WP.pure (xs.map Dat.dat)) (w2.bind fun xs => WP.pure (xs.map Dat.dat)) m__law_same__l) (decide (xs = ys)) := Is.b2 (h1.bind Is.pure) (h2.bind Is.pure) (sameL_is hx hy hn)
theorem lq_ok {l : List Sq} (h : l.length ≤ 100000) : Cm.ok l := ⟨h, fun _ _ => ⟨trivial, trivial⟩⟩
theorem gc_cm {ch : List Str} (g : GC ch) : Cm.ok ch := ⟨by have := g.good.hl; omega, fun s hs => g.ok s hs⟩
theorem way_steps {st : Sq → List Sq} {a b : Sq} {w : List Sq} (h : Way st a b w) {k : Nat} (hk : k + 1 < w.length) : ixD w ((k + 1 : Nat) : Int) ∈ st (ixD w (k : Int)) := by
  obtain ⟨t, rfl, _, hp⟩ := h
  rw [List.length_cons] at hk
  have h1 := pairsFrom_get a t k (by omega)
  have h2 := hp _ (List.mem_of_getElem? h1)
  rw [ixD_nat (by rw [List.length_cons]; omega), ixD_nat (by rw [List.length_cons]; omega)]
  rw [List.getD_eq_getElem?_getD, List.getD_eq_getElem?_getD, List.getElem?_eq_getElem (l := a :: t) (by rw [List.length_cons]; omega), List.getElem?_eq_getElem (l := t) (by omega)] at h2
  exact h2
theorem way_mem {st : Sq → List Sq} {a b : Sq} {w : List Sq} (h : Way st a b w) {x : Sq} (hx : x ∈ w) : x = a ∨ ∃ y, x ∈ st y := by
  obtain ⟨t, rfl, _, hp⟩ := h
  rcases List.mem_cons.mp hx with e | e
  · exact .inl e
  · have : x ∈ (pairsFrom a t).map (·.2) := by rw [seconds]; exact e
    obtain ⟨p, h1, rfl⟩ := List.mem_map.mp this
    exact .inr ⟨_, hp p h1⟩
theorem way_hd {st : Sq → List Sq} {a b : Sq} {w : List Sq} (h : Way st a b w) : ixD w 0 = a ∧ ixD w (-1) = b ∧ 0 < w.length := by
  obtain ⟨t, rfl, h1, _⟩ := h
  exact ⟨@ixD_getD Sq _ (a :: t) 0 (Nat.succ_pos _), by rw [ixD_last, h1], by simp⟩
section
variable {ch : List Str} (g : GC ch) (h40 : ch.length ≤ 12) (w40 : wid ch ≤ 12) {s : Nat} (h1 : 1 ≤ s) (hs : s ≤ 3)
include g h40 w40 h1 hs
theorem sails_is {a b : Sq} (ha : a ∈ plc ch s) (hb : b ∈ plc ch s) : Gives ((WP.inD (WP.pure b) (WP.b3 (WP.pure (plc ch s)) (WP.pure a) (WP.pure false) m__law_spread))) (fun x => x = true ↔ Rch (nxP ch s) a b) := by
  have c := g.good
  have hl := plc_len c (by omega) (by omega) (s := s) (by omega)
  intro n Q q
  refine spread_gives (sq := plc ch s) (s := a) (wide := false) (by omega) n _ fun met hm => ?_
  refine (Is.inQ (a := WP.pure b) (b := WP.pure met) Is.pure Is.pure) n _ (q _ ?_)
  show decide (b ∈ met) = true ↔ _
  rw [decide_eq_true_eq, hm.1]
  have e : (fun p => (nbW false p).filter fun x => decide (x = a) || decide (x ∈ plc ch s)) = nxP ch s := by
    funext p
    refine List.filter_congr fun x _ => ?_
    rw [Bool.eq_iff_iff, Bool.or_eq_true, decide_eq_true_eq, decide_eq_true_eq]
    exact ⟨fun h => h.elim (fun e => e ▸ ha) id, .inr⟩
  rw [e]
theorem law_sails_is : Draws (m__law_sails () ch s (plc ch s)) 2 (· = true) := by
  have c := g.good
  have hl := plc_len c (by omega) (by omega) (s := s) (by omega)
  have hpos : 0 < (plc ch s).length := by
    refine List.length_pos_of_mem (a := (-(s : Int), -(s : Int))) (mem_plc.mpr ⟨by dsimp only; omega, lies_iff.mpr fun x x1 x2 => ?_⟩)
    cases e : isLd ch x with
    | false => rfl
    | true => have := isSq_iff.mp (isLd_sq e); dsimp only at x1; omega
  unfold m__law_sails
  refine Draws.go (Draws.u2 Is.pure (draw_pickL hpos)) fun a ha => Draws.go (Draws.u2 Is.pure (draw_pickL hpos)) fun b hb => Gives.draws ?_
  refine Gives.bind (sails_is g h40 w40 h1 hs ha hb) fun x hx => ?_
  refine Gives.bind (Gives.c4 Is.pure Is.pure Is.pure Is.pure (voyage_gives c (by omega) (by omega) (s := s) (by omega) (b := b) ha)) fun way hw => ?_
  refine Gives.bind (Gives.c4 Is.pure Is.pure Is.pure Is.pure (blocking_gives c (by omega) (by omega) (s := s) (by omega) (b := b) ha)) fun pap hp => ?_
  cases x with
  | true =>
    have hr := hx.mp rfl
    obtain ⟨w, rfl, _, hway, hwl, _⟩ := hw.resolve_left fun z => z.2 hr
    obtain ⟨rfl, _⟩ : pap = none ∧ Rch (nxP ch s) a b := hp.resolve_right fun ⟨l, _, h, _⟩ => h hr
    obtain ⟨hd0, hd1, hwp⟩ := way_hd hway
    refine Gives.passB ((Is.or (x := false) (y := false) (Is.eqv (Is.isN Is.pure) Is.pure) fun _ => Is.ne (Is.isN Is.pure) Is.pure)) ?_
    refine Gives.isB Is.pure ?_
    refine Gives.passB ((Is.or (x := false) (y := false) ((Is.neD (Is.ix (Is.bind (Is.the Is.pure) Is.pure) Is.pure ⟨by show -(w.length : Int) ≤ 0; omega, by show (0 : Int) < w.length; omega⟩) Is.pure (ok_sq _) (ok_sq _)).eq ?_) fun _ => (Is.neD (Is.ix (Is.bind (Is.the Is.pure) Is.pure) (Is.neg Is.pure) ⟨by show -(w.length : Int) ≤ -1; omega, by show (-1 : Int) < w.length; omega⟩) Is.pure (ok_sq _) (ok_sq _)).eq ?_)) ?_
    · show (!decide (ixD w 0 = a)) = false
      rw [hd0, decide_eq_true rfl]; rfl
    · show (!decide (ixD w (-1) = b)) = false
      rw [hd1, decide_eq_true rfl]; rfl
    refine Gives.isB (b := rangeL 0 (w.length : Int)) (Is.range1 (Is.len (Is.bind (Is.the Is.pure) Is.pure)) (by show w.length ≤ 100000; omega)) ?_
    refine Gives.loopT (fun k hk => ?_) ?_
    · obtain ⟨k0, k1⟩ := mem_rangeL0.mp hk
      have ik : Is (WP.ix ((WP.the (WP.pure (some (⟨w⟩ : Ls Sq)))).bind fun x => WP.pure x.l) (WP.pure k)) (ixD w k) := Is.ix (Is.bind (Is.the Is.pure) Is.pure) Is.pure ⟨by show -(w.length : Int) ≤ k; omega, by show k < (w.length : Int); omega⟩
      have hin : ixD w k ∈ plc ch s := by
        rcases way_mem hway (ixD_mem k0 k1) with e | ⟨y, hy⟩
        · rw [e]; exact ha
        · exact of_decide_eq_true (List.mem_filter.mp hy).2
      have hlie := (mem_plc.mp hin).2
      have hld : isLd ch ((ixD w k).1, (ixD w k).2) = false := lies_iff.mp hlie _ (by dsimp only; omega) (by dsimp only; omega)
      have t1 : Is (WP.or (WP.notB (WP.b3 (WP.pure ch) (WP.pure (s : Int)) (WP.ix ((WP.the (WP.pure (some (⟨w⟩ : Ls Sq)))).bind fun x => WP.pure x.l) (WP.pure k)) m_can_lie) true) (WP.and (WP.gt (WP.pure k) (WP.pure (0 : Int))) (WP.not (WP.inD (WP.ix ((WP.the (WP.pure (some (⟨w⟩ : Ls Sq)))).bind fun x => WP.pure x.l) (WP.pure k)) (WP.b1 (WP.ix ((WP.the (WP.pure (some (⟨w⟩ : Ls Sq)))).bind fun x => WP.pure x.l) (WP.sub (WP.pure k) (WP.pure (1 : Int)))) m__law_sides))))) false := by
        have u1 : Is (WP.notB (WP.b3 (WP.pure ch) (WP.pure (s : Int)) (WP.ix ((WP.the (WP.pure (some (⟨w⟩ : Ls Sq)))).bind fun x => WP.pure x.l) (WP.pure k)) m_can_lie) true) false := by
          refine (notB_is (Is.b3 Is.pure Is.pure ik (can_lie_is c (s := s) (by omega) _)) true).eq ?_
          rw [hlie]; rfl
        refine Is.or (x := false) (y := false) u1 fun _ => ?_
        refine (Is.and (x := decide (0 < k)) (y := false) (Is.gt Is.pure Is.pure) fun hk0 => ?_).eq (Bool.and_false _)
        have hk0 := of_decide_eq_true hk0
        have ij : Is (WP.ix ((WP.the (WP.pure (some (⟨w⟩ : Ls Sq)))).bind fun x => WP.pure x.l) (WP.sub (WP.pure k) (WP.pure (1 : Int)))) (ixD w (k - 1)) := Is.ix (Is.bind (Is.the Is.pure) Is.pure) (Is.sub Is.pure Is.pure) ⟨by show -(w.length : Int) ≤ k - 1; omega, by show k - 1 < (w.length : Int); omega⟩
        refine (Is.not (Is.inQ ik (Is.b1 ij (law_sidesL_is _)))).eq ?_
        have := way_steps hway (k := (k - 1).toNat) (by omega)
        rw [show (((k - 1).toNat + 1 : Nat) : Int) = k by omega, show (((k - 1).toNat : Nat) : Int) = k - 1 by omega] at this
        rw [decide_eq_true (List.mem_filter.mp this).1]; rfl
      have t2 : Is (WP.b3 (WP.pure ch) (WP.fst (WP.ix ((WP.the (WP.pure (some (⟨w⟩ : Ls Sq)))).bind fun x => WP.pure x.l) (WP.pure k))) (WP.snd (WP.ix ((WP.the (WP.pure (some (⟨w⟩ : Ls Sq)))).bind fun x => WP.pure x.l) (WP.pure k))) m__law_at) false :=
        (Is.b3 Is.pure (Is.fst ik) (Is.snd ik) (law_atL_is c _ _)).eq hld
      exact Gives.stop (Gives.of t1) (Gives.stop (Gives.of t2) (Gives.pure rfl))
    · have ev : Is (WP.min4 (WP.fst (WP.pure a)) (WP.snd (WP.pure a)) (WP.fst (WP.pure b)) (WP.snd (WP.pure b))) (min (min a.1 a.2) (min b.1 b.2)) := Is.bind (Is.fst Is.pure) (Is.bind (Is.snd Is.pure) (Is.bind (Is.fst Is.pure) (Is.bind (Is.snd Is.pure) Is.pure)))
      refine Gives.pass ?_ (Gives.retT rfl)
      refine Gives.andF (Is.gives (Is.gt Is.pure Is.pure) fun hs1 => Gives.andF (Is.gives (Is.gt ev (Is.neg Is.pure)) fun hmn => ?_))
      have hs1 := of_decide_eq_true hs1
      have hmn := of_decide_eq_true hmn
      have es : (s : Int) - 1 = ((s - 1 : Nat) : Int) := by omega
      have hr2 := rch_less c (s := (s : Int)) (by omega) hr
      rw [clp_in (by omega) (by omega), clp_in (by omega) (by omega), es] at hr2
      have ha2 : a ∈ plc ch ((s - 1 : Nat) : Int) := by
        have := clp_plc c (s := (s : Int)) (by omega) ha
        rwa [clp_in (by omega) (by omega), es] at this
      refine Gives.bind (Gives.c4 Is.pure ((Is.sub Is.pure Is.pure).eq es) Is.pure Is.pure (voyage_gives c (by omega) (by omega) (s := s - 1) (by omega) (b := b) ha2)) fun o ho => ?_
      obtain ⟨w2, rfl, _⟩ := ho.resolve_left fun z => z.2 hr2
      exact Gives.pure rfl
  | false =>
    have hr : ¬ Rch (nxP ch s) a b := fun z => by cases hx.mpr z
    obtain ⟨rfl, _⟩ := hw.resolve_right fun ⟨l, _, h, _⟩ => hr h
    obtain ⟨l, rfl, _, hnd, hm⟩ := hp.resolve_left fun z => hr z.2
    refine Gives.passB ((Is.or (x := false) (y := false) (Is.eqv (Is.isN Is.pure) Is.pure) fun _ => Is.ne (Is.isN Is.pure) Is.pure)) ?_
    refine Gives.isB Is.pure ?_
    refine Gives.passB ((Is.or (x := false) (y := false) ((Is.not (Is.inQ Is.pure (Is.bind (Is.the Is.pure) Is.pure))).eq ?_) fun _ => (Is.inQ Is.pure (Is.bind (Is.the Is.pure) Is.pure)).eq ?_)) (Gives.retT rfl)
    · show (!decide (a ∈ l)) = false
      rw [decide_eq_true ((hm a).mpr .refl)]; rfl
    · exact decide_eq_false fun z => hr ((hm b).mp z)
end
section
variable {ch : List Str} (g : GC ch) (h40 : ch.length ≤ 12) (w40 : wid ch ≤ 12) {s : Nat} (h1 : 1 ≤ s) (hs : s ≤ 3)
include g h40 w40 h1 hs
/-- the squares of the reverse chart's land of a ship's size -/
theorem rev_ld (q : Sq) : isLd (revC ch) q = true ↔ isSq ch q = true ∧ isLd ch q = false := by
  have c := g.good
  unfold revC
  rw [chF_ld c.ne c.hl c.w0 c.wl, List.mem_filter, mem_allSq, Bool.not_eq_true', isSq_iff]
  exact ⟨fun ⟨_, h⟩ => h, fun h => ⟨by omega, h⟩⟩
theorem rev_sq (q : Sq) : isSq (revC ch) q = isSq ch q := by
  have c := g.good
  rw [revC, chF_sq c.ne c.hl c.w0 c.wl]; rfl
theorem rev_blk {k : Nat} (hk : 1 ≤ k) (q : Sq) : blk (revC ch) k q ↔ lies ch k q = true ∧ (0 ≤ q.1 ∧ q.1 ≤ (ch.length : Int) - k) ∧ 0 ≤ q.2 ∧ q.2 ≤ (wid ch : Int) - k := by
  constructor
  · intro h
    have h2 : ∀ x ∈ und k q, isSq ch x = true ∧ isLd ch x = false := fun x hx => (rev_ld g h40 w40 h1 hs x).mp (h x hx)
    refine ⟨lies_iff.mpr fun x x1 x2 => (h2 x (mem_und.mpr ⟨x1, x2⟩)).2, ?_⟩
    have a1 := isSq_iff.mp (h2 q (mem_und.mpr (by omega))).1
    have a2 := isSq_iff.mp (h2 (q.1 + k - 1, q.2 + k - 1) (mem_und.mpr (by dsimp only; omega))).1
    dsimp only at a2
    omega
  · rintro ⟨h, h2⟩ x hx
    have hx := mem_und.mp hx
    exact (rev_ld g h40 w40 h1 hs x).mpr ⟨isSq_iff.mpr (by omega), lies_iff.mp h x hx.1 hx.2⟩
end
theorem win_dry {ch : List Str} (g : GC ch) {s : Nat} (h1 : 1 ≤ s) (hs : s ≤ 10) {p : Sq} (hp : lies ch s p = true) (q : Sq) : isLd (winC ch p.1 p.2 s s) q = false := by
  cases e : isLd (winC ch p.1 p.2 s s) q with
  | false => rfl
  | true =>
    unfold winC at e
    obtain ⟨h2, h3⟩ := (chF_ld h1 (by omega) h1 (by omega) _ _).mp e
    obtain ⟨x, hx, rfl⟩ := List.mem_map.mp h3
    have hx2 := (List.mem_filter.mp hx).2
    dsimp only at h2
    rw [lies_iff.mp hp x (by omega) (by omega)] at hx2
    cases hx2
theorem law_plain (ns : List Int) (h : ns.length ≤ 63) : (m_law ns).run 0 fun _ b => b = true := by
  refine run_plain (k := 10000) ?_
  unfold m_law
  refine Draws.go (k := 5010) draw_chartL fun ch ⟨g, h12, w12⟩ => ?_
  have c := g.good
  refine Draws.go (k := 1) (K := 10000 - 5010) (P := fun x => ∃ s : Nat, x = (s : Int) ∧ 1 ≤ s ∧ s ≤ 3) ?_ (fun sz hsz => ?_)
  · exact fun n Q hn q => ⟨by omega, by decide, fun x h0 h1 => q _ _ (by omega) (by omega) ⟨(1 + x).toNat, by omega, by omega, by omega⟩⟩
  obtain ⟨s, es, h1, h3⟩ := hsz
  subst es
  have hl := plc_len c (by omega) (by omega) (s := s) (by omega)
  refine Draws.isB (Is.b2 Is.pure Is.pure (law_places_is c (by omega) (by omega) (by omega))) ?_
  refine Draws.passB (Is.notF ((sl_is (Is.b2 Is.pure Is.pure (ship_places_is c (by omega) (by omega) (s := s) (by omega))) Is.pure (lq_ok (by omega)) (lq_ok (by omega))).eq (decide_eq_true rfl))) ?_
  refine Draws.isB (Is.range1 Is.pure (by decide)) ?_
  refine Draws.skip (Draws.loopT (xs := rangeL 0 3) (k := 2) (k' := 1) (fun t _ => ?_) ?_) (by decide)
  · exact Draws.turn (Draws.u4 Is.pure Is.pure Is.pure (law_sails_is g h12 w12 h1 h3))
  have es : (s : Int) + 1 = ((s + 1 : Nat) : Int) := by omega
  have ok1 := swC_ok (s := (s : Int)) c
  have ok2 := swC_ok (s := ((s + 1 : Nat) : Int)) c
  refine Draws.isB (b := swC ch ((s + 1 : Nat) : Int)) (Is.b2 Is.pure ((Is.add Is.pure Is.pure).eq es) (swept_is c (by omega) (by omega) (s := s + 1) (by omega))) ?_
  have sw := swept_is c (by omega) (by omega) (s := s) (by omega)
  refine Draws.passB (Is.or (x := false) (y := false) ((notB_is (Is.b2 (Is.b2 Is.pure Is.pure sw) Is.pure (within_true ok1.1.good ok2.1.good fun q hq => sw_more c h1 hq)) true).eq rfl) fun _ => (notB_is (Is.b2 Is.pure (Is.b2 Is.pure Is.pure sw) (within_true c ok1.1.good fun q hq => sw_land c hq)) true).eq rfl) ?_
  have sw1 := swept_is c (by omega) (by omega) (s := 1) (by omega)
  refine Draws.passB (Is.notF ((Is.b2 (Is.bind (Is.b2 Is.pure Is.pure sw1) Is.pure) (Is.bind Is.pure Is.pure) (same6_is (x := swC ch 1) (y := ch) (by rw [sw_one g]; exact gc_cm g) (gc_cm g))).eq (decide_eq_true (sw_one g)))) ?_
  have hrev := chF_ok c.ne c.hl c.w0 c.wl ((allSq ch).filter fun q => !isLd ch q)
  refine Draws.isB (Is.b1 Is.pure (reverse_is g)) ?_
  refine Draws.givesB (Gives.c1 Is.pure (largest_square_gives hrev.1.good)) fun m hm => ?_
  -- the places within the chart
  have hins : Is (WP.lc (WP.pure (plc ch s)) (fun c1 => (WP.and (WP.chain (fun i j => decide (i ≤ j)) (fun i j => decide (i ≤ j)) (WP.pure (0 : Int)) (WP.fst (WP.pure c1)) (WP.sub (WP.len (WP.pure ch)) (WP.pure (s : Int)))) (WP.chain (fun i j => decide (i ≤ j)) (fun i j => decide (i ≤ j)) (WP.pure (0 : Int)) (WP.snd (WP.pure c1)) (WP.sub (WP.lenS (WP.ix (WP.pure ch) (WP.pure (0 : Int)))) (WP.pure (s : Int)))))) (fun c1 => (WP.pure c1))) ((plc ch s).filter fun q => (decide (0 ≤ q.1) && decide (q.1 ≤ (ch.length : Int) - s)) && (decide (0 ≤ q.2) && decide (q.2 ≤ (wid ch : Int) - s))) :=
    Is.lcF Is.pure (by omega) fun q _ => Is.and (Is.chain Is.pure (Is.fst Is.pure) fun _ => Is.sub (Is.len Is.pure) Is.pure) fun _ => Is.chain Is.pure (Is.snd Is.pure) fun _ => Is.sub (Is.wid0 c) Is.pure
  refine Draws.isB hins ?_
  generalize hI : ((plc ch s).filter fun q => (decide (0 ≤ q.1) && decide (q.1 ≤ (ch.length : Int) - s)) && (decide (0 ≤ q.2) && decide (q.2 ≤ (wid ch : Int) - s))) = I
  have memI : ∀ q, q ∈ I ↔ isSq (revC ch) q = true ∧ blk (revC ch) s q := fun q => by
    rw [← hI, List.mem_filter, mem_plc, rev_blk g h12 w12 h1 h3 h1 q, rev_sq g h12 w12 h1 h3 q, isSq_iff]
    simp only [Bool.and_eq_true, decide_eq_true_eq]
    constructor
    · rintro ⟨⟨_, h⟩, h2⟩
      exact ⟨by omega, h, by omega⟩
    · rintro ⟨h, h2, h4⟩
      exact ⟨⟨by omega, h2⟩, by omega⟩
  have srtI : I.Pairwise ltQ := by rw [← hI]; exact (plc_srt ch s).sublist List.filter_sublist
  have lenI : I.length ≤ 2601 := by rw [← hI]; exact Nat.le_trans (List.length_filter_le _ _) hl
  have big : decide (0 < (I.length : Int)) = decide ((s : Int) ≤ m) := by
    rw [decide_eq_decide, hm.2 s]
    constructor
    · intro hp
      have hp : 0 < I.length := by omega
      exact ⟨I[0], (memI _).mp (List.getElem_mem hp)⟩
    · rintro ⟨q, hq⟩
      have := List.length_pos_of_mem ((memI q).mpr hq)
      omega
  refine Draws.passB ((Is.ne (Is.gt (Is.len Is.pure) Is.pure) (Is.ge Is.pure Is.pure)).eq ?_) ?_
  · rw [big, decide_eq_true rfl]; rfl
  refine Draws.go (k := 0) (P := (· = false)) (Gives.draws (Gives.andF (Is.gives (Is.eqv Is.pure Is.pure) fun hms => ?_))) fun b hb => ?_
  · have hms := of_decide_eq_true hms
    refine Gives.bind (P := (· = true)) ?_ fun x hx => by subst hx; exact Gives.pure rfl
    intro n Q q
    refine largest_places_gives hrev.1.good n _ fun l hl2 => ?_
    obtain ⟨m', hm', hsl, hlm⟩ := hl2
    have em : m' = m := by
      have e1 := (hm.2 m'.toNat).mpr ((hm'.2 m'.toNat).mp (by have := hm'.1; omega))
      have e2 := (hm'.2 m.toNat).mpr ((hm.2 m.toNat).mp (by have := hm.1; omega))
      have := hm.1
      have := hm'.1
      omega
    have el : l = I := srt_ext hsl srtI fun q => by
      rw [hlm, memI, em, hms]
      exact ⟨fun h => h.2, fun h => ⟨by omega, h⟩⟩
    subst el
    refine (sl_is (w1 := WP.pure l) (w2 := WP.pure l) Is.pure Is.pure (lq_ok (by omega)) (lq_ok (by omega))) n _ ?_
    rw [decide_eq_true rfl]
    exact q _ rfl
  subst hb
  have hpos : 0 < (plc ch s).length := by
    refine List.length_pos_of_mem (a := (-(s : Int), -(s : Int))) (mem_plc.mpr ⟨by dsimp only; omega, lies_iff.mpr fun x x1 x2 => ?_⟩)
    cases e : isLd ch x with
    | false => rfl
    | true => have := isSq_iff.mp (isLd_sq e); dsimp only at x1; omega
  refine Draws.go (Draws.u2 Is.pure (draw_pickL hpos)) fun p hp => Gives.draws ?_
  have hlie := (mem_plc.mp hp).2
  have hwin := chF_ok (r := s) (c := s) h1 (by omega) h1 (by omega) (((allSq ch).filter (isLd ch)).map fun q => (q.1 - p.1, q.2 - p.2))
  have hdry : Is (m__law_dry (winC ch p.1 p.2 s s)) [] := (dry_is hwin.1.good).eq (List.filter_eq_nil_iff.mpr fun q _ => by
    have hw := win_dry g h1 (by omega) hlie q
    unfold winC at hw
    rw [hw]; decide)
  refine Is.gives (Is.ret (Is.eqLD (Is.b1 (Is.bind Is.pure (Is.bind (Is.fst Is.pure) (Is.bind (Is.snd Is.pure) (Is.bind Is.pure (Is.bind Is.pure (window_is g h1 (by omega) h1 (by omega))))))) hdry) (Is.row Is.pure (by decide)) (fun z hz => by cases hz) (fun z hz => by cases hz))) (decide_eq_true rfl)
end W

namespace W
open PySem PySem.Spec L2 Y
section
theorem all_mk {l : PySem.W.OpenLaw} {w : World} {K : PySem.W.Frag} {h : Heap} {mg : Str → Option Value} {fa f__law_take f__law_deal f_is_square f_is_land f_squares_of f_land_squares f_side_neighbours f_chart_from f_under f_can_lie f_ship_places f_free_places f_next_places f_reached_places f_voyage f_blocking_paper f_swept f_sizes_of f_largest_square f_largest_places f_size_of f_reverse f_is_within f_window f__law_same f__law_grid f__law_chart f__law_at f__law_all f__law_dry f__law_sides f__law_around f__law_spread f__law_pick f__law_lies f__law_places f__law_sails f_law : Addr} (X : K.In h) (G : h.Ns mainGlobals mg) (hfa : mg "law" = some (.ref fa))
    {od__law_take an__law_take : Option Addr} {od__law_deal an__law_deal : Option Addr} {od_is_square an_is_square : Option Addr} {od_is_land an_is_land : Option Addr} {od_squares_of an_squares_of : Option Addr} {od_land_squares an_land_squares : Option Addr} {od_side_neighbours an_side_neighbours : Option Addr} {od_chart_from an_chart_from : Option Addr} {od_under an_under : Option Addr} {od_can_lie an_can_lie : Option Addr} {od_ship_places an_ship_places : Option Addr} {od_free_places an_free_places : Option Addr} {od_next_places an_next_places : Option Addr} {od_reached_places an_reached_places : Option Addr} {od_voyage an_voyage : Option Addr} {od_blocking_paper an_blocking_paper : Option Addr} {od_swept an_swept : Option Addr} {od_sizes_of an_sizes_of : Option Addr} {od_largest_square an_largest_square : Option Addr} {od_largest_places an_largest_places : Option Addr} {od_size_of an_size_of : Option Addr} {od_reverse an_reverse : Option Addr} {od_is_within an_is_within : Option Addr} {od_window an_window : Option Addr} {od__law_same an__law_same : Option Addr} {od__law_grid an__law_grid : Option Addr} {od__law_chart an__law_chart : Option Addr} {od__law_at an__law_at : Option Addr} {od__law_all an__law_all : Option Addr} {od__law_dry an__law_dry : Option Addr} {od__law_sides an__law_sides : Option Addr} {od__law_around an__law_around : Option Addr} {od__law_spread an__law_spread : Option Addr} {od__law_pick an__law_pick : Option Addr} {od__law_lies an__law_lies : Option Addr} {od__law_places an__law_places : Option Addr} {od__law_sails an__law_sails : Option Addr} {od_law an_law : Option Addr} {sl__law_take : Array (Option Value)} {oc__law_take kV__law_take dc__law_take pm__law_take cd__law_take ct__law_take : Value} {sl__law_deal : Array (Option Value)} {oc__law_deal kV__law_deal dc__law_deal pm__law_deal cd__law_deal ct__law_deal : Value} {sl_is_square : Array (Option Value)} {oc_is_square kV_is_square dc_is_square pm_is_square cd_is_square ct_is_square : Value} {sl_is_land : Array (Option Value)} {oc_is_land kV_is_land dc_is_land pm_is_land cd_is_land ct_is_land : Value} {sl_squares_of : Array (Option Value)} {oc_squares_of kV_squares_of dc_squares_of pm_squares_of cd_squares_of ct_squares_of : Value} {sl_land_squares : Array (Option Value)} {oc_land_squares kV_land_squares dc_land_squares pm_land_squares cd_land_squares ct_land_squares : Value} {sl_side_neighbours : Array (Option Value)} {oc_side_neighbours kV_side_neighbours dc_side_neighbours pm_side_neighbours cd_side_neighbours ct_side_neighbours : Value} {sl_chart_from : Array (Option Value)} {oc_chart_from kV_chart_from dc_chart_from pm_chart_from cd_chart_from ct_chart_from : Value} {sl_under : Array (Option Value)} {oc_under kV_under dc_under pm_under cd_under ct_under : Value} {sl_can_lie : Array (Option Value)} {oc_can_lie kV_can_lie dc_can_lie pm_can_lie cd_can_lie ct_can_lie : Value} {sl_ship_places : Array (Option Value)} {oc_ship_places kV_ship_places dc_ship_places pm_ship_places cd_ship_places ct_ship_places : Value} {sl_free_places : Array (Option Value)} {oc_free_places kV_free_places dc_free_places pm_free_places cd_free_places ct_free_places : Value} {sl_next_places : Array (Option Value)} {oc_next_places kV_next_places dc_next_places pm_next_places cd_next_places ct_next_places : Value} {sl_reached_places : Array (Option Value)} {oc_reached_places kV_reached_places dc_reached_places pm_reached_places cd_reached_places ct_reached_places : Value} {sl_voyage : Array (Option Value)} {oc_voyage kV_voyage dc_voyage pm_voyage cd_voyage ct_voyage : Value} {sl_blocking_paper : Array (Option Value)} {oc_blocking_paper kV_blocking_paper dc_blocking_paper pm_blocking_paper cd_blocking_paper ct_blocking_paper : Value} {sl_swept : Array (Option Value)} {oc_swept kV_swept dc_swept pm_swept cd_swept ct_swept : Value} {sl_sizes_of : Array (Option Value)} {oc_sizes_of kV_sizes_of dc_sizes_of pm_sizes_of cd_sizes_of ct_sizes_of : Value} {sl_largest_square : Array (Option Value)} {oc_largest_square kV_largest_square dc_largest_square pm_largest_square cd_largest_square ct_largest_square : Value} {sl_largest_places : Array (Option Value)} {oc_largest_places kV_largest_places dc_largest_places pm_largest_places cd_largest_places ct_largest_places : Value} {sl_size_of : Array (Option Value)} {oc_size_of kV_size_of dc_size_of pm_size_of cd_size_of ct_size_of : Value} {sl_reverse : Array (Option Value)} {oc_reverse kV_reverse dc_reverse pm_reverse cd_reverse ct_reverse : Value} {sl_is_within : Array (Option Value)} {oc_is_within kV_is_within dc_is_within pm_is_within cd_is_within ct_is_within : Value} {sl_window : Array (Option Value)} {oc_window kV_window dc_window pm_window cd_window ct_window : Value} {sl__law_same : Array (Option Value)} {oc__law_same kV__law_same dc__law_same pm__law_same cd__law_same ct__law_same : Value} {sl__law_grid : Array (Option Value)} {oc__law_grid kV__law_grid dc__law_grid pm__law_grid cd__law_grid ct__law_grid : Value} {sl__law_chart : Array (Option Value)} {oc__law_chart kV__law_chart dc__law_chart pm__law_chart cd__law_chart ct__law_chart : Value} {sl__law_at : Array (Option Value)} {oc__law_at kV__law_at dc__law_at pm__law_at cd__law_at ct__law_at : Value} {sl__law_all : Array (Option Value)} {oc__law_all kV__law_all dc__law_all pm__law_all cd__law_all ct__law_all : Value} {sl__law_dry : Array (Option Value)} {oc__law_dry kV__law_dry dc__law_dry pm__law_dry cd__law_dry ct__law_dry : Value} {sl__law_sides : Array (Option Value)} {oc__law_sides kV__law_sides dc__law_sides pm__law_sides cd__law_sides ct__law_sides : Value} {sl__law_around : Array (Option Value)} {oc__law_around kV__law_around dc__law_around pm__law_around cd__law_around ct__law_around : Value} {sl__law_spread : Array (Option Value)} {oc__law_spread kV__law_spread dc__law_spread pm__law_spread cd__law_spread ct__law_spread : Value} {sl__law_pick : Array (Option Value)} {oc__law_pick kV__law_pick dc__law_pick pm__law_pick cd__law_pick ct__law_pick : Value} {sl__law_lies : Array (Option Value)} {oc__law_lies kV__law_lies dc__law_lies pm__law_lies cd__law_lies ct__law_lies : Value} {sl__law_places : Array (Option Value)} {oc__law_places kV__law_places dc__law_places pm__law_places cd__law_places ct__law_places : Value} {sl__law_sails : Array (Option Value)} {oc__law_sails kV__law_sails dc__law_sails pm__law_sails cd__law_sails ct__law_sails : Value} {sl_law : Array (Option Value)} {oc_law kV_law dc_law pm_law cd_law ct_law : Value}
    (a__law_take : PySem.W.nsIn K mainGlobals "_law_take" = some (some (.ref f__law_take))) (l__law_take : K.lookup f__law_take = some ⟨oc__law_take, od__law_take, .func (PySem.W.fnOf "_law_take" "_law_take" (defArgs s__law_take) (defBody s__law_take) (defScope s__law_take) .none kV__law_take dc__law_take pm__law_take an__law_take cd__law_take ct__law_take), sl__law_take⟩) (c__law_take : PySem.W.codeIn K cd__law_take "_law_take" = true) (k__law_take : PySem.W.keepIn K (.ref f__law_take) = true)
    (a__law_deal : PySem.W.nsIn K mainGlobals "_law_deal" = some (some (.ref f__law_deal))) (l__law_deal : K.lookup f__law_deal = some ⟨oc__law_deal, od__law_deal, .func (PySem.W.fnOf "_law_deal" "_law_deal" (defArgs s__law_deal) (defBody s__law_deal) (defScope s__law_deal) .none kV__law_deal dc__law_deal pm__law_deal an__law_deal cd__law_deal ct__law_deal), sl__law_deal⟩) (c__law_deal : PySem.W.codeIn K cd__law_deal "_law_deal" = true) (k__law_deal : PySem.W.keepIn K (.ref f__law_deal) = true)
    (a_is_square : PySem.W.nsIn K mainGlobals "is_square" = some (some (.ref f_is_square))) (l_is_square : K.lookup f_is_square = some ⟨oc_is_square, od_is_square, .func (PySem.W.fnOf "is_square" "is_square" (defArgs s_is_square) (defBody s_is_square) (defScope s_is_square) .none kV_is_square dc_is_square pm_is_square an_is_square cd_is_square ct_is_square), sl_is_square⟩) (c_is_square : PySem.W.codeIn K cd_is_square "is_square" = true) (k_is_square : PySem.W.keepIn K (.ref f_is_square) = true)
    (a_is_land : PySem.W.nsIn K mainGlobals "is_land" = some (some (.ref f_is_land))) (l_is_land : K.lookup f_is_land = some ⟨oc_is_land, od_is_land, .func (PySem.W.fnOf "is_land" "is_land" (defArgs s_is_land) (defBody s_is_land) (defScope s_is_land) .none kV_is_land dc_is_land pm_is_land an_is_land cd_is_land ct_is_land), sl_is_land⟩) (c_is_land : PySem.W.codeIn K cd_is_land "is_land" = true) (k_is_land : PySem.W.keepIn K (.ref f_is_land) = true)
    (a_squares_of : PySem.W.nsIn K mainGlobals "squares_of" = some (some (.ref f_squares_of))) (l_squares_of : K.lookup f_squares_of = some ⟨oc_squares_of, od_squares_of, .func (PySem.W.fnOf "squares_of" "squares_of" (defArgs s_squares_of) (defBody s_squares_of) (defScope s_squares_of) .none kV_squares_of dc_squares_of pm_squares_of an_squares_of cd_squares_of ct_squares_of), sl_squares_of⟩) (c_squares_of : PySem.W.codeIn K cd_squares_of "squares_of" = true) (k_squares_of : PySem.W.keepIn K (.ref f_squares_of) = true)
    (a_land_squares : PySem.W.nsIn K mainGlobals "land_squares" = some (some (.ref f_land_squares))) (l_land_squares : K.lookup f_land_squares = some ⟨oc_land_squares, od_land_squares, .func (PySem.W.fnOf "land_squares" "land_squares" (defArgs s_land_squares) (defBody s_land_squares) (defScope s_land_squares) .none kV_land_squares dc_land_squares pm_land_squares an_land_squares cd_land_squares ct_land_squares), sl_land_squares⟩) (c_land_squares : PySem.W.codeIn K cd_land_squares "land_squares" = true) (k_land_squares : PySem.W.keepIn K (.ref f_land_squares) = true)
    (a_side_neighbours : PySem.W.nsIn K mainGlobals "side_neighbours" = some (some (.ref f_side_neighbours))) (l_side_neighbours : K.lookup f_side_neighbours = some ⟨oc_side_neighbours, od_side_neighbours, .func (PySem.W.fnOf "side_neighbours" "side_neighbours" (defArgs s_side_neighbours) (defBody s_side_neighbours) (defScope s_side_neighbours) .none kV_side_neighbours dc_side_neighbours pm_side_neighbours an_side_neighbours cd_side_neighbours ct_side_neighbours), sl_side_neighbours⟩) (c_side_neighbours : PySem.W.codeIn K cd_side_neighbours "side_neighbours" = true) (k_side_neighbours : PySem.W.keepIn K (.ref f_side_neighbours) = true)
    (a_chart_from : PySem.W.nsIn K mainGlobals "chart_from" = some (some (.ref f_chart_from))) (l_chart_from : K.lookup f_chart_from = some ⟨oc_chart_from, od_chart_from, .func (PySem.W.fnOf "chart_from" "chart_from" (defArgs s_chart_from) (defBody s_chart_from) (defScope s_chart_from) .none kV_chart_from dc_chart_from pm_chart_from an_chart_from cd_chart_from ct_chart_from), sl_chart_from⟩) (c_chart_from : PySem.W.codeIn K cd_chart_from "chart_from" = true) (k_chart_from : PySem.W.keepIn K (.ref f_chart_from) = true)
    (a_under : PySem.W.nsIn K mainGlobals "under" = some (some (.ref f_under))) (l_under : K.lookup f_under = some ⟨oc_under, od_under, .func (PySem.W.fnOf "under" "under" (defArgs s_under) (defBody s_under) (defScope s_under) .none kV_under dc_under pm_under an_under cd_under ct_under), sl_under⟩) (c_under : PySem.W.codeIn K cd_under "under" = true) (k_under : PySem.W.keepIn K (.ref f_under) = true)
    (a_can_lie : PySem.W.nsIn K mainGlobals "can_lie" = some (some (.ref f_can_lie))) (l_can_lie : K.lookup f_can_lie = some ⟨oc_can_lie, od_can_lie, .func (PySem.W.fnOf "can_lie" "can_lie" (defArgs s_can_lie) (defBody s_can_lie) (defScope s_can_lie) .none kV_can_lie dc_can_lie pm_can_lie an_can_lie cd_can_lie ct_can_lie), sl_can_lie⟩) (c_can_lie : PySem.W.codeIn K cd_can_lie "can_lie" = true) (k_can_lie : PySem.W.keepIn K (.ref f_can_lie) = true)
    (a_ship_places : PySem.W.nsIn K mainGlobals "ship_places" = some (some (.ref f_ship_places))) (l_ship_places : K.lookup f_ship_places = some ⟨oc_ship_places, od_ship_places, .func (PySem.W.fnOf "ship_places" "ship_places" (defArgs s_ship_places) (defBody s_ship_places) (defScope s_ship_places) .none kV_ship_places dc_ship_places pm_ship_places an_ship_places cd_ship_places ct_ship_places), sl_ship_places⟩) (c_ship_places : PySem.W.codeIn K cd_ship_places "ship_places" = true) (k_ship_places : PySem.W.keepIn K (.ref f_ship_places) = true)
    (a_free_places : PySem.W.nsIn K mainGlobals "free_places" = some (some (.ref f_free_places))) (l_free_places : K.lookup f_free_places = some ⟨oc_free_places, od_free_places, .func (PySem.W.fnOf "free_places" "free_places" (defArgs s_free_places) (defBody s_free_places) (defScope s_free_places) .none kV_free_places dc_free_places pm_free_places an_free_places cd_free_places ct_free_places), sl_free_places⟩) (c_free_places : PySem.W.codeIn K cd_free_places "free_places" = true) (k_free_places : PySem.W.keepIn K (.ref f_free_places) = true)
    (a_next_places : PySem.W.nsIn K mainGlobals "next_places" = some (some (.ref f_next_places))) (l_next_places : K.lookup f_next_places = some ⟨oc_next_places, od_next_places, .func (PySem.W.fnOf "next_places" "next_places" (defArgs s_next_places) (defBody s_next_places) (defScope s_next_places) .none kV_next_places dc_next_places pm_next_places an_next_places cd_next_places ct_next_places), sl_next_places⟩) (c_next_places : PySem.W.codeIn K cd_next_places "next_places" = true) (k_next_places : PySem.W.keepIn K (.ref f_next_places) = true)
    (a_reached_places : PySem.W.nsIn K mainGlobals "reached_places" = some (some (.ref f_reached_places))) (l_reached_places : K.lookup f_reached_places = some ⟨oc_reached_places, od_reached_places, .func (PySem.W.fnOf "reached_places" "reached_places" (defArgs s_reached_places) (defBody s_reached_places) (defScope s_reached_places) .none kV_reached_places dc_reached_places pm_reached_places an_reached_places cd_reached_places ct_reached_places), sl_reached_places⟩) (c_reached_places : PySem.W.codeIn K cd_reached_places "reached_places" = true) (k_reached_places : PySem.W.keepIn K (.ref f_reached_places) = true)
    (a_voyage : PySem.W.nsIn K mainGlobals "voyage" = some (some (.ref f_voyage))) (l_voyage : K.lookup f_voyage = some ⟨oc_voyage, od_voyage, .func (PySem.W.fnOf "voyage" "voyage" (defArgs s_voyage) (defBody s_voyage) (defScope s_voyage) .none kV_voyage dc_voyage pm_voyage an_voyage cd_voyage ct_voyage), sl_voyage⟩) (c_voyage : PySem.W.codeIn K cd_voyage "voyage" = true) (k_voyage : PySem.W.keepIn K (.ref f_voyage) = true)
    (a_blocking_paper : PySem.W.nsIn K mainGlobals "blocking_paper" = some (some (.ref f_blocking_paper))) (l_blocking_paper : K.lookup f_blocking_paper = some ⟨oc_blocking_paper, od_blocking_paper, .func (PySem.W.fnOf "blocking_paper" "blocking_paper" (defArgs s_blocking_paper) (defBody s_blocking_paper) (defScope s_blocking_paper) .none kV_blocking_paper dc_blocking_paper pm_blocking_paper an_blocking_paper cd_blocking_paper ct_blocking_paper), sl_blocking_paper⟩) (c_blocking_paper : PySem.W.codeIn K cd_blocking_paper "blocking_paper" = true) (k_blocking_paper : PySem.W.keepIn K (.ref f_blocking_paper) = true)
    (a_swept : PySem.W.nsIn K mainGlobals "swept" = some (some (.ref f_swept))) (l_swept : K.lookup f_swept = some ⟨oc_swept, od_swept, .func (PySem.W.fnOf "swept" "swept" (defArgs s_swept) (defBody s_swept) (defScope s_swept) .none kV_swept dc_swept pm_swept an_swept cd_swept ct_swept), sl_swept⟩) (c_swept : PySem.W.codeIn K cd_swept "swept" = true) (k_swept : PySem.W.keepIn K (.ref f_swept) = true)
    (a_sizes_of : PySem.W.nsIn K mainGlobals "sizes_of" = some (some (.ref f_sizes_of))) (l_sizes_of : K.lookup f_sizes_of = some ⟨oc_sizes_of, od_sizes_of, .func (PySem.W.fnOf "sizes_of" "sizes_of" (defArgs s_sizes_of) (defBody s_sizes_of) (defScope s_sizes_of) .none kV_sizes_of dc_sizes_of pm_sizes_of an_sizes_of cd_sizes_of ct_sizes_of), sl_sizes_of⟩) (c_sizes_of : PySem.W.codeIn K cd_sizes_of "sizes_of" = true) (k_sizes_of : PySem.W.keepIn K (.ref f_sizes_of) = true)
    (a_largest_square : PySem.W.nsIn K mainGlobals "largest_square" = some (some (.ref f_largest_square))) (l_largest_square : K.lookup f_largest_square = some ⟨oc_largest_square, od_largest_square, .func (PySem.W.fnOf "largest_square" "largest_square" (defArgs s_largest_square) (defBody s_largest_square) (defScope s_largest_square) .none kV_largest_square dc_largest_square pm_largest_square an_largest_square cd_largest_square ct_largest_square), sl_largest_square⟩) (c_largest_square : PySem.W.codeIn K cd_largest_square "largest_square" = true) (k_largest_square : PySem.W.keepIn K (.ref f_largest_square) = true)
    (a_largest_places : PySem.W.nsIn K mainGlobals "largest_places" = some (some (.ref f_largest_places))) (l_largest_places : K.lookup f_largest_places = some ⟨oc_largest_places, od_largest_places, .func (PySem.W.fnOf "largest_places" "largest_places" (defArgs s_largest_places) (defBody s_largest_places) (defScope s_largest_places) .none kV_largest_places dc_largest_places pm_largest_places an_largest_places cd_largest_places ct_largest_places), sl_largest_places⟩) (c_largest_places : PySem.W.codeIn K cd_largest_places "largest_places" = true) (k_largest_places : PySem.W.keepIn K (.ref f_largest_places) = true)
    (a_size_of : PySem.W.nsIn K mainGlobals "size_of" = some (some (.ref f_size_of))) (l_size_of : K.lookup f_size_of = some ⟨oc_size_of, od_size_of, .func (PySem.W.fnOf "size_of" "size_of" (defArgs s_size_of) (defBody s_size_of) (defScope s_size_of) .none kV_size_of dc_size_of pm_size_of an_size_of cd_size_of ct_size_of), sl_size_of⟩) (c_size_of : PySem.W.codeIn K cd_size_of "size_of" = true) (k_size_of : PySem.W.keepIn K (.ref f_size_of) = true)
    (a_reverse : PySem.W.nsIn K mainGlobals "reverse" = some (some (.ref f_reverse))) (l_reverse : K.lookup f_reverse = some ⟨oc_reverse, od_reverse, .func (PySem.W.fnOf "reverse" "reverse" (defArgs s_reverse) (defBody s_reverse) (defScope s_reverse) .none kV_reverse dc_reverse pm_reverse an_reverse cd_reverse ct_reverse), sl_reverse⟩) (c_reverse : PySem.W.codeIn K cd_reverse "reverse" = true) (k_reverse : PySem.W.keepIn K (.ref f_reverse) = true)
    (a_is_within : PySem.W.nsIn K mainGlobals "is_within" = some (some (.ref f_is_within))) (l_is_within : K.lookup f_is_within = some ⟨oc_is_within, od_is_within, .func (PySem.W.fnOf "is_within" "is_within" (defArgs s_is_within) (defBody s_is_within) (defScope s_is_within) .none kV_is_within dc_is_within pm_is_within an_is_within cd_is_within ct_is_within), sl_is_within⟩) (c_is_within : PySem.W.codeIn K cd_is_within "is_within" = true) (k_is_within : PySem.W.keepIn K (.ref f_is_within) = true)
    (a_window : PySem.W.nsIn K mainGlobals "window" = some (some (.ref f_window))) (l_window : K.lookup f_window = some ⟨oc_window, od_window, .func (PySem.W.fnOf "window" "window" (defArgs s_window) (defBody s_window) (defScope s_window) .none kV_window dc_window pm_window an_window cd_window ct_window), sl_window⟩) (c_window : PySem.W.codeIn K cd_window "window" = true) (k_window : PySem.W.keepIn K (.ref f_window) = true)
    (a__law_same : PySem.W.nsIn K mainGlobals "_law_same" = some (some (.ref f__law_same))) (l__law_same : K.lookup f__law_same = some ⟨oc__law_same, od__law_same, .func (PySem.W.fnOf "_law_same" "_law_same" (defArgs s__law_same) (defBody s__law_same) (defScope s__law_same) .none kV__law_same dc__law_same pm__law_same an__law_same cd__law_same ct__law_same), sl__law_same⟩) (c__law_same : PySem.W.codeIn K cd__law_same "_law_same" = true) (k__law_same : PySem.W.keepIn K (.ref f__law_same) = true)
    (a__law_grid : PySem.W.nsIn K mainGlobals "_law_grid" = some (some (.ref f__law_grid))) (l__law_grid : K.lookup f__law_grid = some ⟨oc__law_grid, od__law_grid, .func (PySem.W.fnOf "_law_grid" "_law_grid" (defArgs s__law_grid) (defBody s__law_grid) (defScope s__law_grid) .none kV__law_grid dc__law_grid pm__law_grid an__law_grid cd__law_grid ct__law_grid), sl__law_grid⟩) (c__law_grid : PySem.W.codeIn K cd__law_grid "_law_grid" = true) (k__law_grid : PySem.W.keepIn K (.ref f__law_grid) = true)
    (a__law_chart : PySem.W.nsIn K mainGlobals "_law_chart" = some (some (.ref f__law_chart))) (l__law_chart : K.lookup f__law_chart = some ⟨oc__law_chart, od__law_chart, .func (PySem.W.fnOf "_law_chart" "_law_chart" (defArgs s__law_chart) (defBody s__law_chart) (defScope s__law_chart) .none kV__law_chart dc__law_chart pm__law_chart an__law_chart cd__law_chart ct__law_chart), sl__law_chart⟩) (c__law_chart : PySem.W.codeIn K cd__law_chart "_law_chart" = true) (k__law_chart : PySem.W.keepIn K (.ref f__law_chart) = true)
    (a__law_at : PySem.W.nsIn K mainGlobals "_law_at" = some (some (.ref f__law_at))) (l__law_at : K.lookup f__law_at = some ⟨oc__law_at, od__law_at, .func (PySem.W.fnOf "_law_at" "_law_at" (defArgs s__law_at) (defBody s__law_at) (defScope s__law_at) .none kV__law_at dc__law_at pm__law_at an__law_at cd__law_at ct__law_at), sl__law_at⟩) (c__law_at : PySem.W.codeIn K cd__law_at "_law_at" = true) (k__law_at : PySem.W.keepIn K (.ref f__law_at) = true)
    (a__law_all : PySem.W.nsIn K mainGlobals "_law_all" = some (some (.ref f__law_all))) (l__law_all : K.lookup f__law_all = some ⟨oc__law_all, od__law_all, .func (PySem.W.fnOf "_law_all" "_law_all" (defArgs s__law_all) (defBody s__law_all) (defScope s__law_all) .none kV__law_all dc__law_all pm__law_all an__law_all cd__law_all ct__law_all), sl__law_all⟩) (c__law_all : PySem.W.codeIn K cd__law_all "_law_all" = true) (k__law_all : PySem.W.keepIn K (.ref f__law_all) = true)
    (a__law_dry : PySem.W.nsIn K mainGlobals "_law_dry" = some (some (.ref f__law_dry))) (l__law_dry : K.lookup f__law_dry = some ⟨oc__law_dry, od__law_dry, .func (PySem.W.fnOf "_law_dry" "_law_dry" (defArgs s__law_dry) (defBody s__law_dry) (defScope s__law_dry) .none kV__law_dry dc__law_dry pm__law_dry an__law_dry cd__law_dry ct__law_dry), sl__law_dry⟩) (c__law_dry : PySem.W.codeIn K cd__law_dry "_law_dry" = true) (k__law_dry : PySem.W.keepIn K (.ref f__law_dry) = true)
    (a__law_sides : PySem.W.nsIn K mainGlobals "_law_sides" = some (some (.ref f__law_sides))) (l__law_sides : K.lookup f__law_sides = some ⟨oc__law_sides, od__law_sides, .func (PySem.W.fnOf "_law_sides" "_law_sides" (defArgs s__law_sides) (defBody s__law_sides) (defScope s__law_sides) .none kV__law_sides dc__law_sides pm__law_sides an__law_sides cd__law_sides ct__law_sides), sl__law_sides⟩) (c__law_sides : PySem.W.codeIn K cd__law_sides "_law_sides" = true) (k__law_sides : PySem.W.keepIn K (.ref f__law_sides) = true)
    (a__law_around : PySem.W.nsIn K mainGlobals "_law_around" = some (some (.ref f__law_around))) (l__law_around : K.lookup f__law_around = some ⟨oc__law_around, od__law_around, .func (PySem.W.fnOf "_law_around" "_law_around" (defArgs s__law_around) (defBody s__law_around) (defScope s__law_around) .none kV__law_around dc__law_around pm__law_around an__law_around cd__law_around ct__law_around), sl__law_around⟩) (c__law_around : PySem.W.codeIn K cd__law_around "_law_around" = true) (k__law_around : PySem.W.keepIn K (.ref f__law_around) = true)
    (a__law_spread : PySem.W.nsIn K mainGlobals "_law_spread" = some (some (.ref f__law_spread))) (l__law_spread : K.lookup f__law_spread = some ⟨oc__law_spread, od__law_spread, .func (PySem.W.fnOf "_law_spread" "_law_spread" (defArgs s__law_spread) (defBody s__law_spread) (defScope s__law_spread) .none kV__law_spread dc__law_spread pm__law_spread an__law_spread cd__law_spread ct__law_spread), sl__law_spread⟩) (c__law_spread : PySem.W.codeIn K cd__law_spread "_law_spread" = true) (k__law_spread : PySem.W.keepIn K (.ref f__law_spread) = true)
    (a__law_pick : PySem.W.nsIn K mainGlobals "_law_pick" = some (some (.ref f__law_pick))) (l__law_pick : K.lookup f__law_pick = some ⟨oc__law_pick, od__law_pick, .func (PySem.W.fnOf "_law_pick" "_law_pick" (defArgs s__law_pick) (defBody s__law_pick) (defScope s__law_pick) .none kV__law_pick dc__law_pick pm__law_pick an__law_pick cd__law_pick ct__law_pick), sl__law_pick⟩) (c__law_pick : PySem.W.codeIn K cd__law_pick "_law_pick" = true) (k__law_pick : PySem.W.keepIn K (.ref f__law_pick) = true)
    (a__law_lies : PySem.W.nsIn K mainGlobals "_law_lies" = some (some (.ref f__law_lies))) (l__law_lies : K.lookup f__law_lies = some ⟨oc__law_lies, od__law_lies, .func (PySem.W.fnOf "_law_lies" "_law_lies" (defArgs s__law_lies) (defBody s__law_lies) (defScope s__law_lies) .none kV__law_lies dc__law_lies pm__law_lies an__law_lies cd__law_lies ct__law_lies), sl__law_lies⟩) (c__law_lies : PySem.W.codeIn K cd__law_lies "_law_lies" = true) (k__law_lies : PySem.W.keepIn K (.ref f__law_lies) = true)
    (a__law_places : PySem.W.nsIn K mainGlobals "_law_places" = some (some (.ref f__law_places))) (l__law_places : K.lookup f__law_places = some ⟨oc__law_places, od__law_places, .func (PySem.W.fnOf "_law_places" "_law_places" (defArgs s__law_places) (defBody s__law_places) (defScope s__law_places) .none kV__law_places dc__law_places pm__law_places an__law_places cd__law_places ct__law_places), sl__law_places⟩) (c__law_places : PySem.W.codeIn K cd__law_places "_law_places" = true) (k__law_places : PySem.W.keepIn K (.ref f__law_places) = true)
    (a__law_sails : PySem.W.nsIn K mainGlobals "_law_sails" = some (some (.ref f__law_sails))) (l__law_sails : K.lookup f__law_sails = some ⟨oc__law_sails, od__law_sails, .func (PySem.W.fnOf "_law_sails" "_law_sails" (defArgs s__law_sails) (defBody s__law_sails) (defScope s__law_sails) .none kV__law_sails dc__law_sails pm__law_sails an__law_sails cd__law_sails ct__law_sails), sl__law_sails⟩) (c__law_sails : PySem.W.codeIn K cd__law_sails "_law_sails" = true) (k__law_sails : PySem.W.keepIn K (.ref f__law_sails) = true)
    (a_law : PySem.W.nsIn K mainGlobals "law" = some (some (.ref f_law))) (l_law : K.lookup f_law = some ⟨oc_law, od_law, .func (PySem.W.fnOf "law" "law" (defArgs s_law) (defBody s_law) (defScope s_law) .none kV_law dc_law pm_law an_law cd_law ct_law), sl_law⟩) (c_law : PySem.W.codeIn K cd_law "law" = true) (k_law : PySem.W.keepIn K (.ref f_law) = true)
    (z_len : PySem.W.nsIn K mainGlobals "len" = some none)
    (z_range : PySem.W.nsIn K mainGlobals "range" = some none)
    (z_abs : PySem.W.nsIn K mainGlobals "abs" = some none)
    (z_int : PySem.W.nsIn K mainGlobals "int" = some none)
    (z_bool : PySem.W.nsIn K mainGlobals "bool" = some none)
    (z_sum : PySem.W.nsIn K mainGlobals "sum" = some none)
    (z_min : PySem.W.nsIn K mainGlobals "min" = some none)
    (z_max : PySem.W.nsIn K mainGlobals "max" = some none)
    (z_tuple : PySem.W.nsIn K mainGlobals "tuple" = some none)
    (z_isinstance : PySem.W.nsIn K mainGlobals "isinstance" = some none)
    (z_list : PySem.W.nsIn K mainGlobals "list" = some none)
    (z_reversed : PySem.W.nsIn K mainGlobals "reversed" = some none)
    (z_str : PySem.W.nsIn K mainGlobals "str" = some none)
    {t_LAND : Tok} (y_LAND : PySem.W.nsIn K mainGlobals "LAND" = some (some (.str "x" t_LAND)))
    {t_WATER : Tok} (y_WATER : PySem.W.nsIn K mainGlobals "WATER" = some (some (.str "." t_WATER)))
    : ∃ fd : FuncData, (∀ (s : Shared) (v : Value), BindsTo s fd ⟨[v], []⟩ [("script", v)]) ∧ ∀ base : Heap, K.In base → base.Ns mainGlobals mg → FnOk l.prog w K mg base CX0 9 fa fd ["script"] (sp_law K) := by
  have e := hfa.symm.trans (PySem.W.mg_of X G a_law)
  cases e
  have T : Glb mg := ⟨PySem.W.mg_none_of X G z_len, PySem.W.mg_none_of X G z_range, PySem.W.mg_none_of X G z_abs, PySem.W.mg_none_of X G z_int, PySem.W.mg_none_of X G z_bool, PySem.W.mg_none_of X G z_sum, PySem.W.mg_none_of X G z_min, PySem.W.mg_none_of X G z_max, PySem.W.mg_none_of X G z_tuple, PySem.W.mg_none_of X G z_isinstance, PySem.W.mg_none_of X G z_list, PySem.W.mg_none_of X G z_reversed, PySem.W.mg_none_of X G z_str, ⟨_, PySem.W.mg_of X G y_LAND⟩, ⟨_, PySem.W.mg_of X G y_WATER⟩⟩
  have A__law_take : At K mg "_law_take" s__law_take P__law_take := ⟨f__law_take, _, PySem.W.mg_of X G a__law_take, fun_mk (st := s__law_take) l__law_take c__law_take k__law_take, (fun_mk (st := s__law_take) l__law_take c__law_take k__law_take).binds (ps := P__law_take) fun _ _ _ _ _ _ us hl => match us, hl with | [_, _], _ => rfl⟩
  have A__law_deal : At K mg "_law_deal" s__law_deal P__law_deal := ⟨f__law_deal, _, PySem.W.mg_of X G a__law_deal, fun_mk (st := s__law_deal) l__law_deal c__law_deal k__law_deal, (fun_mk (st := s__law_deal) l__law_deal c__law_deal k__law_deal).binds (ps := P__law_deal) fun _ _ _ _ _ _ us hl => match us, hl with | [_], _ => rfl⟩
  have A_is_square : At K mg "is_square" s_is_square P_is_square := ⟨f_is_square, _, PySem.W.mg_of X G a_is_square, fun_mk (st := s_is_square) l_is_square c_is_square k_is_square, (fun_mk (st := s_is_square) l_is_square c_is_square k_is_square).binds (ps := P_is_square) fun _ _ _ _ _ _ us hl => match us, hl with | [_, _], _ => rfl⟩
  have A_is_land : At K mg "is_land" s_is_land P_is_land := ⟨f_is_land, _, PySem.W.mg_of X G a_is_land, fun_mk (st := s_is_land) l_is_land c_is_land k_is_land, (fun_mk (st := s_is_land) l_is_land c_is_land k_is_land).binds (ps := P_is_land) fun _ _ _ _ _ _ us hl => match us, hl with | [_, _], _ => rfl⟩
  have A_squares_of : At K mg "squares_of" s_squares_of P_squares_of := ⟨f_squares_of, _, PySem.W.mg_of X G a_squares_of, fun_mk (st := s_squares_of) l_squares_of c_squares_of k_squares_of, (fun_mk (st := s_squares_of) l_squares_of c_squares_of k_squares_of).binds (ps := P_squares_of) fun _ _ _ _ _ _ us hl => match us, hl with | [_], _ => rfl⟩
  have A_land_squares : At K mg "land_squares" s_land_squares P_land_squares := ⟨f_land_squares, _, PySem.W.mg_of X G a_land_squares, fun_mk (st := s_land_squares) l_land_squares c_land_squares k_land_squares, (fun_mk (st := s_land_squares) l_land_squares c_land_squares k_land_squares).binds (ps := P_land_squares) fun _ _ _ _ _ _ us hl => match us, hl with | [_], _ => rfl⟩
  have A_side_neighbours : At K mg "side_neighbours" s_side_neighbours P_side_neighbours := ⟨f_side_neighbours, _, PySem.W.mg_of X G a_side_neighbours, fun_mk (st := s_side_neighbours) l_side_neighbours c_side_neighbours k_side_neighbours, (fun_mk (st := s_side_neighbours) l_side_neighbours c_side_neighbours k_side_neighbours).binds (ps := P_side_neighbours) fun _ _ _ _ _ _ us hl => match us, hl with | [_], _ => rfl⟩
  have A_chart_from : At K mg "chart_from" s_chart_from P_chart_from := ⟨f_chart_from, _, PySem.W.mg_of X G a_chart_from, fun_mk (st := s_chart_from) l_chart_from c_chart_from k_chart_from, (fun_mk (st := s_chart_from) l_chart_from c_chart_from k_chart_from).binds (ps := P_chart_from) fun _ _ _ _ _ _ us hl => match us, hl with | [_, _, _], _ => rfl⟩
  have A_under : At K mg "under" s_under P_under := ⟨f_under, _, PySem.W.mg_of X G a_under, fun_mk (st := s_under) l_under c_under k_under, (fun_mk (st := s_under) l_under c_under k_under).binds (ps := P_under) fun _ _ _ _ _ _ us hl => match us, hl with | [_, _], _ => rfl⟩
  have A_can_lie : At K mg "can_lie" s_can_lie P_can_lie := ⟨f_can_lie, _, PySem.W.mg_of X G a_can_lie, fun_mk (st := s_can_lie) l_can_lie c_can_lie k_can_lie, (fun_mk (st := s_can_lie) l_can_lie c_can_lie k_can_lie).binds (ps := P_can_lie) fun _ _ _ _ _ _ us hl => match us, hl with | [_, _, _], _ => rfl⟩
  have A_ship_places : At K mg "ship_places" s_ship_places P_ship_places := ⟨f_ship_places, _, PySem.W.mg_of X G a_ship_places, fun_mk (st := s_ship_places) l_ship_places c_ship_places k_ship_places, (fun_mk (st := s_ship_places) l_ship_places c_ship_places k_ship_places).binds (ps := P_ship_places) fun _ _ _ _ _ _ us hl => match us, hl with | [_, _], _ => rfl⟩
  have A_free_places : At K mg "free_places" s_free_places P_free_places := ⟨f_free_places, _, PySem.W.mg_of X G a_free_places, fun_mk (st := s_free_places) l_free_places c_free_places k_free_places, (fun_mk (st := s_free_places) l_free_places c_free_places k_free_places).binds (ps := P_free_places) fun _ _ _ _ _ _ us hl => match us, hl with | [_, _], _ => rfl⟩
  have A_next_places : At K mg "next_places" s_next_places P_next_places := ⟨f_next_places, _, PySem.W.mg_of X G a_next_places, fun_mk (st := s_next_places) l_next_places c_next_places k_next_places, (fun_mk (st := s_next_places) l_next_places c_next_places k_next_places).binds (ps := P_next_places) fun _ _ _ _ _ _ us hl => match us, hl with | [_, _], _ => rfl⟩
  have A_reached_places : At K mg "reached_places" s_reached_places P_reached_places := ⟨f_reached_places, _, PySem.W.mg_of X G a_reached_places, fun_mk (st := s_reached_places) l_reached_places c_reached_places k_reached_places, (fun_mk (st := s_reached_places) l_reached_places c_reached_places k_reached_places).binds (ps := P_reached_places) fun _ _ _ _ _ _ us hl => match us, hl with | [_, _], _ => rfl⟩
  have A_voyage : At K mg "voyage" s_voyage P_voyage := ⟨f_voyage, _, PySem.W.mg_of X G a_voyage, fun_mk (st := s_voyage) l_voyage c_voyage k_voyage, (fun_mk (st := s_voyage) l_voyage c_voyage k_voyage).binds (ps := P_voyage) fun _ _ _ _ _ _ us hl => match us, hl with | [_, _, _, _], _ => rfl⟩
  have A_blocking_paper : At K mg "blocking_paper" s_blocking_paper P_blocking_paper := ⟨f_blocking_paper, _, PySem.W.mg_of X G a_blocking_paper, fun_mk (st := s_blocking_paper) l_blocking_paper c_blocking_paper k_blocking_paper, (fun_mk (st := s_blocking_paper) l_blocking_paper c_blocking_paper k_blocking_paper).binds (ps := P_blocking_paper) fun _ _ _ _ _ _ us hl => match us, hl with | [_, _, _, _], _ => rfl⟩
  have A_swept : At K mg "swept" s_swept P_swept := ⟨f_swept, _, PySem.W.mg_of X G a_swept, fun_mk (st := s_swept) l_swept c_swept k_swept, (fun_mk (st := s_swept) l_swept c_swept k_swept).binds (ps := P_swept) fun _ _ _ _ _ _ us hl => match us, hl with | [_, _], _ => rfl⟩
  have A_sizes_of : At K mg "sizes_of" s_sizes_of P_sizes_of := ⟨f_sizes_of, _, PySem.W.mg_of X G a_sizes_of, fun_mk (st := s_sizes_of) l_sizes_of c_sizes_of k_sizes_of, (fun_mk (st := s_sizes_of) l_sizes_of c_sizes_of k_sizes_of).binds (ps := P_sizes_of) fun _ _ _ _ _ _ us hl => match us, hl with | [_], _ => rfl⟩
  have A_largest_square : At K mg "largest_square" s_largest_square P_largest_square := ⟨f_largest_square, _, PySem.W.mg_of X G a_largest_square, fun_mk (st := s_largest_square) l_largest_square c_largest_square k_largest_square, (fun_mk (st := s_largest_square) l_largest_square c_largest_square k_largest_square).binds (ps := P_largest_square) fun _ _ _ _ _ _ us hl => match us, hl with | [_], _ => rfl⟩
  have A_largest_places : At K mg "largest_places" s_largest_places P_largest_places := ⟨f_largest_places, _, PySem.W.mg_of X G a_largest_places, fun_mk (st := s_largest_places) l_largest_places c_largest_places k_largest_places, (fun_mk (st := s_largest_places) l_largest_places c_largest_places k_largest_places).binds (ps := P_largest_places) fun _ _ _ _ _ _ us hl => match us, hl with | [_], _ => rfl⟩
  have A_size_of : At K mg "size_of" s_size_of P_size_of := ⟨f_size_of, _, PySem.W.mg_of X G a_size_of, fun_mk (st := s_size_of) l_size_of c_size_of k_size_of, (fun_mk (st := s_size_of) l_size_of c_size_of k_size_of).binds (ps := P_size_of) fun _ _ _ _ _ _ us hl => match us, hl with | [_], _ => rfl⟩
  have A_reverse : At K mg "reverse" s_reverse P_reverse := ⟨f_reverse, _, PySem.W.mg_of X G a_reverse, fun_mk (st := s_reverse) l_reverse c_reverse k_reverse, (fun_mk (st := s_reverse) l_reverse c_reverse k_reverse).binds (ps := P_reverse) fun _ _ _ _ _ _ us hl => match us, hl with | [_], _ => rfl⟩
  have A_is_within : At K mg "is_within" s_is_within P_is_within := ⟨f_is_within, _, PySem.W.mg_of X G a_is_within, fun_mk (st := s_is_within) l_is_within c_is_within k_is_within, (fun_mk (st := s_is_within) l_is_within c_is_within k_is_within).binds (ps := P_is_within) fun _ _ _ _ _ _ us hl => match us, hl with | [_, _], _ => rfl⟩
  have A_window : At K mg "window" s_window P_window := ⟨f_window, _, PySem.W.mg_of X G a_window, fun_mk (st := s_window) l_window c_window k_window, (fun_mk (st := s_window) l_window c_window k_window).binds (ps := P_window) fun _ _ _ _ _ _ us hl => match us, hl with | [_, _, _, _, _], _ => rfl⟩
  have A__law_same : At K mg "_law_same" s__law_same P__law_same := ⟨f__law_same, _, PySem.W.mg_of X G a__law_same, fun_mk (st := s__law_same) l__law_same c__law_same k__law_same, (fun_mk (st := s__law_same) l__law_same c__law_same k__law_same).binds (ps := P__law_same) fun _ _ _ _ _ _ us hl => match us, hl with | [_, _], _ => rfl⟩
  have A__law_grid : At K mg "_law_grid" s__law_grid P__law_grid := ⟨f__law_grid, _, PySem.W.mg_of X G a__law_grid, fun_mk (st := s__law_grid) l__law_grid c__law_grid k__law_grid, (fun_mk (st := s__law_grid) l__law_grid c__law_grid k__law_grid).binds (ps := P__law_grid) fun _ _ _ _ _ _ us hl => match us, hl with | [_, _, _], _ => rfl⟩
  have A__law_chart : At K mg "_law_chart" s__law_chart P__law_chart := ⟨f__law_chart, _, PySem.W.mg_of X G a__law_chart, fun_mk (st := s__law_chart) l__law_chart c__law_chart k__law_chart, (fun_mk (st := s__law_chart) l__law_chart c__law_chart k__law_chart).binds (ps := P__law_chart) fun _ _ _ _ _ _ us hl => match us, hl with | [_], _ => rfl⟩
  have A__law_at : At K mg "_law_at" s__law_at P__law_at := ⟨f__law_at, _, PySem.W.mg_of X G a__law_at, fun_mk (st := s__law_at) l__law_at c__law_at k__law_at, (fun_mk (st := s__law_at) l__law_at c__law_at k__law_at).binds (ps := P__law_at) fun _ _ _ _ _ _ us hl => match us, hl with | [_, _, _], _ => rfl⟩
  have A__law_all : At K mg "_law_all" s__law_all P__law_all := ⟨f__law_all, _, PySem.W.mg_of X G a__law_all, fun_mk (st := s__law_all) l__law_all c__law_all k__law_all, (fun_mk (st := s__law_all) l__law_all c__law_all k__law_all).binds (ps := P__law_all) fun _ _ _ _ _ _ us hl => match us, hl with | [_], _ => rfl⟩
  have A__law_dry : At K mg "_law_dry" s__law_dry P__law_dry := ⟨f__law_dry, _, PySem.W.mg_of X G a__law_dry, fun_mk (st := s__law_dry) l__law_dry c__law_dry k__law_dry, (fun_mk (st := s__law_dry) l__law_dry c__law_dry k__law_dry).binds (ps := P__law_dry) fun _ _ _ _ _ _ us hl => match us, hl with | [_], _ => rfl⟩
  have A__law_sides : At K mg "_law_sides" s__law_sides P__law_sides := ⟨f__law_sides, _, PySem.W.mg_of X G a__law_sides, fun_mk (st := s__law_sides) l__law_sides c__law_sides k__law_sides, (fun_mk (st := s__law_sides) l__law_sides c__law_sides k__law_sides).binds (ps := P__law_sides) fun _ _ _ _ _ _ us hl => match us, hl with | [_], _ => rfl⟩
  have A__law_around : At K mg "_law_around" s__law_around P__law_around := ⟨f__law_around, _, PySem.W.mg_of X G a__law_around, fun_mk (st := s__law_around) l__law_around c__law_around k__law_around, (fun_mk (st := s__law_around) l__law_around c__law_around k__law_around).binds (ps := P__law_around) fun _ _ _ _ _ _ us hl => match us, hl with | [_], _ => rfl⟩
  have A__law_spread : At K mg "_law_spread" s__law_spread P__law_spread := ⟨f__law_spread, _, PySem.W.mg_of X G a__law_spread, fun_mk (st := s__law_spread) l__law_spread c__law_spread k__law_spread, (fun_mk (st := s__law_spread) l__law_spread c__law_spread k__law_spread).binds (ps := P__law_spread) fun _ _ _ _ _ _ us hl => match us, hl with | [_, _, _], _ => rfl⟩
  have A__law_pick : At K mg "_law_pick" s__law_pick P__law_pick := ⟨f__law_pick, _, PySem.W.mg_of X G a__law_pick, fun_mk (st := s__law_pick) l__law_pick c__law_pick k__law_pick, (fun_mk (st := s__law_pick) l__law_pick c__law_pick k__law_pick).binds (ps := P__law_pick) fun _ _ _ _ _ _ us hl => match us, hl with | [_, _], _ => rfl⟩
  have A__law_lies : At K mg "_law_lies" s__law_lies P__law_lies := ⟨f__law_lies, _, PySem.W.mg_of X G a__law_lies, fun_mk (st := s__law_lies) l__law_lies c__law_lies k__law_lies, (fun_mk (st := s__law_lies) l__law_lies c__law_lies k__law_lies).binds (ps := P__law_lies) fun _ _ _ _ _ _ us hl => match us, hl with | [_, _, _], _ => rfl⟩
  have A__law_places : At K mg "_law_places" s__law_places P__law_places := ⟨f__law_places, _, PySem.W.mg_of X G a__law_places, fun_mk (st := s__law_places) l__law_places c__law_places k__law_places, (fun_mk (st := s__law_places) l__law_places c__law_places k__law_places).binds (ps := P__law_places) fun _ _ _ _ _ _ us hl => match us, hl with | [_, _], _ => rfl⟩
  have A__law_sails : At K mg "_law_sails" s__law_sails P__law_sails := ⟨f__law_sails, _, PySem.W.mg_of X G a__law_sails, fun_mk (st := s__law_sails) l__law_sails c__law_sails k__law_sails, (fun_mk (st := s__law_sails) l__law_sails c__law_sails k__law_sails).binds (ps := P__law_sails) fun _ _ _ _ _ _ us hl => match us, hl with | [_, _, _, _], _ => rfl⟩
  refine ⟨PySem.W.fnOf "law" "law" (defArgs s_law) (defBody s_law) (defScope s_law) .none kV_law dc_law pm_law an_law cd_law ct_law, fun s v => .of_eq rfl, fun base _ _ => ?_⟩
  have H__law_take := ok__law_take (P := l.prog) (w := w) (base := base) A__law_take T
  have H__law_deal := ok__law_deal (P := l.prog) (w := w) (base := base) deal_plain A__law_deal T
  have H_is_square := ok_is_square (P := l.prog) (w := w) (base := base) A_is_square T
  have H_is_land := ok_is_land (P := l.prog) (w := w) (base := base) A_is_land T H_is_square
  have H_squares_of := ok_squares_of (P := l.prog) (w := w) (base := base) A_squares_of T
  have H_land_squares := ok_land_squares (P := l.prog) (w := w) (base := base) A_land_squares T H_is_land H_squares_of
  have H_side_neighbours := ok_side_neighbours (P := l.prog) (w := w) (base := base) A_side_neighbours T
  have H_chart_from := ok_chart_from (P := l.prog) (w := w) (base := base) A_chart_from T
  have H_under := ok_under (P := l.prog) (w := w) (base := base) A_under T
  have H_can_lie := ok_can_lie (P := l.prog) (w := w) (base := base) A_can_lie T H_is_land H_under
  have H_ship_places := ok_ship_places (P := l.prog) (w := w) (base := base) A_ship_places T H_can_lie
  have H_free_places := ok_free_places (P := l.prog) (w := w) (base := base) A_free_places T H_ship_places
  have H_next_places := ok_next_places (P := l.prog) (w := w) (base := base) A_next_places T H_side_neighbours
  have H_reached_places := ok_reached_places (P := l.prog) (w := w) (base := base) A_reached_places T H_next_places
  have H_voyage := ok_voyage (P := l.prog) (w := w) (base := base) A_voyage T H_free_places H_reached_places
  have H_blocking_paper := ok_blocking_paper (P := l.prog) (w := w) (base := base) A_blocking_paper T H_free_places H_reached_places
  have H_swept := ok_swept (P := l.prog) (w := w) (base := base) A_swept T H_chart_from H_ship_places H_squares_of H_under
  have H_sizes_of := ok_sizes_of (P := l.prog) (w := w) (base := base) A_sizes_of T H_is_land H_squares_of
  have H_largest_square := ok_largest_square (P := l.prog) (w := w) (base := base) A_largest_square T H_sizes_of
  have H_largest_places := ok_largest_places (P := l.prog) (w := w) (base := base) A_largest_places T H_sizes_of H_squares_of
  have H_size_of := ok_size_of (P := l.prog) (w := w) (base := base) A_size_of T
  have H_reverse := ok_reverse (P := l.prog) (w := w) (base := base) A_reverse T H_chart_from H_is_land H_size_of H_squares_of
  have H_is_within := ok_is_within (P := l.prog) (w := w) (base := base) A_is_within T H_is_land H_land_squares
  have H_window := ok_window (P := l.prog) (w := w) (base := base) A_window T H_chart_from H_land_squares
  have H__law_same := ok__law_same (P := l.prog) (w := w) (base := base) A__law_same T 6
  have H__law_same__l := ok__law_same__l (P := l.prog) (w := w) (base := base) A__law_same T H__law_same
  have H__law_grid := ok__law_grid (P := l.prog) (w := w) (base := base) A__law_grid T H__law_take
  have H__law_chart := ok__law_chart (P := l.prog) (w := w) (base := base) A__law_chart T H__law_grid H__law_take
  have H__law_at := ok__law_at (P := l.prog) (w := w) (base := base) A__law_at T
  have H__law_all := ok__law_all (P := l.prog) (w := w) (base := base) A__law_all T
  have H__law_dry := ok__law_dry (P := l.prog) (w := w) (base := base) A__law_dry T H__law_all
  have H__law_sides := ok__law_sides (P := l.prog) (w := w) (base := base) A__law_sides T
  have H__law_around := ok__law_around (P := l.prog) (w := w) (base := base) A__law_around T
  have H__law_spread := ok__law_spread (P := l.prog) (w := w) (base := base) A__law_spread T H__law_around H__law_sides
  have H__law_pick := ok__law_pick (P := l.prog) (w := w) (base := base) A__law_pick T H__law_take
  have H__law_lies := ok__law_lies (P := l.prog) (w := w) (base := base) A__law_lies T H__law_at
  have H__law_places := ok__law_places (P := l.prog) (w := w) (base := base) A__law_places T H__law_lies
  have H__law_sails := ok__law_sails (P := l.prog) (w := w) (base := base) A__law_sails T H__law_at H__law_pick H__law_sides H__law_spread H_blocking_paper H_can_lie H_voyage
  exact ok_law law_plain (fun_mk (st := s_law) l_law c_law k_law) T H__law_chart H__law_deal H__law_dry H__law_pick H__law_places H__law_sails H__law_same H__law_same__l H__law_take H_is_within H_largest_places H_largest_square H_reverse H_ship_places H_swept H_window
theorem walk {l : PySem.W.OpenLaw} {q : Program} {loose : List Str} {XP : (Str → Option Value) → Heap → Prop} {YP : World → Heap → Prop} {d : DefRec} {K : Params → PySem.W.Frag} (hn : l.most = some 63) (hdf : d.params.defaults = [])
    (hY : ∀ (w : World) (h : Heap), YP w h → (K w.params).In h)
    (F : ∀ (w : World) (mg : Str → Option Value) (fa : Addr) (h : Heap), (K w.params).In h → h.Ns mainGlobals mg → mg d.name = some (.ref fa) →
      ∃ fd : FuncData, (∀ (s : Shared) (u : Value), BindsTo s fd ⟨[u], []⟩ [("script", u)]) ∧ ∀ base : Heap, (K w.params).In base → base.Ns mainGlobals mg → FnOk l.prog w (K w.params) mg base CX0 9 fa fd ["script"] (sp_law (K w.params))) :
    PySem.W.WalkO q loose XP YP l.row.toRowW d [] (fun f vs => PySem.call f vs) :=
  L2.walk_of (n := 63) (k := 9) (x := "script") (CX := fun _ => CX0) (sp := fun w => sp_law (K w.params)) hn (by decide) hdf ⟨rfl, by decide, by decide⟩ hY F (fun _ _ a ns hl _ hS => ⟨a, ns, rfl, hS, hl, fun _ => rfl⟩) fun _ _ _ _ _ z => z
end
end W
open PySem PySem.W PyProof.Rows
set_option maxRecDepth 100000 in
set_option maxHeartbeats 0 in
theorem PySem.Challenge.cw_landandwater_k95_whole_ships_and_waters_holds : PySem.Challenge.rw_landandwater_k95_whole_ships_and_waters.Holds := by
  w_on; o_law; k_head; (case hw => w_witness2)
  k_fill
  refine W.walk (l := PySem.Challenge.rw_landandwater_k95_whole_ships_and_waters) rfl rfl (fun w h Y => PySem.W.kIn_of Y) ?F
  case F =>
    intro w mg fa h KX G hmg
    refine' W.all_mk KX G hmg ?a__law_take ?l__law_take ?c__law_take ?k__law_take ?a__law_deal ?l__law_deal ?c__law_deal ?k__law_deal ?a_is_square ?l_is_square ?c_is_square ?k_is_square ?a_is_land ?l_is_land ?c_is_land ?k_is_land ?a_squares_of ?l_squares_of ?c_squares_of ?k_squares_of ?a_land_squares ?l_land_squares ?c_land_squares ?k_land_squares ?a_side_neighbours ?l_side_neighbours ?c_side_neighbours ?k_side_neighbours ?a_chart_from ?l_chart_from ?c_chart_from ?k_chart_from ?a_under ?l_under ?c_under ?k_under ?a_can_lie ?l_can_lie ?c_can_lie ?k_can_lie ?a_ship_places ?l_ship_places ?c_ship_places ?k_ship_places ?a_free_places ?l_free_places ?c_free_places ?k_free_places ?a_next_places ?l_next_places ?c_next_places ?k_next_places ?a_reached_places ?l_reached_places ?c_reached_places ?k_reached_places ?a_voyage ?l_voyage ?c_voyage ?k_voyage ?a_blocking_paper ?l_blocking_paper ?c_blocking_paper ?k_blocking_paper ?a_swept ?l_swept ?c_swept ?k_swept ?a_sizes_of ?l_sizes_of ?c_sizes_of ?k_sizes_of ?a_largest_square ?l_largest_square ?c_largest_square ?k_largest_square ?a_largest_places ?l_largest_places ?c_largest_places ?k_largest_places ?a_size_of ?l_size_of ?c_size_of ?k_size_of ?a_reverse ?l_reverse ?c_reverse ?k_reverse ?a_is_within ?l_is_within ?c_is_within ?k_is_within ?a_window ?l_window ?c_window ?k_window ?a__law_same ?l__law_same ?c__law_same ?k__law_same ?a__law_grid ?l__law_grid ?c__law_grid ?k__law_grid ?a__law_chart ?l__law_chart ?c__law_chart ?k__law_chart ?a__law_at ?l__law_at ?c__law_at ?k__law_at ?a__law_all ?l__law_all ?c__law_all ?k__law_all ?a__law_dry ?l__law_dry ?c__law_dry ?k__law_dry ?a__law_sides ?l__law_sides ?c__law_sides ?k__law_sides ?a__law_around ?l__law_around ?c__law_around ?k__law_around ?a__law_spread ?l__law_spread ?c__law_spread ?k__law_spread ?a__law_pick ?l__law_pick ?c__law_pick ?k__law_pick ?a__law_lies ?l__law_lies ?c__law_lies ?k__law_lies ?a__law_places ?l__law_places ?c__law_places ?k__law_places ?a__law_sails ?l__law_sails ?c__law_sails ?k__law_sails ?a_law ?l_law ?c_law ?k_law ?z_len ?z_range ?z_abs ?z_int ?z_bool ?z_sum ?z_min ?z_max ?z_tuple ?z_isinstance ?z_list ?z_reversed ?z_str ?y_LAND ?y_WATER
    (case a__law_take => k_is)
    (case l__law_take => k_is)
    (case c__law_take => k_is)
    (case k__law_take => k_is)
    (case a__law_deal => k_is)
    (case l__law_deal => k_is)
    (case c__law_deal => k_is)
    (case k__law_deal => k_is)
    (case a_is_square => k_is)
    (case l_is_square => k_is)
    (case c_is_square => k_is)
    (case k_is_square => k_is)
    (case a_is_land => k_is)
    (case l_is_land => k_is)
    (case c_is_land => k_is)
    (case k_is_land => k_is)
    (case a_squares_of => k_is)
    (case l_squares_of => k_is)
    (case c_squares_of => k_is)
    (case k_squares_of => k_is)
    (case a_land_squares => k_is)
    (case l_land_squares => k_is)
    (case c_land_squares => k_is)
    (case k_land_squares => k_is)
    (case a_side_neighbours => k_is)
    (case l_side_neighbours => k_is)
    (case c_side_neighbours => k_is)
    (case k_side_neighbours => k_is)
    (case a_chart_from => k_is)
    (case l_chart_from => k_is)
    (case c_chart_from => k_is)
    (case k_chart_from => k_is)
    (case a_under => k_is)
    (case l_under => k_is)
    (case c_under => k_is)
    (case k_under => k_is)
    (case a_can_lie => k_is)
    (case l_can_lie => k_is)
    (case c_can_lie => k_is)
    (case k_can_lie => k_is)
    (case a_ship_places => k_is)
    (case l_ship_places => k_is)
    (case c_ship_places => k_is)
    (case k_ship_places => k_is)
    (case a_free_places => k_is)
    (case l_free_places => k_is)
    (case c_free_places => k_is)
    (case k_free_places => k_is)
    (case a_next_places => k_is)
    (case l_next_places => k_is)
    (case c_next_places => k_is)
    (case k_next_places => k_is)
    (case a_reached_places => k_is)
    (case l_reached_places => k_is)
    (case c_reached_places => k_is)
    (case k_reached_places => k_is)
    (case a_voyage => k_is)
    (case l_voyage => k_is)
    (case c_voyage => k_is)
    (case k_voyage => k_is)
    (case a_blocking_paper => k_is)
    (case l_blocking_paper => k_is)
    (case c_blocking_paper => k_is)
    (case k_blocking_paper => k_is)
    (case a_swept => k_is)
    (case l_swept => k_is)
    (case c_swept => k_is)
    (case k_swept => k_is)
    (case a_sizes_of => k_is)
    (case l_sizes_of => k_is)
    (case c_sizes_of => k_is)
    (case k_sizes_of => k_is)
    (case a_largest_square => k_is)
    (case l_largest_square => k_is)
    (case c_largest_square => k_is)
    (case k_largest_square => k_is)
    (case a_largest_places => k_is)
    (case l_largest_places => k_is)
    (case c_largest_places => k_is)
    (case k_largest_places => k_is)
    (case a_size_of => k_is)
    (case l_size_of => k_is)
    (case c_size_of => k_is)
    (case k_size_of => k_is)
    (case a_reverse => k_is)
    (case l_reverse => k_is)
    (case c_reverse => k_is)
    (case k_reverse => k_is)
    (case a_is_within => k_is)
    (case l_is_within => k_is)
    (case c_is_within => k_is)
    (case k_is_within => k_is)
    (case a_window => k_is)
    (case l_window => k_is)
    (case c_window => k_is)
    (case k_window => k_is)
    (case a__law_same => k_is)
    (case l__law_same => k_is)
    (case c__law_same => k_is)
    (case k__law_same => k_is)
    (case a__law_grid => k_is)
    (case l__law_grid => k_is)
    (case c__law_grid => k_is)
    (case k__law_grid => k_is)
    (case a__law_chart => k_is)
    (case l__law_chart => k_is)
    (case c__law_chart => k_is)
    (case k__law_chart => k_is)
    (case a__law_at => k_is)
    (case l__law_at => k_is)
    (case c__law_at => k_is)
    (case k__law_at => k_is)
    (case a__law_all => k_is)
    (case l__law_all => k_is)
    (case c__law_all => k_is)
    (case k__law_all => k_is)
    (case a__law_dry => k_is)
    (case l__law_dry => k_is)
    (case c__law_dry => k_is)
    (case k__law_dry => k_is)
    (case a__law_sides => k_is)
    (case l__law_sides => k_is)
    (case c__law_sides => k_is)
    (case k__law_sides => k_is)
    (case a__law_around => k_is)
    (case l__law_around => k_is)
    (case c__law_around => k_is)
    (case k__law_around => k_is)
    (case a__law_spread => k_is)
    (case l__law_spread => k_is)
    (case c__law_spread => k_is)
    (case k__law_spread => k_is)
    (case a__law_pick => k_is)
    (case l__law_pick => k_is)
    (case c__law_pick => k_is)
    (case k__law_pick => k_is)
    (case a__law_lies => k_is)
    (case l__law_lies => k_is)
    (case c__law_lies => k_is)
    (case k__law_lies => k_is)
    (case a__law_places => k_is)
    (case l__law_places => k_is)
    (case c__law_places => k_is)
    (case k__law_places => k_is)
    (case a__law_sails => k_is)
    (case l__law_sails => k_is)
    (case c__law_sails => k_is)
    (case k__law_sails => k_is)
    (case a_law => k_is)
    (case l_law => k_is)
    (case c_law => k_is)
    (case k_law => k_is)
    (case z_len => k_is)
    (case z_range => k_is)
    (case z_abs => k_is)
    (case z_int => k_is)
    (case z_bool => k_is)
    (case z_sum => k_is)
    (case z_min => k_is)
    (case z_max => k_is)
    (case z_tuple => k_is)
    (case z_isinstance => k_is)
    (case z_list => k_is)
    (case z_reversed => k_is)
    (case z_str => k_is)
    (case y_LAND => k_is)
    (case y_WATER => k_is)