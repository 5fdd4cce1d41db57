import PyProof.Rows.All
import Wide.All
import OpenK.AllK
import Wide.FinOn
import HandS.ForMost
import HandS.TupAny
import HandS.Conv
import HandS.IsInst
import HandS.Flow
import HandS.Small
import KE.KDictDisplayH
import PyProof.MaxThree
import HandS.NoneIn
import HandS.Walk
import HandS.Text
import HandS.StrMore
import HandS.Style
import HandS.CallLocal
import HandS.Codes
import HandS.Deep
import HandS.TupMul
import PyProof.WalkInts
import HandS.SortRule
import HandS.SortInts
import KE.DataMinMax
import KE.KDictKeyed
import HandS.TupLen
import KE.KDictCopyH
import HandS.DictComp
import PyProof.DictFindH
import HandS.DictTup
import PySem.Challenge.RW_landandwater_k90_whole_spills_and_drains
set_option Elab.async false
set_option maxRecDepth 100000
set_option linter.all false
set_option maxHeartbeats 4000000
/-! Worlds (a heap, what is frozen in it, how many draws), their growth; data; weakest conditions as models of code. -/
namespace Y
open PySem L2

/-! ### models -/
structure WP (α : Type) where
  run : Nat → (Nat → α → Prop) → Prop
  mono : ∀ {n : Nat} {Q Q' : Nat → α → Prop}, (∀ m a, Q m a → Q' m a) → run n Q → run n Q'
namespace WP
variable {α β γ s : Type}
def pure (a : α) : WP α := ⟨fun n Q => Q n a, fun h => h _ _⟩
def bind (w : WP α) (f : α → WP β) : WP β := ⟨fun n Q => w.run n fun m a => (f a).run m Q, fun h => w.mono fun m a => (f a).mono h⟩
def req (P : Prop) (a : α) : WP α := ⟨fun n Q => P ∧ Q n a, fun h q => ⟨q.1, h _ _ q.2⟩⟩
def any (P : α → Prop) : WP α := ⟨fun n Q => ∀ a, P a → Q n a, fun h q a p => h _ _ (q a p)⟩
def take (many : Int) : WP Int := ⟨fun n Q => n < 1000000 ∧ 0 < many ∧ ∀ x, 0 ≤ x → x < many → Q (n + 1) x, fun h q => ⟨q.1, q.2.1, fun x a b => h _ _ (q.2.2 x a b)⟩⟩
def cond (b : Bool) (A B : WP α) : WP α := match b with | true => A | false => B
end WP
inductive Ctl (s γ : Type) where
  | nx (a : s)
  | bk (a : s)
  | rt (r : γ)
namespace WP
variable {α β γ s : Type}
def loop (body : α → s → WP (Ctl s γ)) : List α → s → WP (Ctl s γ)
  | [], x => pure (.nx x)
  | a :: as, x => (body a x).bind fun c => match c with | .nx y => loop body as y | .bk y => pure (.nx y) | .rt r => pure (.rt r)
def whilst (t : s → WP Bool) (body : s → WP (Ctl s γ)) (x : s) : WP (Ctl s γ) :=
  ⟨fun n Q => ∃ I : Nat → Nat → s → Prop, (∃ m, I m n x) ∧ ∀ m n y, I m n y → (t y).run n fun n' b => match b with
    | true => (body y).run n' fun n2 c => match c with | .nx z => ∃ m', m' < m ∧ I m' n2 z | .bk z => Q n2 (.nx z) | .rt r => Q n2 (.rt r)
    | false => Q n' (.nx y), fun {n Q Q'} h ⟨I, i0, hs⟩ => ⟨I, i0, fun m n y hi => (t y).mono (fun n' b => by
      cases b with
      | true => exact (body y).mono (fun n2 c => (match c with
          | .nx z => id
          | .bk z => h _ _
          | .rt r => h _ _))
      | false => exact h _ _) (hs m n y hi)⟩⟩
@[simp] theorem run_pure {a : α} {n : Nat} {Q : Nat → α → Prop} : (pure a).run n Q = Q n a := rfl
@[simp] theorem run_bind {w : WP α} {f : α → WP β} {n : Nat} {Q : Nat → β → Prop} : (w.bind f).run n Q = w.run n (fun m a => (f a).run m Q) := rfl
@[simp] theorem run_req {P : Prop} {a : α} {n : Nat} {Q : Nat → α → Prop} : (req P a).run n Q = (P ∧ Q n a) := rfl
@[simp] theorem run_any {P : α → Prop} {n : Nat} {Q : Nat → α → Prop} : (any P).run n Q = (∀ a, P a → Q n a) := rfl
@[simp] theorem run_take {many : Int} {n : Nat} {Q : Nat → Int → Prop} : (take many).run n Q = (n < 1000000 ∧ 0 < many ∧ ∀ x, 0 ≤ x → x < many → Q (n + 1) x) := rfl
@[simp] theorem cond_true {A B : WP α} : cond true A B = A := rfl
@[simp] theorem cond_false {A B : WP α} : cond false A B = B := rfl
theorem loop_inv {body : α → s → WP (Ctl s γ)} {xs : List α} {x : s} {n : Nat} {Q : Nat → Ctl s γ → Prop} (I : Nat → Nat → s → Prop) (h0 : I 0 n x)
    (hs : ∀ i m a y, xs[i]? = some a → I i m y → (body a y).run m fun m' c => match c with | .nx z => I (i + 1) m' z | .bk z => Q m' (.nx z) | .rt r => Q m' (.rt r)) (hd : ∀ m y, I xs.length m y → Q m (.nx y)) : (loop body xs x).run n Q := by
  induction xs generalizing x n I with
  | nil => exact hd n x h0
  | cons a as ih =>
    refine (body a x).mono (fun m c hy => ?_) (hs 0 n a x rfl h0)
    cases c with
    | nx z => exact ih (fun i => I (i + 1)) hy (fun i m b z hb hi => hs (i + 1) m b z hb hi) hd
    | bk z => exact hy
    | rt r => exact hy
end WP

/-! ### worlds -/
structure Wo where
  H : Hp
  F : Addr → Prop
  n : Nat
def Tg (H H' : Hp) : Prop := ∀ a xs, H a = some (.tup xs) → H' a = some (.tup xs)
/-- what is told of W stays told -/
structure St (W W' : Wo) : Prop where
  t : Tg W.H W'.H
  f : ∀ a, W.F a → W'.F a
  c : ∀ a o, W.F a → W.H a = some o → W'.H a = some o
theorem St.refl (W : Wo) : St W W := ⟨fun _ _ h => h, fun _ h => h, fun _ _ _ h => h⟩
theorem St.trans {W W1 W2 : Wo} (a : St W W1) (b : St W1 W2) : St W W2 := ⟨fun x o h => b.t x o (a.t x o h), fun x h => b.f x (a.f x h), fun x o f h => b.c x o (a.f x f) (a.c x o f h)⟩
/-- a kind of effect: what may change, what is kept true, how draws are counted -/
structure Ef where
  S : Addr → Prop
  T : Addr → Prop
  ok : Hp → Nat → Prop
  num : Nat → Nat → Prop
  num_refl : ∀ n, num n n
  num_trans : ∀ {a b c}, num a b → num b c → num a c
  ok_T : ∀ {H H' n}, ok H n → (∀ a o, T a → H a = some o → H' a = some o) → ok H' n
  ok_live : ∀ {H n a}, ok H n → T a → H a ≠ none
structure Good (e : Ef) (W : Wo) : Prop where
  F : ∀ a, W.F a → ¬ e.S a ∧ W.H a ≠ none
  S : ∀ a, e.S a → W.H a ≠ none
  ok : e.ok W.H W.n
structure Gw (e : Ef) (W W' : Wo) : Prop where
  keep : ∀ a o, W.H a = some o → ¬ e.S a → W'.H a = some o
  st : St W W'
  new : ∀ a, W'.F a → W.F a ∨ W.H a = none
  live : ∀ a, W'.H a = none → W.H a = none
  n : e.num W.n W'.n
  ok : Good e W'
theorem Gw.refl {e : Ef} {W : Wo} (g : Good e W) : Gw e W W := ⟨fun _ _ h _ => h, St.refl W, fun _ h => .inl h, fun _ h => h, e.num_refl _, g⟩
theorem Gw.trans {e : Ef} {W W1 W2 : Wo} (a : Gw e W W1) (b : Gw e W1 W2) : Gw e W W2 :=
  ⟨fun x o h n => b.keep x o (a.keep x o h n) n, a.st.trans b.st, fun x h => (b.new x h).elim (fun h => a.new x h) fun h => .inr (a.live x h), fun x h => a.live x (b.live x h), e.num_trans a.n b.n, b.ok⟩
theorem ne_of {H : Hp} {a b : Addr} {o : HO} (h : H a = some o) (n : H b = none) : a ≠ b := fun z => by rw [z, n] at h; cases h
theorem some_of {H : Hp} {a : Addr} (h : H a ≠ none) : ∃ o, H a = some o := by
  cases q : H a with
  | none => exact absurd q h
  | some o => exact ⟨o, rfl⟩
theorem some_ne {H : Hp} {a : Addr} {o : HO} (h : H a = some o) : H a ≠ none := fun z => by rw [z] at h; cases h
/-- a new object -/
theorem Gw.alloc {e : Ef} {W : Wo} {p : Addr} {o : HO} (g : Good e W) (hp : W.H p = none) : Gw e W ⟨upd W.H p o, W.F, W.n⟩ := by
  have k : ∀ a u, W.H a = some u → (upd W.H p o) a = some u := fun a u h => by rw [upd_ne (ne_of h hp)]; exact h
  have l : ∀ a, W.H a ≠ none → (upd W.H p o) a ≠ none := fun a h => by
    obtain ⟨u, hu⟩ := some_of h
    exact some_ne (k a u hu)
  exact ⟨fun a u h _ => k a u h, ⟨fun a xs h => k a _ h, fun _ h => h, fun a u _ h => k a u h⟩, fun _ h => .inl h, fun a h => by
    cases q : W.H a with
    | none => rfl
    | some u => exact absurd h (some_ne (k a u q)), e.num_refl _, ⟨fun a f => ⟨(g.F a f).1, l a (g.F a f).2⟩, fun a f => l a (g.S a f), e.ok_T g.ok fun a u _ h => k a u h⟩⟩
/-- all kept but what is new: the heap of another world -/
theorem Gw.same {e : Ef} {W : Wo} {H' : Hp} (g : Good e W) (s : Same W.H H') : Gw e W ⟨H', W.F, W.n⟩ := by
  have l : ∀ a, W.H a ≠ none → H' a ≠ none := fun a h => by
    obtain ⟨u, hu⟩ := some_of h
    exact some_ne (s a u hu)
  exact ⟨fun a u h _ => s a u h, ⟨fun a xs h => s a _ h, fun _ h => h, fun a u _ h => s a u h⟩, fun _ h => .inl h, fun a h => by
    cases q : W.H a with
    | none => rfl
    | some u => exact absurd h (some_ne (s a u q)), e.num_refl _, ⟨fun a f => ⟨(g.F a f).1, l a (g.F a f).2⟩, fun a f => l a (g.S a f), e.ok_T g.ok fun a u _ h => s a u h⟩⟩
/-- an object of our own changed -/
theorem St.mut {W : Wo} {l : Addr} {o u : HO} (h : W.H l = some o) (ht : ∀ xs, o ≠ .tup xs) (hF : ¬ W.F l) : St W ⟨upd W.H l u, W.F, W.n⟩ :=
  ⟨fun a xs q => by
    have : a ≠ l := fun z => by rw [z, h] at q; exact ht xs (Option.some.inj q)
    show (upd W.H l u) a = _
    rw [upd_ne this]; exact q, fun _ f => f, fun a x f q => by
    have : a ≠ l := fun z => hF (z ▸ f)
    show (upd W.H l u) a = _
    rw [upd_ne this]; exact q⟩
theorem Gw.mut {e : Ef} {W0 W : Wo} {l : Addr} {o u : HO} (g0 : Good e W0) (g : Gw e W0 W) (h0 : W0.H l = none) (h : W.H l = some o) (ht : ∀ xs, o ≠ .tup xs) (hF : ¬ W.F l) : Gw e W0 ⟨upd W.H l u, W.F, W.n⟩ := by
  have s := St.mut (u := u) h ht hF
  have l' : ∀ a, W.H a ≠ none → (upd W.H l u) a ≠ none := fun a h => by
    by_cases e1 : a = l
    · subst e1; rw [upd_same]; exact fun z => by cases z
    · rw [upd_ne e1]; exact h
  refine ⟨fun a x q n => ?_, g.st.trans s, g.new, fun a q => ?_, g.n, ⟨fun a f => ⟨(g.ok.F a f).1, l' a (g.ok.F a f).2⟩, fun a f => l' a (g.ok.S a f), ?_⟩⟩
  · show (upd W.H l u) a = _
    rw [upd_ne (ne_of q h0)]; exact g.keep a x q n
  · cases q' : W.H a with
    | none => exact g.live a q'
    | some x => exact absurd q (l' a (some_ne q'))
  · refine e.ok_T g.ok.ok fun a x t q => ?_
    have : a ≠ l := fun z => e.ok_live g0.ok t (z ▸ h0)
    show (upd W.H l u) a = _
    rw [upd_ne this]; exact q
/-- objects of our own frozen -/
def Wo.frz (W : Wo) (fp : List Addr) : Wo := ⟨W.H, fun a => W.F a ∨ a ∈ fp, W.n⟩
theorem St.frz {W : Wo} {fp : List Addr} : St W (W.frz fp) := ⟨fun _ _ h => h, fun _ h => .inl h, fun _ _ _ h => h⟩
theorem Gw.frz {e : Ef} {W0 W : Wo} {fp : List Addr} (g0 : Good e W0) (g : Gw e W0 W) (h0 : ∀ a ∈ fp, W0.H a = none) (h : ∀ a ∈ fp, W.H a ≠ none) : Gw e W0 (W.frz fp) :=
  ⟨g.keep, g.st.trans St.frz, fun a f => f.elim (g.new a) fun m => .inr (h0 a m), g.live, g.n, ⟨fun a f => f.elim (g.ok.F a) fun m => ⟨fun z => g0.S a z (h0 a m), h a m⟩, g.ok.S, g.ok.ok⟩⟩
/-- nothing changes -/
def ef0 : Ef where
  S := fun _ => False
  T := fun _ => False
  ok := fun _ _ => True
  num := fun a b => a = b
  num_refl := fun _ => rfl
  num_trans := fun a b => a.trans b
  ok_T := fun _ _ => True.intro
  ok_live := fun _ z => z.elim
theorem Good.z {e : Ef} {W : Wo} (g : Good e W) : Good ef0 W := ⟨fun a f => ⟨fun z => z, (g.F a f).2⟩, fun _ z => z.elim, True.intro⟩
theorem Gw.up {e : Ef} {W W' : Wo} (g : Good e W) (h : Gw ef0 W W') : Gw e W W' := by
  have hl : ∀ a, W.H a ≠ none → W'.H a ≠ none := fun a h' z => h' (h.live a z)
  refine ⟨fun a o q _ => h.keep a o q id, h.st, h.new, h.live, (show W.n = W'.n from h.n) ▸ e.num_refl _, ⟨fun a f => ?_, fun a s => hl a (g.S a s), ?_⟩⟩
  · refine ⟨fun s => ?_, (h.ok.F a f).2⟩
    rcases h.new a f with f | f
    · exact (g.F a f).1 s
    · exact g.S a s f
  · rw [← (show W.n = W'.n from h.n)]
    exact e.ok_T g.ok fun a o _ q => h.keep a o q id

/-! ### data that never changes -/
class PyI (α : Type) where
  rep : Wo → α → V → Prop
  st : ∀ {W W' : Wo} {a : α} {v : V}, St W W' → rep W a v → rep W' a v
abbrev Rp {α : Type} [PyI α] (W : Wo) (a : α) (v : V) : Prop := PyI.rep W a v
instance : PyI Int := ⟨fun _ i v => v = .int i, fun _ h => h⟩
instance : PyI Bool := ⟨fun _ i v => v = .bl i, fun _ h => h⟩
instance : PyI Str := ⟨fun _ i v => v = .str i, fun _ h => h⟩
instance : PyI Unit := ⟨fun _ _ v => v = .non, fun _ h => h⟩
instance {α : Type} [PyI α] : PyI (Option α) := ⟨fun W o v => match o with | none => v = .non | some a => v ≠ .non ∧ Rp W a v, fun {_ _ o _} t h => by
  cases o with
  | none => exact h
  | some a => exact ⟨h.1, PyI.st t h.2⟩⟩
instance {α β : Type} [PyI α] [PyI β] : PyI (α × β) := ⟨fun W c v => ∃ p x y, v = .ref p ∧ W.H p = some (.tup [x, y]) ∧ Rp W c.1 x ∧ Rp W c.2 y, fun t ⟨p, x, y, h1, h2, h3, h4⟩ => ⟨p, x, y, h1, t.t _ _ h2, PyI.st t h3, PyI.st t h4⟩⟩
structure Tri (α β γ : Type) where
  a : α
  b : β
  c : γ
instance {α β γ : Type} [PyI α] [PyI β] [PyI γ] : PyI (Tri α β γ) := ⟨fun W c v => ∃ p x y z, v = .ref p ∧ W.H p = some (.tup [x, y, z]) ∧ Rp W c.a x ∧ Rp W c.b y ∧ Rp W c.c z, fun t ⟨p, x, y, z, h1, h2, h3, h4, h5⟩ => ⟨p, x, y, z, h1, t.t _ _ h2, PyI.st t h3, PyI.st t h4, PyI.st t h5⟩⟩
theorem Paired.imp {α β : Type} {F G : α → β → Prop} (f : ∀ a b, F a b → G a b) : ∀ {l1 : List α} {l2 : List β}, Paired F l1 l2 → Paired G l1 l2
  | _, _, .nil => .nil
  | _, _, .cons r t => .cons (f _ _ r) (Paired.imp f t)
abbrev Rps {α : Type} [PyI α] (W : Wo) (xs : List α) (vs : List V) : Prop := Paired (fun a v => Rp W a v) xs vs
theorem Rps.st {α : Type} [PyI α] {W W' : Wo} {xs : List α} {vs : List V} (t : St W W') (h : Rps W xs vs) : Rps W' xs vs := Paired.imp (fun _ _ => PyI.st t) h
/-- a tuple of any length, all of one kind -/
instance {α : Type} [PyI α] : PyI (List α) := ⟨fun W xs v => ∃ p vs, v = .ref p ∧ W.H p = some (.tup vs) ∧ Rps W xs vs, fun t ⟨p, vs, h1, h2, h3⟩ => ⟨p, vs, h1, t.t _ _ h2, Rps.st t h3⟩⟩
/-- a frozen list -/
structure Ls (α : Type) where
  l : List α
instance {α : Type} [PyI α] : PyI (Ls α) := ⟨fun W xs v => ∃ p vs, v = .ref p ∧ W.F p ∧ W.H p = some (.lst vs) ∧ Rps W xs.l vs, fun t ⟨p, vs, h1, h2, h3, h4⟩ => ⟨p, vs, h1, t.f _ h2, t.c _ _ h2 h3, Rps.st t h4⟩⟩
section
variable {α β : Type}
theorem _root_.PySem.Paired.getA {F : α → β → Prop} {xs : List α} {vs : List β} {i : Nat} {a : α} (h : Paired F xs vs) (e : xs[i]? = some a) : ∃ v, vs[i]? = some v ∧ F a v := by
  induction h generalizing i with
  | nil => simp at e
  | cons r t ih =>
    cases i with
    | zero => simp at e; subst e; exact ⟨_, rfl, r⟩
    | succ i => exact ih (by simpa using e)
theorem _root_.PySem.Paired.getV {F : α → β → Prop} {xs : List α} {vs : List β} {i : Nat} {v : β} (h : Paired F xs vs) (e : vs[i]? = some v) : ∃ a, xs[i]? = some a ∧ F a v := by
  induction h generalizing i with
  | nil => simp at e
  | cons r t ih =>
    cases i with
    | zero => simp at e; subst e; exact ⟨_, rfl, r⟩
    | succ i => exact ih (by simpa using e)
theorem _root_.PySem.Paired.appA {F : α → β → Prop} {xs ys : List α} {vs ws : List β} (h : Paired F xs vs) (r : Paired F ys ws) : Paired F (xs ++ ys) (vs ++ ws) := by
  induction h with
  | nil => exact r
  | cons a t ih => exact .cons a ih
theorem _root_.PySem.Paired.takeA {F : α → β → Prop} {xs : List α} {vs : List β} (n : Nat) (h : Paired F xs vs) : Paired F (xs.take n) (vs.take n) := by
  induction h generalizing n with
  | nil => simp; exact .nil
  | cons a t ih => cases n with
    | zero => exact .nil
    | succ n => exact .cons a (ih n)
theorem _root_.PySem.Paired.dropA {F : α → β → Prop} {xs : List α} {vs : List β} (n : Nat) (h : Paired F xs vs) : Paired F (xs.drop n) (vs.drop n) := by
  induction h generalizing n with
  | nil => simp; exact .nil
  | cons a t ih => cases n with
    | zero => exact .cons a t
    | succ n => exact ih n
theorem _root_.PySem.Paired.revA {F : α → β → Prop} {xs : List α} {vs : List β} (h : Paired F xs vs) : Paired F xs.reverse vs.reverse := by
  induction h with
  | nil => exact .nil
  | cons a t ih => rw [List.reverse_cons, List.reverse_cons]; exact ih.appA (.cons a .nil)
end
theorem rps_ints {W : Wo} {ns : List Int} {vs : List V} (h : Rps W ns vs) : vs = ns.map V.int := by
  induction h with
  | nil => rfl
  | cons r t ih => rw [show _ = _ from r, ih]; rfl
theorem rps_ints' (W : Wo) : ∀ ns : List Int, Rps W ns (ns.map V.int)
  | [] => .nil
  | _ :: r => .cons rfl (rps_ints' W r)
theorem rps_strs {W : Wo} {ns : List Str} {vs : List V} (h : Rps W ns vs) : vs = ns.map V.str := by
  induction h with
  | nil => rfl
  | cons r t ih => rw [show _ = _ from r, ih]; rfl
/-! ### things that change: a kind of them, its footprint -/
structure Kd (κ : Type) where
  own : Wo → List Addr → κ → V → Prop
  st : ∀ {W W' : Wo} {fp : List Addr} {x : κ} {v : V}, St W W' → (∀ a ∈ fp, ∀ o, W.H a = some o → W'.H a = some o) → own W fp x v → own W' fp x v
  live : ∀ {W : Wo} {fp : List Addr} {x : κ} {v : V}, own W fp x v → ∀ a ∈ fp, W.H a ≠ none
/-- a list -/
def kL (α : Type) [PyI α] : Kd (List α) where
  own := fun W fp xs v => ∃ p vs, fp = [p] ∧ v = .ref p ∧ W.H p = some (.lst vs) ∧ Rps W xs vs
  st := fun s c ⟨p, vs, h1, h2, h3, h4⟩ => ⟨p, vs, h1, h2, c p (by rw [h1]; exact List.mem_singleton.mpr rfl) _ h3, Rps.st s h4⟩
  live := fun ⟨p, vs, h1, h2, h3, h4⟩ a ha => by
    rw [h1] at ha
    cases List.mem_singleton.mp ha
    exact some_ne h3
/-- of our own: new since W0, not frozen -/
structure Var {κ : Type} (k : Kd κ) (W0 W : Wo) (fp : List Addr) (x : κ) (v : V) : Prop where
  own : k.own W fp x v
  fr : ∀ a ∈ fp, W0.H a = none
  nF : ∀ a ∈ fp, ¬ W.F a
theorem Kd.go {κ : Type} {k : Kd κ} {e : Ef} {W W' : Wo} {fp : List Addr} {x : κ} {v : V} (g : Gw e W W') (hS : ∀ a ∈ fp, ¬ e.S a) (h : k.own W fp x v) : k.own W' fp x v := k.st g.st (fun a m o q => g.keep a o q (hS a m)) h
theorem Var.go {κ : Type} {k : Kd κ} {e : Ef} {W0 W W' : Wo} {fp : List Addr} {x : κ} {v : V} (g0 : Good e W0) (g : Gw e W W') (h : Var k W0 W fp x v) : Var k W0 W' fp x v :=
  ⟨Kd.go g (fun a m s => g0.S a s (h.fr a m)) h.own, h.fr, fun a m f => (g.new a f).elim (h.nF a m) (k.live h.own a m)⟩
end Y

/-! What a reading evaluates to, by its model. -/
namespace Y
open PySem L2
/-- how a result lies in the heap -/
structure Rs (e : Ef) (α : Type) where
  post : Wo → Wo → α → V → Prop
  back : ∀ {W W1 W2 : Wo} {a : α} {v : V}, Gw e W W1 → post W1 W2 a v → post W W2 a v
  stay : ∀ {W1 W2 W3 : Wo} {a : α} {v : V}, Gw e W2 W3 → post W1 W2 a v → post W1 W3 a v
def sI {e : Ef} {α : Type} [PyI α] : Rs e α := ⟨fun _ W2 a v => Rp W2 a v, fun _ h => h, fun g h => PyI.st g.st h⟩
def sR {e : Ef} {κ : Type} (k : Kd κ) : Rs e κ := ⟨fun _ W2 x v => ∃ fp, k.own W2 fp x v ∧ ∀ a ∈ fp, ¬ e.S a, fun _ h => h, fun g ⟨fp, h1, h2⟩ => ⟨fp, Kd.go g h2 h1, h2⟩⟩
def sN {e : Ef} {κ : Type} (k : Kd κ) : Rs e κ := ⟨fun W1 W2 x v => ∃ fp, k.own W2 fp x v ∧ ∀ a ∈ fp, W1.H a = none ∧ ¬ e.S a ∧ ¬ W2.F a,
  fun g ⟨fp, h1, h2⟩ => ⟨fp, h1, fun a m => ⟨g.live a (h2 a m).1, (h2 a m).2⟩⟩,
  fun g ⟨fp, h1, h2⟩ => ⟨fp, Kd.go g (fun a m => (h2 a m).2.1) h1, fun a m => ⟨(h2 a m).1, (h2 a m).2.1, fun f => (g.new a f).elim (h2 a m).2.2 (k.live h1 a m)⟩⟩⟩
def EvW {α : Type} (e : Ef) (te : TE) (σ : L2.St) (W : Wo) (ρ : Rs e α) (w : WP α) : Prop :=
  ∀ W1, Gw e W W1 → ∀ Q : VK, w.run W1.n (fun n a => ∀ v W2, Gw e W1 W2 → W2.n = n → ρ.post W1 W2 a v → Q v W2.H) → te σ W1.H Q
def EvT (e : Ef) (t : TT) (σ : L2.St) (W : Wo) (w : WP Bool) : Prop :=
  ∀ W1, Gw e W W1 → ∀ Q : Bool → Hp → Prop, w.run W1.n (fun n b => ∀ W2, Gw e W1 W2 → W2.n = n → Q b W2.H) → t σ W1.H Q
namespace WP
variable {α β γ δ : Type}
abbrev b2 (a : WP α) (b : WP β) (f : α → β → WP γ) : WP γ := a.bind fun x => b.bind fun y => f x y
abbrev b3 (a : WP α) (b : WP β) (c : WP γ) (f : α → β → γ → WP δ) : WP δ := a.bind fun x => b.bind fun y => c.bind fun z => f x y z
abbrev add (a b : WP Int) : WP Int := b2 a b fun x y => pure (x + y)
abbrev sub (a b : WP Int) : WP Int := b2 a b fun x y => pure (x - y)
abbrev mul (a b : WP Int) : WP Int := b2 a b fun x y => req (CMul x y) (x * y)
abbrev fdiv (a b : WP Int) : WP Int := b2 a b fun x y => req (CDiv x y) (x / y)
abbrev mod (a b : WP Int) : WP Int := b2 a b fun x y => req (0 < y) (x % y)
abbrev pow (a b : WP Int) : WP Int := b2 a b fun x y => req (CPow x y) (x ^ y.toNat)
abbrev lt (a b : WP Int) : WP Bool := b2 a b fun x y => pure (decide (x < y))
abbrev le (a b : WP Int) : WP Bool := b2 a b fun x y => pure (decide (x ≤ y))
abbrev gt (a b : WP Int) : WP Bool := b2 a b fun x y => pure (decide (y < x))
abbrev ge (a b : WP Int) : WP Bool := b2 a b fun x y => pure (decide (y ≤ x))
abbrev eq [DecidableEq α] (a b : WP α) : WP Bool := b2 a b fun x y => pure (decide (x = y))
abbrev ne [DecidableEq α] (a b : WP α) : WP Bool := b2 a b fun x y => pure (!decide (x = y))
abbrev not (a : WP Bool) : WP Bool := a.bind fun b => pure (!b)
abbrev neg (a : WP Int) : WP Int := a.bind fun b => pure (-b)
abbrev and (a b : WP Bool) : WP Bool := a.bind fun x => cond x b (pure false)
abbrev or (a b : WP Bool) : WP Bool := a.bind fun x => cond x (pure true) b
abbrev ite (c : WP Bool) (a b : WP α) : WP α := c.bind fun x => cond x a b
/-- a < b < c -/
abbrev chain (C C' : Int → Int → Bool) (a b c : WP Int) : WP Bool := a.bind fun x => b.bind fun y => cond (C x y) (c.bind fun z => pure (C' y z)) (pure false)
end WP
section
variable {α β γ δ : Type} {K : PySem.W.Frag} {e : Ef} {σ : L2.St} {W : Wo} {ta tb te tc : TE} {t u : TT} {i j k m n : Nat} {v : V}
theorem ew_int {x : Int} : EvW e (tC (.int x)) σ W sI (WP.pure x) := fun W1 g Q q => q _ W1 (Gw.refl g.ok) rfl rfl
theorem ew_str {x : Str} : EvW e (tC (.str x)) σ W sI (WP.pure x) := fun W1 g Q q => q _ W1 (Gw.refl g.ok) rfl rfl
theorem ew_bl {x : Bool} : EvW e (tC (.bl x)) σ W sI (WP.pure x) := fun W1 g Q q => q _ W1 (Gw.refl g.ok) rfl rfl
theorem ew_nonO [PyI α] : EvW e (tC .non) σ W sI (WP.pure (none : Option α)) := fun W1 g Q q => q _ W1 (Gw.refl g.ok) rfl rfl
theorem ew_var [PyI α] {a : α} {i : Nat} (h : σ[i]? = some (some v)) (r : Rp W a v) : EvW e (tVar i) σ W sI (WP.pure a) := fun W1 g Q q => ⟨v, h, q v W1 (Gw.refl g.ok) rfl (PyI.st g.st r)⟩
theorem ew_varR {κ : Type} {kd : Kd κ} {fp : List Addr} {x : κ} {i : Nat} (h : σ[i]? = some (some v)) (hS : ∀ a ∈ fp, ¬ e.S a) (r : kd.own W fp x v) : EvW e (tVar i) σ W (sR kd) (WP.pure x) := fun W1 g Q q => ⟨v, h, q v W1 (Gw.refl g.ok) rfl ⟨fp, Kd.go g hS r, hS⟩⟩
/-- what is new may be read -/
theorem ew_rd {κ : Type} {kd : Kd κ} {w : WP κ} (h : EvW e te σ W (sN kd) w) : EvW e te σ W (sR kd) w := fun W1 g Q q => h W1 g Q (w.mono (fun n a hq v W2 g2 hn ⟨fp, h1, h2⟩ => hq v W2 g2 hn ⟨fp, h1, fun a m => (h2 a m).2.1⟩) q)
theorem ew_op {r : R2} {ρ1 : Rs e α} {ρ2 : Rs e β} {ρ : Rs e γ} {w1 : WP α} {w2 : WP β} {f : α → β → WP γ} (ha : EvW e ta σ W ρ1 w1) (hb : EvW e tb σ W ρ2 w2)
    (hr : ∀ W1 W2 a b x y, Gw e W1 W2 → ρ1.post W1 W2 a x → ρ2.post W1 W2 b y → ∀ Q : VK, (f a b).run W2.n (fun n c => ∀ v W3, Gw e W2 W3 → W3.n = n → ρ.post W2 W3 c v → Q v W3.H) → r x y W2.H Q) : EvW e (tOp r ta tb) σ W ρ (WP.b2 w1 w2 f) := fun W1 g Q hw =>
  ha W1 g _ (w1.mono (fun n a h x W2 g2 hn r1 => hb W2 (g.trans g2) _ (by
    subst hn
    exact w2.mono (fun n b h y W3 g3 hn r2 => hr W1 W3 a b x y (g2.trans g3) (ρ1.stay g3 r1) (ρ2.back g2 r2) Q (by
      subst hn
      exact (f a b).mono (fun n c h v W4 g4 hn r4 => h v W4 ((g2.trans g3).trans g4) hn (ρ.back (g2.trans g3) r4)) h)) h)) hw)
/-- both of them read as they are -/
theorem ew_op2 [PyI α] [PyI β] [PyI γ] {r : R2} {w1 : WP α} {w2 : WP β} {C : α → β → Prop} {f : α → β → γ} (ha : EvW e ta σ W sI w1) (hb : EvW e tb σ W sI w2)
    (hr : ∀ W2 a b x y, Rp W2 a x → Rp W2 b y → C a b → ∀ Q : VK, (∀ v H3, Same W2.H H3 → Rp ⟨H3, W2.F, W2.n⟩ (f a b) v → Q v H3) → r x y W2.H Q) : EvW e (tOp r ta tb) σ W sI (WP.b2 w1 w2 fun a b => WP.req (C a b) (f a b)) :=
  ew_op ha hb fun W1 W2 a b x y g r1 r2 Q q => hr W2 a b x y r1 r2 q.1 Q fun v H3 s r => q.2 v ⟨H3, W2.F, W2.n⟩ (Gw.same g.ok s) rfl r
theorem ew_op20 [PyI α] [PyI β] [PyI γ] {r : R2} {w1 : WP α} {w2 : WP β} {f : α → β → γ} (ha : EvW e ta σ W sI w1) (hb : EvW e tb σ W sI w2)
    (hr : ∀ W2 a b x y, Rp W2 a x → Rp W2 b y → ∀ Q : VK, (∀ v H3, Same W2.H H3 → Rp ⟨H3, W2.F, W2.n⟩ (f a b) v → Q v H3) → r x y W2.H Q) : EvW e (tOp r ta tb) σ W sI (WP.b2 w1 w2 fun a b => WP.pure (f a b)) :=
  ew_op ha hb fun W1 W2 a b x y g r1 r2 Q q => hr W2 a b x y r1 r2 Q fun v H3 s r => q v ⟨H3, W2.F, W2.n⟩ (Gw.same g.ok s) rfl r
section
variable {w1 w2 : WP Int} (ha : EvW e ta σ W sI w1) (hb : EvW e tb σ W sI w2)
include ha hb
theorem ew_iop [PyI γ] {C : Int → Int → Prop} {f : Int → Int → V} {g : Int → Int → γ} (hv : ∀ W x y, Rp W (g x y) (f x y)) : EvW e (tOp (rI C f) ta tb) σ W sI (WP.b2 w1 w2 fun a b => WP.req (C a b) (g a b)) :=
  ew_op2 ha hb fun W2 a b x y r1 r2 hc Q q => by cases r1; cases r2; exact ⟨a, b, rfl, rfl, hc, q _ _ (Same.refl _) (hv _ _ _)⟩
theorem ew_iop0 [PyI γ] {f : Int → Int → V} {g : Int → Int → γ} (hv : ∀ W x y, Rp W (g x y) (f x y)) : EvW e (tOp (rI0 f) ta tb) σ W sI (WP.b2 w1 w2 fun a b => WP.pure (g a b)) :=
  ew_op20 ha hb fun W2 a b x y r1 r2 Q q => by cases r1; cases r2; exact ⟨a, b, rfl, rfl, q _ _ (Same.refl _) (hv _ _ _)⟩
theorem ew_add : EvW e (tOp (rI0 fun i j => .int (i + j)) ta tb) σ W sI (WP.add w1 w2) := ew_iop0 ha hb fun _ _ _ => rfl
theorem ew_sub : EvW e (tOp (rI0 fun i j => .int (i - j)) ta tb) σ W sI (WP.sub w1 w2) := ew_iop0 ha hb fun _ _ _ => rfl
theorem ew_mul : EvW e (tOp (rI CMul fun i j => .int (i * j)) ta tb) σ W sI (WP.mul w1 w2) := ew_iop ha hb fun _ _ _ => rfl
theorem ew_fdiv : EvW e (tOp (rI CDiv fun i j => .int (i / j)) ta tb) σ W sI (WP.fdiv w1 w2) := ew_iop ha hb fun _ _ _ => rfl
theorem ew_mod : EvW e (tOp (rI (fun _ j => 0 < j) fun i j => .int (i % j)) ta tb) σ W sI (WP.mod w1 w2) := ew_iop ha hb fun _ _ _ => rfl
theorem ew_pow : EvW e (tOp (rI CPow fun i j => .int (i ^ j.toNat)) ta tb) σ W sI (WP.pow w1 w2) := ew_iop ha hb fun _ _ _ => rfl
theorem ew_lt : EvW e (tOp (rI0 fun i j => .bl (decide (i < j))) ta tb) σ W sI (WP.lt w1 w2) := ew_iop0 ha hb fun _ _ _ => rfl
theorem ew_gt : EvW e (tOp (rI0 fun i j => .bl (decide (j < i))) ta tb) σ W sI (WP.gt w1 w2) := ew_iop0 ha hb fun _ _ _ => rfl
theorem ew_ge : EvW e (tOp (rI0 fun i j => .bl (decide (j ≤ i))) ta tb) σ W sI (WP.ge w1 w2) := ew_iop0 ha hb fun _ _ _ => rfl
end
theorem ew_neg {w : WP Int} (ha : EvW e ta σ W sI w) : EvW e (tUn (rU fun i => .int (-i)) ta) σ W sI (WP.neg w) := fun W1 g Q q => ha W1 g _ (w.mono (fun n a h v W2 g2 hn r => by
  cases r
  exact ⟨a, rfl, h _ W2 g2 hn rfl⟩) q)
/-- values told by == -/
class Scal (α : Type) [PyI α] [DecidableEq α] where
  toV : α → V
  rv : ∀ {W : Wo} {a : α} {v : V}, Rp W a v → v = toV a
  inj : ∀ a b : α, toV a = toV b ↔ a = b
  sc : ∀ a b : α, scal (toV a) (toV b) = true
instance : Scal Int := ⟨V.int, fun h => h, fun a b => ⟨fun h => by injection h, fun h => by rw [h]⟩, fun _ _ => rfl⟩
instance : Scal Bool := ⟨V.bl, fun h => h, fun a b => ⟨fun h => by injection h, fun h => by rw [h]⟩, fun _ _ => rfl⟩
instance : Scal Str := ⟨V.str, fun h => h, fun a b => ⟨fun h => by injection h, fun h => by rw [h]⟩, fun _ _ => rfl⟩
theorem scal_dec [PyI α] [DecidableEq α] [Scal α] (a b : α) : decide (Scal.toV a = Scal.toV b) = decide (a = b) := by
  by_cases h : a = b
  · rw [decide_eq_true h, decide_eq_true ((Scal.inj a b).mpr h)]
  · rw [decide_eq_false h, decide_eq_false (fun z => h ((Scal.inj a b).mp z))]
theorem ew_eq [PyI α] [DecidableEq α] [Scal α] {w1 w2 : WP α} (ha : EvW e ta σ W sI w1) (hb : EvW e tb σ W sI w2) : EvW e (tOp rEq ta tb) σ W sI (WP.eq w1 w2) :=
  ew_op20 ha hb fun W2 a b x y r1 r2 Q q => by
    rw [Scal.rv r1, Scal.rv r2]
    exact ⟨Scal.sc a b, q _ _ (Same.refl _) (by rw [scal_dec]; exact (rfl : _ = V.bl _))⟩
theorem ew_ne [PyI α] [DecidableEq α] [Scal α] {w1 w2 : WP α} (ha : EvW e ta σ W sI w1) (hb : EvW e tb σ W sI w2) : EvW e (tOp rNe ta tb) σ W sI (WP.ne w1 w2) :=
  ew_op20 ha hb fun W2 a b x y r1 r2 Q q => by
    rw [Scal.rv r1, Scal.rv r2]
    exact ⟨Scal.sc a b, q _ _ (Same.refl _) (by rw [scal_dec]; exact (rfl : _ = V.bl _))⟩
/-- tests -/
theorem et_t {w : WP Bool} (h : EvW e te σ W sI w) : EvT e (tTest te) σ W w := fun W1 g Q q => h W1 g _ (w.mono (fun n b h v W2 g2 hn r => ⟨b, r, h W2 g2 hn⟩) q)
theorem et_B {w : WP Bool} (h : EvW e te σ W sI w) : EvT e (tB te) σ W w := fun W1 g Q q => h W1 g _ (w.mono (fun n b h v W2 g2 hn r => ⟨b, r, h W2 g2 hn⟩) q)
theorem et_not {w : WP Bool} (h : EvT e t σ W w) : EvT e (tNot t) σ W (WP.not w) := fun W1 g Q q => h W1 g _ (w.mono (fun n b h W2 g2 hn => h W2 g2 hn) q)
theorem et_and {w1 w2 : WP Bool} (h1 : EvT e t σ W w1) (h2 : EvT e u σ W w2) : EvT e (tAnd t u) σ W (WP.and w1 w2) := fun W1 g Q q => h1 W1 g _ (w1.mono (fun n b h W2 g2 hn => by
  subst hn
  cases b with
  | true => exact h2 W2 (g.trans g2) _ (w2.mono (fun n c h W3 g3 hn => h W3 (g2.trans g3) hn) h)
  | false => exact h W2 g2 rfl) q)
theorem et_or {w1 w2 : WP Bool} (h1 : EvT e t σ W w1) (h2 : EvT e u σ W w2) : EvT e (tOr t u) σ W (WP.or w1 w2) := fun W1 g Q q => h1 W1 g _ (w1.mono (fun n b h W2 g2 hn => by
  subst hn
  cases b with
  | false => exact h2 W2 (g.trans g2) _ (w2.mono (fun n c h W3 g3 hn => h W3 (g2.trans g3) hn) h)
  | true => exact h W2 g2 rfl) q)
theorem ew_andV {w1 w2 : WP Bool} (h1 : EvW e ta σ W sI w1) (h2 : EvW e tb σ W sI w2) : EvW e (tAndV ta tb) σ W sI (WP.and w1 w2) := fun W1 g Q q => h1 W1 g _ (w1.mono (fun n b h v W2 g2 hn r => ⟨b, r, by
  subst hn
  cases b with
  | true => exact h2 W2 (g.trans g2) _ (w2.mono (fun n c h v W3 g3 hn r => h v W3 (g2.trans g3) hn r) h)
  | false => exact h _ W2 g2 rfl rfl⟩) q)
theorem ew_notV {w : WP Bool} (h1 : EvW e ta σ W sI w) : EvW e (tNotV ta) σ W sI (WP.not w) := fun W1 g Q q => h1 W1 g _ (w.mono (fun n b h v W2 g2 hn r => ⟨b, r, h _ W2 g2 hn rfl⟩) q)
theorem ew_ifE {ρ : Rs e α} {c : WP Bool} {wa wb : WP α} (h : EvT e t σ W c) (h1 : EvW e ta σ W ρ wa) (h2 : EvW e tb σ W ρ wb) : EvW e (tIf t ta tb) σ W ρ (WP.ite c wa wb) := fun W1 g Q q => h W1 g _ (c.mono (fun n b h W2 g2 hn => by
  subst hn
  cases b with
  | true => exact h1 W2 (g.trans g2) _ (wa.mono (fun n c h v W3 g3 hn r => h v W3 (g2.trans g3) hn (ρ.back g2 r)) h)
  | false => exact h2 W2 (g.trans g2) _ (wb.mono (fun n c h v W3 g3 hn r => h v W3 (g2.trans g3) hn (ρ.back g2 r)) h)) q)
theorem ew_chain {C C' : Int → Int → Bool} {w1 w2 w3 : WP Int} (h1 : EvW e ta σ W sI w1) (h2 : EvW e tb σ W sI w2) (h3 : EvW e tc σ W sI w3) :
    EvW e (tChain (rI0 fun i j => .bl (C i j)) (rI0 fun i j => .bl (C' i j)) ta tb tc) σ W sI (WP.chain C C' w1 w2 w3) := fun W1 g Q q => h1 W1 g _ (w1.mono (fun n a h x W2 g2 hn r1 => by
  subst hn
  refine h2 W2 (g.trans g2) _ (w2.mono (fun n b h y W3 g3 hn r2 => ?_) h)
  subst hn
  cases r1; cases r2
  refine ⟨a, b, rfl, rfl, C a b, rfl, ?_⟩
  cases hC : C a b with
  | true =>
    simp only [hC, WP.cond_true] at h
    refine h3 W3 ((g.trans g2).trans g3) _ (w3.mono (fun n c h z W4 g4 hn r3 => ?_) h)
    cases r3
    exact ⟨b, c, rfl, rfl, h _ W4 ((g2.trans g3).trans g4) hn rfl⟩
  | false =>
    simp only [hC, WP.cond_false] at h
    exact h _ W3 (g2.trans g3) rfl rfl) q)
/-! arguments -/
def EvA (e : Ef) (ta : TA) (σ : L2.St) (W : Wo) {α : Type} (ψ : Wo → Wo → α → List V → Prop) (w : WP α) : Prop :=
  ∀ W1, Gw e W W1 → ∀ Q : List V → Hp → Prop, w.run W1.n (fun n a => ∀ vs W2, Gw e W1 W2 → W2.n = n → ψ W1 W2 a vs → Q vs W2.H) → ta σ W1.H Q
theorem ea2 {ρ1 : Rs e α} {ρ2 : Rs e β} {w1 : WP α} {w2 : WP β} (h1 : EvW e ta σ W ρ1 w1) (h2 : EvW e tb σ W ρ2 w2) : EvA e (tCons ta (tCons tb tNil)) σ W (fun W1 W2 (c : α × β) vs => ∃ v1 v2, vs = [v1, v2] ∧ ρ1.post W1 W2 c.1 v1 ∧ ρ2.post W1 W2 c.2 v2) (WP.b2 w1 w2 fun a b => WP.pure (a, b)) := fun W1 g Q q =>
  h1 W1 g _ (w1.mono (fun n a h x W2 g2 hn r1 => by
    subst hn
    exact h2 W2 (g.trans g2) _ (w2.mono (fun n b h y W3 g3 hn r2 => h _ W3 (g2.trans g3) hn ⟨x, y, rfl, ρ1.stay g3 r1, ρ2.back g2 r2⟩) h)) q)
theorem ew_cb1 {r : List V → Hp → VK → Prop} {ρ1 : Rs e α} {ρ : Rs e γ} {w1 : WP α} {m : α → WP γ} (h1 : EvW e ta σ W ρ1 w1)
    (hm : ∀ W1 W2 a x, Gw e W1 W2 → ρ1.post W1 W2 a x → ∀ Q : VK, (m a).run W2.n (fun n b => ∀ v W3, Gw e W2 W3 → W3.n = n → ρ.post W2 W3 b v → Q v W3.H) → r [x] W2.H Q) : EvW e (tCB r (tCons ta tNil)) σ W ρ (w1.bind m) := fun W1 g Q q =>
  h1 W1 g _ (w1.mono (fun n a h x W2 g2 hn r1 => by
    subst hn
    exact hm W1 W2 a x g2 r1 Q ((m a).mono (fun n b h v W3 g3 hn r3 => h v W3 (g2.trans g3) hn (ρ.back g2 r3)) h)) q)
theorem ew_cb2 {r : List V → Hp → VK → Prop} {ρ1 : Rs e α} {ρ2 : Rs e β} {ρ : Rs e γ} {w1 : WP α} {w2 : WP β} {m : α → β → WP γ} (h1 : EvW e ta σ W ρ1 w1) (h2 : EvW e tb σ W ρ2 w2)
    (hm : ∀ W1 W2 a b x y, Gw e W1 W2 → ρ1.post W1 W2 a x → ρ2.post W1 W2 b y → ∀ Q : VK, (m a b).run W2.n (fun n b => ∀ v W3, Gw e W2 W3 → W3.n = n → ρ.post W2 W3 b v → Q v W3.H) → r [x, y] W2.H Q) : EvW e (tCB r (tCons ta (tCons tb tNil))) σ W ρ (WP.b2 w1 w2 m) := fun W1 g Q q =>
  h1 W1 g _ (w1.mono (fun n a h x W2 g2 hn r1 => by
    subst hn
    refine h2 W2 (g.trans g2) _ (w2.mono (fun n b h y W3 g3 hn r2 => ?_) h)
    subst hn
    exact hm W1 W3 a b x y (g2.trans g3) (ρ1.stay g3 r1) (ρ2.back g2 r2) Q ((m a b).mono (fun n b h v W4 g4 hn r3 => h v W4 ((g2.trans g3).trans g4) hn (ρ.back (g2.trans g3) r3)) h)) q)
/-! calls: of defs that keep their promise -/
theorem ew_call2 {sp : Sp} {E : XK} {ρ1 : Rs e α} {ρ2 : Rs e β} {ρ : Rs e γ} {w1 : WP α} {w2 : WP β} {m : α → β → WP γ} (h1 : EvW e ta σ W ρ1 w1) (h2 : EvW e tb σ W ρ2 w2)
    (hm : ∀ W2 a b x y, Good e W2 → ρ1.post W2 W2 a x → ρ2.post W2 W2 b y → ∀ Q : VK, (m a b).run W2.n (fun n b => ∀ v W3, Gw e W2 W3 → W3.n = n → ρ.post W2 W3 b v → Q v W3.H) → ∀ E, sp [x, y] W2.H Q E)
    (hn1 : ∀ {W1 W2 a x}, ρ1.post W1 W2 a x → ρ1.post W2 W2 a x := by intros; assumption) (hn2 : ∀ {W1 W2 a x}, ρ2.post W1 W2 a x → ρ2.post W2 W2 a x := by intros; assumption) : EvW e (tCall sp [] E (tCons ta (tCons tb tNil))) σ W ρ (WP.b2 w1 w2 m) := fun W1 g Q q =>
  h1 W1 g _ (w1.mono (fun n a h x W2 g2 hn r1 => by
    subst hn
    refine h2 W2 (g.trans g2) _ (w2.mono (fun n b h y W3 g3 hn r2 => ?_) h)
    subst hn
    exact hm W3 a b x y g3.ok (hn1 (ρ1.stay g3 r1)) (hn2 r2) Q ((m a b).mono (fun n b h v W4 g4 hn r3 => h v W4 ((g2.trans g3).trans g4) hn (ρ.back (g2.trans g3) r3)) h) E) q)
end
end Y

namespace Y
open PySem PySem.Spec PyProof.Rows L2
theorem sz_le {n : Nat} (h : n ≤ 100000) : n ≤ sizeLine := Nat.le_trans h (by decide)
theorem sz_lt {n : Nat} (h : n < 100000) : n < sizeLine := Nat.lt_of_lt_of_le h (by decide)
/-- items, by total functions -/
def ixD {α : Type} [Inhabited α] (xs : List α) (i : Int) : α := (atI xs i).getD default
def okI (n : Nat) (i : Int) : Prop := -(n : Int) ≤ i ∧ i < n
theorem atI_ok {α : Type} [Inhabited α] {xs : List α} {i : Int} (h : okI xs.length i) : atI xs i = some (ixD xs i) := by
  have : ∃ a, atI xs i = some a := by
    unfold atI ixN
    obtain ⟨h1, h2⟩ := h
    by_cases h0 : 0 ≤ i
    · rw [if_pos h0, if_pos h2]
      have : i.toNat < xs.length := by omega
      exact ⟨xs[i.toNat], by simp [this]⟩
    · rw [if_neg h0, if_pos h1]
      have : (i + xs.length).toNat < xs.length := by omega
      exact ⟨xs[(i + xs.length).toNat], by simp [this]⟩
  obtain ⟨a, ha⟩ := this
  unfold ixD
  rw [ha]; rfl
theorem ixD_nat {α : Type} [Inhabited α] {xs : List α} {i : Nat} (h : i < xs.length) : ixD xs (i : Int) = xs[i] := by
  unfold ixD atI ixN
  rw [if_pos (by omega), if_pos (by omega)]
  simp [h]
theorem atI_pair {α β : Type} {F : α → β → Prop} {xs : List α} {vs : List β} {i : Int} {a : α} (h : Paired F xs vs) (e : atI xs i = some a) : ∃ v, atI vs i = some v ∧ F a v := by
  unfold atI at e ⊢
  rw [← Paired.length h]
  cases q : ixN xs.length i with
  | none => rw [q] at e; cases e
  | some n => rw [q] at e; exact h.getA e
def sgn (z : Str) (i : Int) : Str := ⟨#[ixD z.cps.toList i]⟩
instance : Inhabited Str := ⟨⟨#[]⟩⟩
def cutL {α : Type} (xs : List α) (lo hi : Option Int) : List α := (xs.drop (HT.sIx xs.length 0 lo)).take (HT.sIx xs.length xs.length hi - HT.sIx xs.length 0 lo)
namespace WP
variable {α β γ : Type}
abbrev ix [Inhabited α] (a : WP (List α)) (b : WP Int) : WP α := b2 a b fun xs x => req (okI xs.length x) (ixD xs x)
abbrev ixS (a : WP Str) (b : WP Int) : WP Str := b2 a b fun z x => req (z.length ≤ 100000 ∧ okI z.length x) (sgn z x)
abbrev fst (a : WP (α × β)) : WP α := a.bind fun c => pure c.1
abbrev snd (a : WP (α × β)) : WP β := a.bind fun c => pure c.2
abbrev cat (a b : WP (List α)) : WP (List α) := b2 a b fun xs ys => req (xs.length + ys.length ≤ 100000) (xs ++ ys)
abbrev catS (a b : WP Str) : WP Str := b2 a b fun z w => req (z.length + w.length ≤ 100000) (z ++ w)
abbrev pair (a : WP α) (b : WP β) : WP (α × β) := b2 a b fun x y => pure (x, y)
abbrev consE (a : WP α) (b : WP (List α)) : WP (List α) := b2 a b fun x xs => pure (x :: xs)
abbrev row (a : WP (List α)) : WP (List α) := a.bind fun xs => req (xs.length ≤ 100000) xs
abbrev len (a : WP (List α)) : WP Int := a.bind fun xs => pure ((xs.length : Nat) : Int)
abbrev lenS (a : WP Str) : WP Int := a.bind fun z => req (z.length ≤ 100000) ((z.length : Nat) : Int)
abbrev abs (a : WP Int) : WP Int := a.bind fun i => pure (if i < 0 then -i else i)
abbrev min2 (a b : WP Int) : WP Int := b2 a b fun i j => pure (if j < i then j else i)
abbrev max2 (a b : WP Int) : WP Int := b2 a b fun i j => pure (if j > i then j else i)
abbrev sum (a : WP (List Int)) : WP Int := a.bind fun xs => pure xs.sum
abbrev cut (a : WP (List α)) (l h : WP (Option Int)) : WP (List α) := b3 a l h fun xs x y => pure (cutL xs x y)
end WP
section
variable {α β γ δ : Type} {K : PySem.W.Frag} {e : Ef} {σ : L2.St} {W : Wo} {ta tb te tc : TE} {t u : TT} {i j k m n : Nat} {v : V}
theorem ew_ixT [PyI α] [Inhabited α] {w1 : WP (List α)} {w2 : WP Int} (ha : EvW e ta σ W sI w1) (hb : EvW e tb σ W sI w2) : EvW e (tOp (rIxT K) ta tb) σ W sI (WP.ix w1 w2) :=
  ew_op2 ha hb fun W2 xs x _ _ ⟨p, vs, h1, h2, h3⟩ r2 hc Q q => by
    cases r2
    obtain ⟨v, hv, rv⟩ := atI_pair h3 (atI_ok hc)
    exact ⟨p, vs, x, v, h1, rfl, SqT.of h2, hv, q _ _ (Same.refl _) rv⟩
theorem ew_fst [PyI α] [PyI β] {w : WP (α × β)} (ha : EvW e ta σ W sI w) : EvW e (tOp (rIxT K) ta (tC (.int 0))) σ W sI (WP.fst w) := fun W1 g Q q => ha W1 g _ (w.mono (fun n c h v W2 g2 hn ⟨p, x, y, h1, h2, h3, h4⟩ => ⟨p, _, 0, x, h1, rfl, SqT.of h2, rfl, h _ W2 g2 hn h3⟩) q)
theorem ew_snd [PyI α] [PyI β] {w : WP (α × β)} (ha : EvW e ta σ W sI w) : EvW e (tOp (rIxT K) ta (tC (.int 1))) σ W sI (WP.snd w) := fun W1 g Q q => ha W1 g _ (w.mono (fun n c h v W2 g2 hn ⟨p, x, y, h1, h2, h3, h4⟩ => ⟨p, _, 1, y, h1, rfl, SqT.of h2, rfl, h _ W2 g2 hn h4⟩) q)
theorem ew_ixS {w1 : WP Str} {w2 : WP Int} (ha : EvW e ta σ W sI w1) (hb : EvW e tb σ W sI w2) : EvW e (tOp rIxS ta tb) σ W sI (WP.ixS w1 w2) :=
  ew_op2 ha hb fun W2 z x _ _ r1 r2 hc Q q => by
    cases r1; cases r2
    exact ⟨z, x, _, rfl, rfl, sz_le hc.1, atI_ok (xs := z.cps.toList) (by rw [Array.length_toList]; exact hc.2), q _ _ (Same.refl _) rfl⟩
theorem ew_ixL [PyI α] [Inhabited α] {w1 : WP (List α)} {w2 : WP Int} (ha : EvW e ta σ W (sR (kL α)) w1) (hb : EvW e tb σ W sI w2) : EvW e (tOp (rIxL K) ta tb) σ W sI (WP.ix w1 w2) :=
  ew_op ha hb fun W1 W2 xs x _ _ g ⟨fp, ⟨p, vs, _, h1, h2, h3⟩, _⟩ r2 Q q => by
    cases r2
    obtain ⟨v, hv, rv⟩ := atI_pair h3 (atI_ok q.1)
    exact ⟨p, vs, x, v, h1, rfl, SqL.of h2, hv, q.2 _ W2 (Gw.refl g.ok) rfl rv⟩
/-- a frozen list may be read -/
theorem ew_ls [PyI α] {w : WP (Ls α)} (h : EvW e te σ W sI w) : EvW e te σ W (sR (kL α)) (w.bind fun x => WP.pure x.l) := fun W1 g Q q => h W1 g _ (w.mono (fun n a hq v W2 g2 hn ⟨p, vs, h1, h2, h3, h4⟩ => hq v W2 g2 hn ⟨[p], ⟨p, vs, rfl, h1, h3, h4⟩, fun b m => by cases List.mem_singleton.mp m; exact (g2.ok.F p h2).1⟩) q)
theorem ew_catS {w1 w2 : WP Str} (ha : EvW e ta σ W sI w1) (hb : EvW e tb σ W sI w2) : EvW e (tOp (fun x y H Q => ∃ i j, x = .str i ∧ y = .str j ∧ i.length + j.length ≤ sizeLine ∧ Q (.str (i ++ j)) H) ta tb) σ W sI (WP.catS w1 w2) :=
  ew_op2 ha hb fun W2 z x _ _ r1 r2 hc Q q => by
    cases r1; cases r2
    exact ⟨z, x, rfl, rfl, sz_le hc, q _ _ (Same.refl _) rfl⟩
/-- a new object at hand -/
theorem Gw.al {e : Ef} {W W2 : Wo} (g : Gw e W W2) {p : Addr} {o : HO} (hp : W2.H p = none) : Gw e W ⟨upd W2.H p o, W2.F, W2.n⟩ := g.trans (Gw.alloc g.ok hp)
theorem new_L [PyI α] {e : Ef} {W1 W2 : Wo} {p : Addr} {xs : List α} {vs : List V} (g : Gw e W1 W2) (hp : W2.H p = none) (r : Rps W2 xs vs) : (sN (e := e) (kL α)).post W1 ⟨upd W2.H p (.lst vs), W2.F, W2.n⟩ xs (.ref p) :=
  ⟨[p], ⟨p, vs, rfl, rfl, upd_same, Rps.st (Gw.alloc (o := .lst vs) g.ok hp).st r⟩, fun a m => by
    cases List.mem_singleton.mp m
    exact ⟨g.live p hp, fun s => g.ok.S p s hp, fun f => (g.ok.F p f).2 hp⟩⟩
/-- a + b of lists -/
theorem ew_cat [PyI α] {w1 w2 : WP (List α)} (ha : EvW e ta σ W (sR (kL α)) w1) (hb : EvW e tb σ W (sR (kL α)) w2) : EvW e (tOp rCat ta tb) σ W (sN (kL α)) (WP.cat w1 w2) :=
  ew_op ha hb fun W1 W2 xs ys _ _ g ⟨_, ⟨p1, vs, _, h1, h2, h3⟩, _⟩ ⟨_, ⟨p2, ws, _, q1, q2, q3⟩, _⟩ Q q => by
    subst h1; subst q1
    refine ⟨p1, p2, vs, ws, rfl, rfl, h2, q2, by rw [← Paired.length h3, ← Paired.length q3]; exact sz_le q.1, fun p hp => q.2 _ _ (Gw.alloc g.ok hp) rfl (new_L (Gw.refl g.ok) hp (Paired.appA h3 q3))⟩
/-- bounds of slices -/
def EvO (e : Ef) (to : TO) (σ : L2.St) (W : Wo) (w : WP (Option Int)) : Prop := ∀ W1, Gw e W W1 → ∀ Q : Option Int → Hp → Prop, w.run W1.n (fun n o => ∀ W2, Gw e W1 W2 → W2.n = n → Q o W2.H) → to σ W1.H Q
theorem eo_none : EvO e tNoPart σ W (WP.pure none) := fun W1 g Q q => q W1 (Gw.refl g.ok) rfl
theorem eo_some {w : WP Int} (h : EvW e te σ W sI w) : EvO e (tPart te) σ W (w.bind fun x => WP.pure (some x)) := fun W1 g Q q => h W1 g _ (w.mono (fun n x hq v W2 g2 hn r => by
  cases r
  exact ⟨x, rfl, hq W2 g2 hn⟩) q)
theorem ew_slL [PyI α] {w : WP (List α)} {wl wh : WP (Option Int)} {tl th : TO} (ha : EvW e ta σ W (sR (kL α)) w) (h1 : EvO e tl σ W wl) (h2 : EvO e th σ W wh) : EvW e (tSl (rSlL K) ta tl th) σ W (sN (kL α)) (WP.cut w wl wh) := fun W1 g Q q =>
  ha W1 g _ (w.mono (fun n xs hq v W2 g2 hn r => by
    subst hn
    refine h1 W2 (g.trans g2) _ (wl.mono (fun n lo hq W3 g3 hn => ?_) hq)
    subst hn
    refine h2 W3 ((g.trans g2).trans g3) _ (wh.mono (fun n hi hq W4 g4 hn => ?_) hq)
    subst hn
    obtain ⟨fp, ⟨p, vs, _, e1, e2, e3⟩, _⟩ := (sR (kL α)).stay (g3.trans g4) r
    have gg := (g2.trans g3).trans g4
    have el := Paired.length e3
    refine ⟨p, vs, e1, SqL.of e2, fun q' hq' => hq _ _ (gg.al hq') rfl ?_⟩
    have := new_L gg hq' ((e3.dropA (HT.sIx vs.length 0 lo)).takeA (HT.sIx vs.length vs.length hi - HT.sIx vs.length 0 lo))
    unfold cutL
    rw [el]
    exact this) q)
/-- displays -/
theorem ew_pair [PyI α] [PyI β] {w1 : WP α} {w2 : WP β} (ha : EvW e ta σ W sI w1) (hb : EvW e tb σ W sI w2) : EvW e (tTup (tCons ta (tCons tb tNil))) σ W sI (WP.pair w1 w2) := fun W1 g Q q =>
  ea2 ha hb W1 g _ (WP.mono _ (fun n c h vs W2 g2 hn ⟨v, w, hv, r1, r2⟩ => by
    subst hv
    exact ⟨sz_le (n := 2) (by decide), fun p hp => h _ _ (g2.al hp) hn ⟨p, v, w, rfl, upd_same, PyI.st (Gw.alloc g2.ok hp).st r1, PyI.st (Gw.alloc g2.ok hp).st r2⟩⟩) q)
def EAs [PyI α] (e : Ef) (ta : TA) (σ : L2.St) (W : Wo) (w : WP (List α)) : Prop := EvA e ta σ W (fun _ W2 xs vs => Rps W2 xs vs) w
theorem eas_nil [PyI α] : EAs e tNil σ W (WP.pure ([] : List α)) := fun W1 g Q q => q [] W1 (Gw.refl g.ok) rfl .nil
theorem eas_cons [PyI α] {w : WP α} {wr : WP (List α)} {tr : TA} (h : EvW e te σ W sI w) (hr : EAs e tr σ W wr) : EAs e (tCons te tr) σ W (WP.consE w wr) := fun W1 g Q q =>
  h W1 g _ (w.mono (fun n a h v W2 g2 hn r => by
    subst hn
    exact hr W2 (g.trans g2) _ (wr.mono (fun n xs h vs W3 g3 hn r3 => h _ W3 (g2.trans g3) hn (.cons (PyI.st g3.st r) r3)) h)) q)
theorem ew_lst [PyI α] {w : WP (List α)} {tr : TA} (h : EAs e tr σ W w) : EvW e (tLst tr) σ W (sN (kL α)) (WP.row w) := fun W1 g Q q =>
  h W1 g _ (w.mono (fun n xs h vs W2 g2 hn r => ⟨by rw [← Paired.length r]; exact sz_le h.1, fun p hp => h.2 _ _ (g2.al hp) hn (new_L g2 hp r)⟩) q)
theorem ew_tup [PyI α] {w : WP (List α)} {tr : TA} (h : EAs e tr σ W w) : EvW e (tTup tr) σ W sI (WP.row w) := fun W1 g Q q =>
  h W1 g _ (w.mono (fun n xs h vs W2 g2 hn r => ⟨by rw [← Paired.length r]; exact sz_le h.1, fun p hp => h.2 _ _ (g2.al hp) hn ⟨p, vs, rfl, upd_same, Rps.st (Gw.alloc g2.ok hp).st r⟩⟩) q)
/-- things built in -/
abbrev rLenS (K : PySem.W.Frag) : List V → Hp → VK → Prop := fun xs H Q => ∃ p ys, xs = [.ref p] ∧ (SqL K H p ys ∨ SqT K H p ys) ∧ Q (.int ys.length) H
theorem ew_lenT [PyI α] {w : WP (List α)} (ha : EvW e ta σ W sI w) : EvW e (tCB (rLenS K) (tCons ta tNil)) σ W sI (WP.len w) := ew_cb1 ha fun W1 W2 xs x g ⟨p, vs, h1, h2, h3⟩ Q q => by
  subst h1
  exact ⟨p, vs, rfl, .inr (SqT.of h2), q _ W2 (Gw.refl g.ok) rfl (by rw [← Paired.length h3]; exact rfl)⟩
theorem ew_lenL [PyI α] {w : WP (List α)} (ha : EvW e ta σ W (sR (kL α)) w) : EvW e (tCB (rLenS K) (tCons ta tNil)) σ W sI (WP.len w) := ew_cb1 ha fun W1 W2 xs x g ⟨_, ⟨p, vs, _, h1, h2, h3⟩, _⟩ Q q => by
  subst h1
  exact ⟨p, vs, rfl, .inl (SqL.of h2), q _ W2 (Gw.refl g.ok) rfl (by rw [← Paired.length h3]; exact rfl)⟩
abbrev rLenZ : List V → Hp → VK → Prop := fun xs H Q => ∃ z, xs = [.str z] ∧ z.length ≤ sizeLine ∧ Q (.int z.length) H
theorem ew_lenS {w : WP Str} (ha : EvW e ta σ W sI w) : EvW e (tCB rLenZ (tCons ta tNil)) σ W sI (WP.lenS w) := ew_cb1 ha fun W1 W2 z x g r Q q => by
  cases r
  exact ⟨z, rfl, sz_le q.1, q.2 _ W2 (Gw.refl g.ok) rfl rfl⟩
abbrev rAbs : List V → Hp → VK → Prop := fun xs H Q => ∃ i, xs = [.int i] ∧ Q (.int (if i < 0 then -i else i)) H
theorem ew_abs {w : WP Int} (ha : EvW e ta σ W sI w) : EvW e (tCB rAbs (tCons ta tNil)) σ W sI (WP.abs w) := ew_cb1 ha fun W1 W2 z x g r Q q => by
  cases r
  exact ⟨z, rfl, q _ W2 (Gw.refl g.ok) rfl rfl⟩
abbrev rInt1 : List V → Hp → VK → Prop := fun xs H Q => (∃ i, xs = [.int i] ∧ Q (.int i) H) ∨ ∃ k, xs = [.bl k] ∧ Q (.int (if k then 1 else 0)) H
theorem ew_int1 {w : WP Int} (ha : EvW e ta σ W sI w) : EvW e (tCB rInt1 (tCons ta tNil)) σ W sI (w.bind WP.pure) := ew_cb1 ha fun W1 W2 z x g r Q q => by
  cases r
  exact .inl ⟨z, rfl, q _ W2 (Gw.refl g.ok) rfl rfl⟩
abbrev rMin2 : List V → Hp → VK → Prop := fun xs H Q => ∃ i j, xs = [.int i, .int j] ∧ Q (.int (if j < i then j else i)) H
theorem ew_min2 {w1 w2 : WP Int} (ha : EvW e ta σ W sI w1) (hb : EvW e tb σ W sI w2) : EvW e (tCB rMin2 (tCons ta (tCons tb tNil))) σ W sI (WP.min2 w1 w2) := ew_cb2 ha hb fun W1 W2 a b x y g r1 r2 Q q => by
  cases r1; cases r2
  exact ⟨a, b, rfl, q _ W2 (Gw.refl g.ok) rfl rfl⟩
abbrev rMax2 : List V → Hp → VK → Prop := fun xs H Q => ∃ i j, xs = [.int i, .int j] ∧ Q (.int (if j > i then j else i)) H
theorem ew_max2 {w1 w2 : WP Int} (ha : EvW e ta σ W sI w1) (hb : EvW e tb σ W sI w2) : EvW e (tCB rMax2 (tCons ta (tCons tb tNil))) σ W sI (WP.max2 w1 w2) := ew_cb2 ha hb fun W1 W2 a b x y g r1 r2 Q q => by
  cases r1; cases r2
  exact ⟨a, b, rfl, q _ W2 (Gw.refl g.ok) rfl rfl⟩
theorem ew_sum {w : WP (List Int)} (ha : EvW e ta σ W (sR (kL Int)) w) : EvW e (tCB (rSum K) (tCons ta tNil)) σ W sI (WP.sum w) := ew_cb1 ha fun W1 W2 xs x g ⟨_, ⟨p, vs, _, h1, h2, h3⟩, _⟩ Q q => by
  subst h1
  cases rps_ints h3
  exact ⟨p, xs, rfl, SqL.of h2, q _ W2 (Gw.refl g.ok) rfl rfl⟩
abbrev rTupOf (K : PySem.W.Frag) : List V → Hp → VK → Prop := fun xs H Q => ∃ p ys, xs = [.ref p] ∧ ((SqL K H p ys ∧ ∀ l, H l = none → Q (.ref l) (upd H l (.tup ys))) ∨ (SqT K H p ys ∧ Q (.ref p) H))
theorem ew_tuple [PyI α] {w : WP (List α)} (h : EvW e te σ W (sR (kL α)) w) : EvW e (tCB (rTupOf K) (tCons te tNil)) σ W sI (w.bind fun xs => WP.pure (α := List α) xs) := ew_cb1 h fun W1 W2 xs x g ⟨_, ⟨p, vs, _, h1, h2, h3⟩, _⟩ Q q => by
  subst h1
  exact ⟨p, vs, rfl, .inl ⟨SqL.of h2, fun l hl => q _ _ (Gw.alloc g.ok hl) rfl ⟨l, vs, rfl, upd_same, Rps.st (Gw.alloc g.ok hl).st h3⟩⟩⟩
end
end Y

namespace Y
open PySem PySem.Spec PyProof.Rows L2
/-- a def of the module that keeps its promise -/
def Has (P : Program) (w : World) (K : PySem.W.Frag) (mg : Str → Option Value) (base : Heap) (x : Str) (k : Nat) (ps : List Str) (sp : Sp) : Prop :=
  ∃ f fd, mg x = some (.ref f) ∧ PySem.W.keepIn K (.ref f) = true ∧ Binds K fd ps [] ∧ FnOk P w K mg base CX0 k f fd ps sp
/-- a def as the top left it -/
def At (K : PySem.W.Frag) (mg : Str → Option Value) (x : Str) (st : Stmt) (ps : List Str) : Prop :=
  ∃ f fd, mg x = some (.ref f) ∧ Fun K x x st f fd ∧ Binds K fd ps []
section
variable {X : Cx}
theorem pe_user {x : Str} {k : Nat} {ps : List Str} {sp : Sp} {a : Expr} {es : List Expr} {t : TA} {p pos : Pos} (h : Has X.prog X.w X.K X.mg X.base x k ps sp) (hr : Room k X.A) (hg : Gl X x) (ha : PA X (a :: es) t)
    (hdb : (x == ("__debug__" : Str)) = false := by decide) (he : starEach (a :: es) X.env = (false, eval a X.env) :: starEach es X.env := by rfl) (hpl : (backTo pos (starEach es X.env)).any (·.1) = false := by rfl) :
    PE X (.Call (.Name x p) (a :: es) [] pos) (tCall sp [] E0 t) := by
  obtain ⟨f, fd, hm, hk, hb, hF⟩ := h
  exact pe_call hF hr hg hm hk hb .nil pass0 ha hdb he hpl
end
theorem Has.of {P : Program} {w : World} {K : PySem.W.Frag} {mg : Str → Option Value} {base : Heap} {x : Str} {st : Stmt} {N ps : List Str} {k : Nat} {sp : Sp} (F : At K mg x st ps) (S : FnScope N ps (defScope st)) (len : ∀ vs H Q E, sp vs H Q E → vs.length = ps.length)
    (hbody : ∀ (f : Addr) (cdv : Value) (A : Around) (outer : List Env) (s : Shared) (H : Hp) (vs : List V) (Q : VK) (E : XK), Room k (A.deeper (envOfC x (defScope st) s.heap.objs.size f cdv)) → sp vs H Q E →
      ∃ t, PSs (cxOf CX0 P w K mg base N x (defScope st) f cdv A outer s H E).nox (defBody st) t ∧ t { nx := fun _ H' => Q .non H', rt := Q } (start N vs) H) : Has P w K mg base x (k + 1) ps sp := by
  obtain ⟨f, fd, hm, hF, hb⟩ := F
  exact ⟨f, fd, hm, hF.kp, hb, hF.ok S len fun cdv A outer s H vs Q E => hbody f cdv A outer s H vs Q E⟩
/-! ### models of loops -/
/-- contents kept -/
def Kp (fp : List Addr) (W W' : Wo) : Prop := ∀ a ∈ fp, ∀ o, W.H a = some o → W'.H a = some o
theorem Kp.refl {fp : List Addr} {W : Wo} : Kp fp W W := fun _ _ _ h => h
theorem Kp.trans {fp : List Addr} {W W1 W2 : Wo} (a : Kp fp W W1) (b : Kp fp W1 W2) : Kp fp W W2 := fun x m o h => b x m o (a x m o h)
theorem Kp.gw {e : Ef} {fp : List Addr} {W W' : Wo} (g : Gw e W W') (hS : ∀ a ∈ fp, ¬ e.S a) : Kp fp W W' := fun a m o h => g.keep a o h (hS a m)
theorem Kp.upd {fp : List Addr} {W W' : Wo} {l : Addr} {u : HO} (h : Kp fp W W') (hl : ∀ a ∈ fp, a ≠ l) : Kp fp W ⟨upd W'.H l u, W'.F, W'.n⟩ := fun a m o q => by
  show (L2.upd W'.H l u) a = _
  rw [upd_ne (hl a m)]; exact h a m o q
def rangeL (lo hi : Int) : List Int := (List.range (hi - lo).toNat).map fun i : Nat => lo + (i : Int)
theorem rangeL_get {lo hi : Int} {i : Nat} (h : i < (hi - lo).toNat) : (rangeL lo hi)[i]? = some (lo + (i : Int)) := by
  unfold rangeL
  rw [List.getElem?_map, List.getElem?_range h]; rfl
theorem rangeL_len {lo hi : Int} : (rangeL lo hi).length = (hi - lo).toNat := by unfold rangeL; rw [List.length_map, List.length_range]
theorem mem_rangeL {lo hi x : Int} (h : x ∈ rangeL lo hi) : lo ≤ x ∧ x < hi := by
  unfold rangeL at h
  rw [List.mem_map] at h
  obtain ⟨i, hi, e⟩ := h
  rw [List.mem_range] at hi
  omega
namespace WP
variable {α β γ s ρ : Type}
/-- what follows a loop -/
def after (w : WP (Ctl s γ)) (f : s → WP ρ) (r : γ → WP ρ) : WP ρ := w.bind fun c => match c with | .nx y => f y | .bk y => f y | .rt x => r x
def range1 (w : WP Int) : WP (List Int) := w.bind fun n => req (-100000000 ≤ n ∧ n ≤ 100000000) (rangeL 0 n)
def range2 (a b : WP Int) : WP (List Int) := b2 a b fun x y => req (-100000000 ≤ x ∧ x ≤ 100000000 ∧ -100000000 ≤ y ∧ y ≤ 100000000) (rangeL x y)
def comp (c : α → WP Bool) (f : α → WP β) : List α → WP (List β)
  | [] => pure []
  | a :: as => (c a).bind fun b => cond b ((f a).bind fun y => (comp c f as).bind fun ys => pure (y :: ys)) (comp c f as)
end WP
/-! ### statements -/
section
variable {α β γ δ s ρ' : Type} {K : PySem.W.Frag} {e : Ef} {σ : L2.St} {W : Wo} {ta tb te tc tl : TE} {t u : TT} {i j k m n : Nat} {v : V} {D : Ends} {tu tw tz : TS} {ρ : Rs e α} {w : WP α} {R : Nat → β → Prop}
theorem st_asg {f : α → WP β} (h : EvW e te σ W ρ w) (g : Good e W) (hm : (w.bind f).run W.n R) (q : ∀ a v W1, Gw e W W1 → ρ.post W W1 a v → (f a).run W1.n R → D.nx (σ.set i (some v)) W1.H) : tAsg te (gName i) D σ W.H :=
  h W (Gw.refl g) _ (w.mono (fun n a r v W1 g1 hn p => q a v W1 g1 p (hn ▸ r)) hm)
theorem q_asg {f : α → WP β} (h : EvW e te σ W ρ w) (g : Good e W) (hm : (w.bind f).run W.n R) (q : ∀ a v W1, Gw e W W1 → ρ.post W W1 a v → (f a).run W1.n R → tz D (σ.set i (some v)) W1.H) : tSeq (tAsg te (gName i)) tz D σ W.H := st_asg (D := { D with nx := tz D }) h g hm q
/-- return e -/
theorem st_ret {f : α → WP β} (h : EvW e te σ W ρ w) (g : Good e W) (hm : (w.bind f).run W.n R) (q : ∀ a v W1, Gw e W W1 → ρ.post W W1 a v → (f a).run W1.n R → D.rt v W1.H) : tRet te D σ W.H :=
  h W (Gw.refl g) _ (w.mono (fun n a r v W1 g1 hn p => q a v W1 g1 p (hn ▸ r)) hm)
/-- a, b = e -/
theorem st_un2 [PyI α] [PyI γ] {w : WP (α × γ)} {f : α × γ → WP β} (h : EvW e te σ W sI w) (g : Good e W) (hm : (w.bind f).run W.n R) (q : ∀ c x y W1, Gw e W W1 → Rp W1 (Prod.fst c) x → Rp W1 (Prod.snd c) y → (f c).run W1.n R → D.nx ((σ.set i (some x)).set j (some y)) W1.H) :
    tAsg te (gTup K 2 (gCons (gName i) (gCons (gName j) gNil))) D σ W.H :=
  h W (Gw.refl g) _ (w.mono (fun n c r v W1 g1 hn ⟨p, x, y, h1, h2, h3, h4⟩ => ⟨p, [x, y], h1, SqT.of h2, rfl, x, [y], rfl, y, [], rfl, rfl, q c x y W1 g1 h3 h4 (hn ▸ r)⟩) hm)
theorem q_un2 [PyI α] [PyI γ] {w : WP (α × γ)} {f : α × γ → WP β} (h : EvW e te σ W sI w) (g : Good e W) (hm : (w.bind f).run W.n R) (q : ∀ c x y W1, Gw e W W1 → Rp W1 (Prod.fst c) x → Rp W1 (Prod.snd c) y → (f c).run W1.n R → tz D ((σ.set i (some x)).set j (some y)) W1.H) :
    tSeq (tAsg te (gTup K 2 (gCons (gName i) (gCons (gName j) gNil)))) tz D σ W.H := st_un2 (D := { D with nx := tz D }) h g hm q
/-- if, each branch its own model -/
theorem st_if {c : WP Bool} {A B : WP β} (h : EvT e t σ W c) (g : Good e W) (hm : (c.bind fun b => WP.cond b A B).run W.n R) (h1 : ∀ W1, Gw e W W1 → A.run W1.n R → tu D σ W1.H) (h2 : ∀ W1, Gw e W W1 → B.run W1.n R → tw D σ W1.H) : tIfS t tu tw D σ W.H :=
  h W (Gw.refl g) _ (c.mono (fun n b r W1 g1 hn => by
    subst hn
    cases b with
    | true => exact h1 W1 g1 r
    | false => exact h2 W1 g1 r) hm)
theorem q_if {c : WP Bool} {A B : WP β} (h : EvT e t σ W c) (g : Good e W) (hm : (c.bind fun b => WP.cond b A B).run W.n R) (h1 : ∀ W1, Gw e W W1 → A.run W1.n R → tu { D with nx := tz D } σ W1.H) (h2 : ∀ W1, Gw e W W1 → B.run W1.n R → tw { D with nx := tz D } σ W1.H) : tSeq (tIfS t tu tw) tz D σ W.H := st_if (D := { D with nx := tz D }) h g hm h1 h2
/-- if, the branches joined -/
theorem st_join {c : WP Bool} {A B : WP s} {f : s → WP β} (INV : s → L2.St → Wo → Prop) (h : EvT e t σ W c) (g : Good e W) (hm : ((c.bind fun b => WP.cond b A B).bind f).run W.n R) (after : ∀ y σ' W', INV y σ' W' → (f y).run W'.n R → D.nx σ' W'.H)
    (h1 : ∀ W1 R', Gw e W W1 → A.run W1.n R' → (∀ y σ' W', INV y σ' W' → R' W'.n y → D.nx σ' W'.H) → tu D σ W1.H) (h2 : ∀ W1 R', Gw e W W1 → B.run W1.n R' → (∀ y σ' W', INV y σ' W' → R' W'.n y → D.nx σ' W'.H) → tw D σ W1.H) : tIfS t tu tw D σ W.H :=
  h W (Gw.refl g) _ (c.mono (fun n b r W1 g1 hn => by
    subst hn
    cases b with
    | true => exact h1 W1 _ g1 r after
    | false => exact h2 W1 _ g1 r after) hm)
theorem q_join {c : WP Bool} {A B : WP s} {f : s → WP β} (INV : s → L2.St → Wo → Prop) (h : EvT e t σ W c) (g : Good e W) (hm : ((c.bind fun b => WP.cond b A B).bind f).run W.n R) (after : ∀ y σ' W', INV y σ' W' → (f y).run W'.n R → tz D σ' W'.H)
    (h1 : ∀ W1 R', Gw e W W1 → A.run W1.n R' → (∀ y σ' W', INV y σ' W' → R' W'.n y → tz D σ' W'.H) → tu { D with nx := tz D } σ W1.H) (h2 : ∀ W1 R', Gw e W W1 → B.run W1.n R' → (∀ y σ' W', INV y σ' W' → R' W'.n y → tz D σ' W'.H) → tw { D with nx := tz D } σ W1.H) : tSeq (tIfS t tu tw) tz D σ W.H :=
  st_join (D := { D with nx := tz D }) INV h g hm after h1 h2
theorem st_next (h : D.nx σ W.H) : tNext D σ W.H := h
/-- x += e -/
theorem st_aug {h0 : Int → Int → Int} {a0 : Int} {v0 : V} {w : WP Int} {f : Int → WP β} (hx : σ[i]? = some (some v0)) (r0 : Rp W a0 v0) (h : EvW e te σ W sI w) (g : Good e W) (hm : ((w.bind fun b => WP.pure (h0 a0 b)).bind f).run W.n R) (q : ∀ a v W1, Gw e W W1 → Rp W1 a v → (f a).run W1.n R → D.nx (σ.set i (some v)) W1.H) : tAug i te (ipI h0) D σ W.H :=
  ⟨v0, hx, h W (Gw.refl g) _ (w.mono (fun n b r y W1 g1 hn p => by
    cases p; cases r0
    exact ⟨a0, b, rfl, rfl, q _ _ W1 g1 rfl (hn ▸ r)⟩) hm)⟩
/-! changes of what is our own -/
/-- the world behind a change of the object at l -/
def Wo.set (W : Wo) (l : Addr) (u : HO) : Wo := ⟨upd W.H l u, W.F, W.n⟩
/-- xs.append(e) -/
theorem st_app [PyI α] {W0 : Wo} {fp : List Addr} {xs : List α} {vx : V} {iv : Nat} {w : WP α} {f : List α → WP β} (g00 : Good e W0) (g0 : Gw e W0 W) (hv : σ[iv]? = some (some vx)) (ho : Var (kL α) W0 W fp xs vx) (h : EvW e te σ W sI w)
    (hm : ((w.bind fun a => WP.req (xs.length < 100000) (xs ++ [a])).bind f).run W.n R)
    (q : ∀ ys W1 W2 l, fp = [l] → Gw e W W1 → St W1 W2 → Gw e W0 W2 → (∀ fp' W9, Kp fp' W9 W1 → (∀ b ∈ fp', b ∉ fp) → Kp fp' W9 W2) → (∀ b, W2.F b → W1.F b) → Var (kL α) W0 W2 fp ys vx → (f ys).run W2.n R → D.nx σ W2.H) : tDrop (tBM K "list" rAppend (tVar iv) (tCons te tNil)) D σ W.H := by
  obtain ⟨⟨l, vs, h1, h2, h3, h4⟩, fr, nF⟩ := ho
  subst h1; subst h2
  have m0 : l ∈ [l] := List.mem_singleton.mpr rfl
  refine ⟨_, hv, .inl ⟨rfl, vs, SqL.of h3⟩, h W (Gw.refl g0.ok) _ (w.mono (fun n a r y W1 g1 hn p => ?_) hm)⟩
  subst hn
  have hl1 : W1.H l = some (.lst vs) := g1.keep _ _ h3 fun s => g00.S l s (fr l m0)
  have hF1 : ¬ W1.F l := fun f => (g1.new l f).elim (nF l m0) (some_ne h3)
  have s12 := St.mut (u := .lst (vs ++ [y])) hl1 (fun _ z => by cases z) hF1
  refine ⟨l, vs, y, rfl, rfl, hl1, by rw [← Paired.length h4]; exact sz_lt r.1, ?_⟩
  refine q (xs ++ [a]) W1 (W1.set l (.lst (vs ++ [y]))) l rfl g1 s12 (Gw.mut g00 (g0.trans g1) (fr l m0) hl1 (fun _ z => by cases z) hF1) (fun fp' W9 k d => k.upd fun b m z => d b m (by rw [z]; exact m0)) (fun _ f => f) ⟨⟨l, _, rfl, rfl, upd_same, ?_⟩, fr, fun b m => by cases List.mem_singleton.mp m; exact hF1⟩ r.2
  exact Paired.snoc (Rps.st (g1.st.trans s12) h4) (PyI.st s12 p)
theorem q_app [PyI α] {W0 : Wo} {fp : List Addr} {xs : List α} {vx : V} {iv : Nat} {w : WP α} {f : List α → WP β} (g00 : Good e W0) (g0 : Gw e W0 W) (hv : σ[iv]? = some (some vx)) (ho : Var (kL α) W0 W fp xs vx) (h : EvW e te σ W sI w)
    (hm : ((w.bind fun a => WP.req (xs.length < 100000) (xs ++ [a])).bind f).run W.n R)
    (q : ∀ ys W1 W2 l, fp = [l] → Gw e W W1 → St W1 W2 → Gw e W0 W2 → (∀ fp' W9, Kp fp' W9 W1 → (∀ b ∈ fp', b ∉ fp) → Kp fp' W9 W2) → (∀ b, W2.F b → W1.F b) → Var (kL α) W0 W2 fp ys vx → (f ys).run W2.n R → tz D σ W2.H) : tSeq (tDrop (tBM K "list" rAppend (tVar iv) (tCons te tNil))) tz D σ W.H :=
  st_app (D := { D with nx := tz D }) g00 g0 hv ho h hm q
/-- another thing of our own stays -/
theorem Var.kept {κ : Type} {kd : Kd κ} {W0 W1 W2 : Wo} {fp fq : List Addr} {x : κ} (h : Var kd W0 W1 fq x v) (s : St W1 W2) (k : ∀ fp' W9, Kp fp' W9 W1 → (∀ b ∈ fp', b ∉ fp) → Kp fp' W9 W2) (f : ∀ b, W2.F b → W1.F b) (d : ∀ b ∈ fq, b ∉ fp) : Var kd W0 W2 fq x v :=
  ⟨kd.st s (k fq W1 Kp.refl d) h.own, h.fr, fun a m z => h.nF a m (f a z)⟩
/-! loops -/
/-- the walk of a loop, by an invariant over the state that its model carries; abstract in how items come -/
theorem pv_loop {xs : List α} {body : α → s → WP (Ctl s γ)} {f : s → WP β} {r : γ → WP β} (INV : s → L2.St → Wo → Prop) {x0 : s} (h0 : INV x0 σ W) (hm : (WP.after (WP.loop body xs x0) f r).run W.n R)
    (hd : ∀ y σ' W', INV y σ' W' → (f y).run W'.n R → D.nx σ' W'.H) :
    ∃ Pv : Nat → L2.St → Hp → Prop, Pv 0 σ W.H ∧ (∀ i σ' H', Pv i σ' H' → ∃ y W', W'.H = H' ∧ INV y σ' W') ∧
      (∀ i σ' H' a, xs[i]? = some a → Pv i σ' H' → ∃ y W' R', W'.H = H' ∧ INV y σ' W' ∧ (body a y).run W'.n R' ∧ (∀ y' σ'' W'', INV y' σ'' W'' → R' W''.n (.nx y') → Pv (i + 1) σ'' W''.H) ∧ (∀ y' σ'' W'', INV y' σ'' W'' → R' W''.n (.bk y') → D.nx σ'' W''.H) ∧ (∀ n x, R' n (.rt x) → (r x).run n R)) ∧
      (∀ σ' H', Pv xs.length σ' H' → D.nx σ' H') := by
  refine ⟨fun i σ' H' => ∃ y W', W'.H = H' ∧ INV y σ' W' ∧ (WP.after (WP.loop body (xs.drop i) y) f r).run W'.n R, ⟨x0, W, rfl, h0, hm⟩, fun i σ' H' ⟨y, W', e1, p, _⟩ => ⟨y, W', e1, p⟩, fun i σ' H' a ha ⟨y, W', e1, p, q⟩ => ?_, fun σ' H' ⟨y, W', e1, p, q⟩ => ?_⟩
  · have hl : i < xs.length := (List.getElem?_eq_some_iff.mp ha).1
    have ed : xs.drop i = a :: xs.drop (i + 1) := by
      rw [List.drop_eq_getElem_cons hl, (List.getElem?_eq_some_iff.mp ha).2]
    rw [ed] at q
    exact ⟨y, W', _, e1, p, q, fun y' σ'' W'' p' q' => ⟨y', W'', rfl, p', q'⟩, fun y' σ'' W'' p' q' => hd y' σ'' W'' p' q', fun n x q' => q'⟩
  · rw [List.drop_length] at q
    subst e1
    exact hd y σ' W' p q
/-- a loop's target takes an item -/
def TkN {α : Type} [PyI α] (j : Nat) : α → Wo → L2.St → L2.St → Prop := fun a W σ s2 => ∃ x, s2 = σ.set j (some x) ∧ Rp W a x
def Tk {α : Type} [PyI α] (g : TG) (T : α → Wo → L2.St → L2.St → Prop) : Prop := ∀ a x W' σ' Q, Rp W' a x → (∀ s2, T a W' σ' s2 → Q s2 W'.H) → g x σ' W'.H Q
theorem tk_N {α : Type} [PyI α] {j : Nat} : Tk (gName j) (TkN (α := α) j) := fun a x W' σ' Q r q => q _ ⟨x, rfl, r⟩
abbrev Turn {α β γ s : Type} (INV : s → L2.St → Wo → Prop) (body : α → s → WP (Ctl s γ)) (r : γ → WP β) (R : Nat → β → Prop) (D : Ends) (tu : TS) (T : α → Wo → L2.St → L2.St → Prop) : Prop :=
  ∀ a y σ' s2 W' R' (nx : L2.St → Hp → Prop), T a W' σ' s2 → INV y σ' W' → (body a y).run W'.n R' → (∀ y' σ'' W'', INV y' σ'' W'' → R' W''.n (.nx y') → nx σ'' W''.H) → (∀ y' σ'' W'', INV y' σ'' W'' → R' W''.n (.bk y') → D.nx σ'' W''.H) → (∀ n x, R' n (.rt x) → (r x).run n R) →
    tu { D with nx := nx, ct := nx, bk := D.nx } s2 W'.H
/-- over a list that is there already -/
theorem st_forV [PyI α] {g : TG} {T : α → Wo → L2.St → L2.St → Prop} (ht : Tk g T) {xs : List α} {body : α → s → WP (Ctl s γ)} {f : s → WP β} {r : γ → WP β} {x0 : s} {p : Addr} {vs : List V} (hv : σ[i]? = some (some (.ref p))) (hp : W.H p = some (.lst vs)) (hr : Rps W xs vs) (hm : (WP.after (WP.loop body xs x0) f r).run W.n R)
    (INV : s → L2.St → Wo → Prop) (h0 : INV x0 σ W) (keep : ∀ y σ' W', INV y σ' W' → St W W' ∧ W'.H p = some (.lst vs)) (step : Turn INV body r R D tu T) (hd : ∀ y σ' W', INV y σ' W' → (f y).run W'.n R → D.nx σ' W'.H) : tFor (iList K (tVar i)) g tu D σ W.H := by
  obtain ⟨Pv, p0, pk, ps, pd⟩ := pv_loop INV h0 hm hd
  refine ⟨_, hv, p, rfl, ⟨vs, SqL.of hp⟩, for_list (xs := vs) Pv p0 (fun i σ' H' _ q => ?_) (fun i x σ' H' hi q => ?_) (by rw [← Paired.length hr]; exact pd)⟩
  · obtain ⟨y, W', e1, q'⟩ := pk i σ' H' q
    subst e1
    exact SqL.of (keep y σ' W' q').2
  · obtain ⟨a, ha, ra⟩ := hr.getV hi
    obtain ⟨y, W', R', e1, q1, q2, q3, q4, q5⟩ := ps i σ' H' a ha q
    subst e1
    exact ht a x W' σ' _ (PyI.st (keep y σ' W' q1).1 ra) fun s2 h2 => step a y σ' s2 W' R' _ h2 q1 q2 q3 q4 q5
/-- over a new list -/
theorem st_forN [PyI α] {gt : TG} {T : α → Wo → L2.St → L2.St → Prop} (ht : Tk gt T) {w : WP (List α)} {body : α → s → WP (Ctl s γ)} {f : s → WP β} {r : γ → WP β} {x0 : s} (h : EvW e tl σ W (sN (kL α)) w) (g : Good e W) (hm : (w.bind fun xs => WP.after (WP.loop body xs x0) f r).run W.n R)
    (q : ∀ (xs : List α) p vs W1, Gw e W W1 → W.H p = none → ¬ W1.F p → W1.H p = some (.lst vs) → Rps W1 xs vs → ∃ INV : s → L2.St → Wo → Prop, INV x0 σ W1 ∧ (∀ y σ' W', INV y σ' W' → St W1 W' ∧ W'.H p = some (.lst vs)) ∧ Turn INV body r R D tu T ∧ ∀ y σ' W', INV y σ' W' → (f y).run W'.n R → D.nx σ' W'.H) : tFor (iList K tl) gt tu D σ W.H :=
  h W (Gw.refl g) _ (w.mono (fun n xs hm v W1 g1 hn ⟨fp, ⟨p, vs, e1, e2, hp, hr⟩, hf⟩ => by
    subst hn; subst e1; subst e2
    have hm0 := hf p (List.mem_singleton.mpr rfl)
    obtain ⟨INV, h0, keep, step, hd⟩ := q xs p vs W1 g1 hm0.1 hm0.2.2 hp hr
    obtain ⟨Pv, p0, pk, ps, pd⟩ := pv_loop (D := D) INV h0 hm hd
    refine ⟨p, rfl, ⟨vs, SqL.of hp⟩, for_list (xs := vs) Pv p0 (fun i σ' H' _ q => ?_) (fun i x σ' H' hi q => ?_) (by rw [← Paired.length hr]; exact pd)⟩
    · obtain ⟨y, W', e1, q'⟩ := pk i σ' H' q
      subst e1
      exact SqL.of (keep y σ' W' q').2
    · obtain ⟨a, ha, ra⟩ := hr.getV hi
      obtain ⟨y, W', R', e1, q1, q2, q3, q4, q5⟩ := ps i σ' H' a ha q
      subst e1
      exact ht a x W' σ' _ (PyI.st (keep y σ' W' q1).1 ra) fun s2 h2 => step a y σ' s2 W' R' _ h2 q1 q2 q3 q4 q5) hm)
/-- over a tuple -/
theorem st_forT [PyI α] {gt : TG} {T : α → Wo → L2.St → L2.St → Prop} (ht : Tk gt T) {w : WP (List α)} {body : α → s → WP (Ctl s γ)} {f : s → WP β} {r : γ → WP β} {x0 : s} (h : EvW e tl σ W sI w) (g : Good e W) (hm : (w.bind fun xs => WP.after (WP.loop body xs x0) f r).run W.n R)
    (q : ∀ (xs : List α) W1, Gw e W W1 → ∃ INV : s → L2.St → Wo → Prop, INV x0 σ W1 ∧ (∀ y σ' W', INV y σ' W' → St W1 W') ∧ Turn INV body r R D tu T ∧ ∀ y σ' W', INV y σ' W' → (f y).run W'.n R → D.nx σ' W'.H) : tFor (iTup K tl) gt tu D σ W.H :=
  h W (Gw.refl g) _ (w.mono (fun n xs hm v W1 g1 hn ⟨p, vs, e2, hp, hr⟩ => by
    subst hn; subst e2
    obtain ⟨INV, h0, keep, step, hd⟩ := q xs W1 g1
    obtain ⟨Pv, p0, pk, ps, pd⟩ := pv_loop (D := D) INV h0 hm hd
    refine ⟨p, rfl, ⟨vs, SqT.of hp⟩, for_tup (xs := vs) Pv p0 (fun i σ' H' _ q => ?_) (fun i x σ' H' hi q => ?_) (by rw [← Paired.length hr]; exact pd)⟩
    · obtain ⟨y, W', e1, q'⟩ := pk i σ' H' q
      subst e1
      exact SqT.of ((keep y σ' W' q').t _ _ hp)
    · obtain ⟨a, ha, ra⟩ := hr.getV hi
      obtain ⟨y, W', R', e1, q1, q2, q3, q4, q5⟩ := ps i σ' H' a ha q
      subst e1
      exact ht a x W' σ' _ (PyI.st (keep y σ' W' q1) ra) fun s2 h2 => step a y σ' s2 W' R' _ h2 q1 q2 q3 q4 q5) hm)
theorem st_forR1 {w : WP Int} {body : Int → s → WP (Ctl s γ)} {f : s → WP β} {r : γ → WP β} {x0 : s} (h : EvW e te σ W sI w) (g : Good e W) (hm : ((WP.range1 w).bind fun xs => WP.after (WP.loop body xs x0) f r).run W.n R)
    (q : ∀ W1, Gw e W W1 → ∃ INV : s → L2.St → Wo → Prop, INV x0 σ W1 ∧ Turn INV body r R D tu (TkN j) ∧ ∀ y σ' W', INV y σ' W' → (f y).run W'.n R → D.nx σ' W'.H) : tFor (iRng1 (tCons te tNil)) (gName j) tu D σ W.H :=
  h W (Gw.refl g) _ (w.mono (fun n k hm v W1 g1 hn r => by
    subst hn; cases r
    obtain ⟨INV, h0, step, hd⟩ := q W1 g1
    obtain ⟨⟨b1, b2⟩, hm⟩ := hm
    obtain ⟨Pv, p0, pk, ps, pd⟩ := pv_loop (D := D) INV h0 hm hd
    have el : (rangeL 0 k).length = k.toNat := by rw [rangeL_len, Int.sub_zero]
    refine ⟨k, rfl, by omega, by omega, for_range (lo := 0) (n := k.toNat) Pv p0 (fun i σ' H' hi q => ?_) (by rw [← el]; exact pd)⟩
    obtain ⟨y, W', R', e1, q1, q2, q3, q4, q5⟩ := ps i σ' H' _ (rangeL_get (by rw [Int.sub_zero]; exact hi)) q
    subst e1
    exact step _ y σ' _ W' R' _ ⟨_, rfl, rfl⟩ q1 q2 q3 q4 q5) hm)
theorem st_while {c : s → WP Bool} {body : s → WP (Ctl s γ)} {f : s → WP β} {r : γ → WP β} {x0 : s} (g : Good e W) (hm : (WP.after (WP.whilst c body x0) f r).run W.n R) (INV : s → L2.St → Wo → Prop) (h0 : INV x0 σ W)
    (hs : ∀ y σ' W', INV y σ' W' → Good e W' ∧ EvT e t σ' W' (c y) ∧ ∀ W1, Gw e W' W1 →
      (∀ R' (nx : L2.St → Hp → Prop), (body y).run W1.n R' → (∀ y' σ'' W'', INV y' σ'' W'' → R' W''.n (.nx y') → nx σ'' W''.H) → (∀ y' σ'' W'', INV y' σ'' W'' → R' W''.n (.bk y') → D.nx σ'' W''.H) → (∀ n x, R' n (.rt x) → (r x).run n R) → tu { D with nx := nx, ct := nx, bk := D.nx } σ' W1.H) ∧ INV y σ' W1)
    (hd : ∀ y σ' W', INV y σ' W' → (f y).run W'.n R → D.nx σ' W'.H) : tWhile t tu D σ W.H := by
  obtain ⟨I, ⟨m0, i0⟩, hI⟩ := hm
  refine ⟨fun m σ' H' => ∃ y W', W'.H = H' ∧ INV y σ' W' ∧ I m W'.n y, ⟨m0, x0, W, rfl, h0, i0⟩, fun m σ' H' ⟨y, W', e1, p, hi⟩ => ?_⟩
  subst e1
  obtain ⟨g', hc, hb⟩ := hs y σ' W' p
  refine hc W' (Gw.refl g') _ ((c y).mono (fun n b hq W1 g1 hn => ?_) (hI m W'.n y hi))
  subst hn
  obtain ⟨hb, hi1⟩ := hb W1 g1
  cases b with
  | true => exact ⟨_, fun _ _ h => h, hb _ _ hq (fun y' σ'' W'' p' ⟨m', lt, q'⟩ => ⟨m', lt, y', W'', rfl, p', q'⟩) (fun y' σ'' W'' p' q' => hd y' σ'' W'' p' q') fun n x q' => q'⟩
  | false => exact hd y σ' W1 hi1 hq
end
end Y

/-! comprehensions -/
namespace Y
open PySem PySem.Spec PyProof.Rows L2
/-- what a comprehension's target leaves -/
def TgN {α : Type} [PyI α] (σ : L2.St) (vs0 : List Nat) (j : Nat) : α → Wo → L2.St → Prop := fun a W s2 => ∃ x, s2 = (wipe σ vs0).set j (some x) ∧ Rp W a x
section
variable {α β γ : Type} {K : PySem.W.Frag} {e : Ef} {σ : L2.St} {W W2 : Wo} {ta tb te tc tl : TE} {t u : TT} {i j k m n : Nat} {v : V} {g : TG} {vs0 : List Nat}
/-- the target takes an item -/
def Takes (val : Wo → α → V → Prop) (g : TG) (σ : L2.St) (vs0 : List Nat) (T : α → Wo → L2.St → Prop) : Prop := ∀ a x W' Q, val W' a x → (∀ s2, T a W' s2 → Q s2 W'.H) → g x (wipe σ vs0) W'.H Q
theorem takes_N [PyI α] : Takes (fun W a x => Rp W a x) (gName j) σ vs0 (TgN (α := α) σ vs0 j) := fun a x W' Q r q => q _ ⟨x, rfl, r⟩
theorem pv_comp {val : Wo → α → V → Prop} [PyI β] {Dl : Addr} {xs : List α} {T : α → Wo → L2.St → Prop} {c : α → WP Bool} {f : α → WP β} {Qd : Hp → Prop} {QQ : Nat → List β → Prop} (hg : Good e W2) (hD : W2.H Dl = none) (hz : xs.length ≤ 100000)
    (ht : Takes val g σ vs0 T) (hw : ∀ a W' s2, T a W' s2 → wipe s2 vs0 = wipe σ vs0) (hc : ∀ a W1 s2, Gw e W2 W1 → T a W1 s2 → EvT e t s2 W1 (c a)) (he : ∀ a W1 s2, Gw e W2 W1 → T a W1 s2 → EvW e te s2 W1 sI (f a))
    (hm : (WP.comp c f xs).run W2.n QQ) (hend : ∀ W' ys vs', Gw e W2 W' → W'.H Dl = some (.lst vs') → ¬ W'.F Dl → Rps W' ys vs' → QQ W'.n ys → Qd W'.H) :
    ∃ Pv : Nat → Hp → Prop, Pv 0 (upd W2.H Dl (.lst [])) ∧ (∀ i H, Pv i H → ∃ W', W'.H = H ∧ Gw e W2 W') ∧
      (∀ i x H a, xs[i]? = some a → (∀ W', Gw e W2 W' → val W' a x) → Pv i H → g x (wipe σ vs0) H fun σ2 H2 => wipe σ2 vs0 = wipe σ vs0 ∧ t σ2 H2 fun b H3 =>
        if b = true then te σ2 H3 fun y H4 => ∃ acc, H4 Dl = some (.lst acc) ∧ acc.length < sizeLine ∧ Pv (i + 1) (upd H4 Dl (.lst (acc ++ [y]))) else Pv (i + 1) H3) ∧ (∀ H, Pv xs.length H → Qd H) := by
  have nS : ¬ e.S Dl := fun s => hg.S Dl s hD
  refine ⟨fun i H => ∃ W' ys vs', W'.H = H ∧ Gw e W2 W' ∧ W'.H Dl = some (.lst vs') ∧ ¬ W'.F Dl ∧ Rps W' ys vs' ∧ ys.length ≤ i ∧ (WP.comp c f (xs.drop i)).run W'.n (fun n zs => QQ n (ys ++ zs)),
    ⟨_, [], [], rfl, Gw.alloc hg hD, upd_same, fun z => (hg.F Dl z).2 hD, .nil, Nat.le_refl _, by rw [List.drop_zero]; exact hm⟩, fun i H ⟨W', ys, vs', e1, q, _⟩ => ⟨W', e1, q⟩, fun i x H a ha hv ⟨W', ys, vs', e1, gw, hl, hF, hr, hlen, q⟩ => ?_, fun H ⟨W', ys, vs', e1, gw, hl, hF, hr, hlen, q⟩ => ?_⟩
  · subst e1
    have hil : i < xs.length := (List.getElem?_eq_some_iff.mp ha).1
    have ed : xs.drop i = a :: xs.drop (i + 1) := by rw [List.drop_eq_getElem_cons hil, (List.getElem?_eq_some_iff.mp ha).2]
    rw [ed] at q
    refine ht a x W' _ (hv W' gw) fun s2 hs2 => ⟨hw a W' s2 hs2, ?_⟩
    refine hc a W' s2 gw hs2 W' (Gw.refl gw.ok) _ ((c a).mono (fun n b hq W3 g3 hn => ?_) q)
    subst hn
    have hl3 := g3.keep _ _ hl nS
    have hF3 : ¬ W3.F Dl := fun z => (g3.new Dl z).elim hF (some_ne hl)
    cases b with
    | true =>
      refine he a W' s2 gw hs2 W3 g3 _ ((f a).mono (fun n y hq v W4 g4 hn r => ?_) hq)
      subst hn
      have hl4 := g4.keep _ _ hl3 nS
      have hF4 : ¬ W4.F Dl := fun z => (g4.new Dl z).elim hF3 (some_ne hl3)
      have s45 := St.mut (u := .lst (vs' ++ [v])) hl4 (fun _ z => by cases z) hF4
      refine ⟨vs', hl4, by rw [← Paired.length hr]; exact sz_lt (by omega), W4.set Dl (.lst (vs' ++ [v])), ys ++ [y], vs' ++ [v], rfl, Gw.mut hg ((gw.trans g3).trans g4) hD hl4 (fun _ z => by cases z) hF4, upd_same, hF4, Paired.snoc (Rps.st ((g3.st.trans g4.st).trans s45) hr) (PyI.st s45 r), by rw [List.length_append, List.length_singleton]; omega, ?_⟩
      exact (WP.comp c f _).mono (fun n zs hq => by rw [List.append_assoc]; exact hq) hq
    | false => exact ⟨W3, ys, vs', rfl, gw.trans g3, hl3, hF3, Rps.st g3.st hr, by omega, hq⟩
  · subst e1
    rw [List.drop_length] at q
    have q : QQ W'.n (ys ++ []) := q
    rw [List.append_nil] at q
    exact hend W' ys vs' gw hl hF hr q
namespace WP
abbrev lc (w : WP (List α)) (c : α → WP Bool) (f : α → WP β) : WP (List β) := w.bind fun xs => (req (xs.length ≤ 100000) xs).bind fun xs => comp c f xs
end WP
theorem et_yes : EvT e tYes σ W (WP.pure true) := fun W1 g Q q => q W1 (Gw.refl g.ok) rfl
/-- over a list -/
theorem ew_lcL [PyI α] [PyI β] {w : WP (List α)} {T : α → Wo → L2.St → Prop} {c : α → WP Bool} {f : α → WP β} (h : EvW e tl σ W (sR (kL α)) w) (ht : Takes (fun W a x => Rp W a x) g σ vs0 T) (hw : ∀ a W' s2, T a W' s2 → wipe s2 vs0 = wipe σ vs0)
    (hc : ∀ a W1 s2, Gw e W W1 → T a W1 s2 → EvT e t s2 W1 (c a)) (he : ∀ a W1 s2, Gw e W W1 → T a W1 s2 → EvW e te s2 W1 sI (f a)) : EvW e (tLc (iList K tl) g t te vs0) σ W (sN (kL β)) (WP.lc w c f) := fun W1 g1 Q q =>
  h W1 g1 _ (w.mono (fun n xs hq v W2 g2 hn ⟨fp, ⟨p, vs, e1, e2, hp, hr⟩, hS⟩ => by
    subst hn; subst e1; subst e2
    refine ⟨p, rfl, ⟨vs, SqL.of hp⟩, fun Dl hD => ?_⟩
    have hSp := hS p (List.mem_singleton.mpr rfl)
    obtain ⟨Pv, p0, pk, ps, pd⟩ := pv_comp (val := fun W a x => Rp W a x) (T := T) (t := t) (te := te) (g := g) (σ := σ) (vs0 := vs0) (Qd := fun H => Q (.ref Dl) H) g2.ok hD hq.1 ht hw (fun a W3 s2 g3 => hc a W3 s2 ((g1.trans g2).trans g3)) (fun a W3 s2 g3 => he a W3 s2 ((g1.trans g2).trans g3)) hq.2 fun W' ys vs' gw hl hF hr' hqq => hqq _ W' (g2.trans gw) rfl ⟨[Dl], ⟨Dl, vs', rfl, rfl, hl, hr'⟩, fun b mb => by
      cases List.mem_singleton.mp mb
      exact ⟨g2.live _ hD, fun s => g2.ok.S _ s hD, hF⟩⟩
    exact lc_list (xs := vs) Pv p0 (fun i H _ pp => by
      obtain ⟨W', e1, gw⟩ := pk i H pp
      subst e1
      exact SqL.of (gw.keep _ _ hp hSp)) (fun i x H hi pp => by
      obtain ⟨a, ha, ra⟩ := hr.getV hi
      exact ps i x H a ha (fun W' gw => PyI.st gw.st ra) pp) (by rw [← Paired.length hr]; exact pd)) q)
/-- over range(n) -/
theorem ew_lcR [PyI β] {w : WP Int} {T : Int → Wo → L2.St → Prop} {c : Int → WP Bool} {f : Int → WP β} (h : EvW e ta σ W sI w) (ht : Takes (fun W a x => Rp W a x) g σ vs0 T) (hw : ∀ a W' s2, T a W' s2 → wipe s2 vs0 = wipe σ vs0)
    (hc : ∀ a W1 s2, Gw e W W1 → T a W1 s2 → EvT e t s2 W1 (c a)) (he : ∀ a W1 s2, Gw e W W1 → T a W1 s2 → EvW e te s2 W1 sI (f a)) : EvW e (tLc (iRng1 (tCons ta tNil)) g t te vs0) σ W (sN (kL β)) (WP.lc (WP.range1 w) c f) := fun W1 g1 Q q =>
  h W1 g1 _ (w.mono (fun n k hq v W2 g2 hn r => by
    subst hn; cases r
    obtain ⟨⟨b1, b2⟩, hz, hq⟩ := hq
    refine ⟨k, rfl, by omega, by omega, fun Dl hD => ?_⟩
    obtain ⟨Pv, p0, pk, ps, pd⟩ := pv_comp (val := fun W a x => Rp W a x) (T := T) (t := t) (te := te) (g := g) (σ := σ) (vs0 := vs0) (Qd := fun H => Q (.ref Dl) H) g2.ok hD hz ht hw (fun a W3 s2 g3 => hc a W3 s2 ((g1.trans g2).trans g3)) (fun a W3 s2 g3 => he a W3 s2 ((g1.trans g2).trans g3)) hq fun W' ys vs' gw hl hF hr' hqq => hqq _ W' (g2.trans gw) rfl ⟨[Dl], ⟨Dl, vs', rfl, rfl, hl, hr'⟩, fun b mb => by
      cases List.mem_singleton.mp mb
      exact ⟨g2.live _ hD, fun s => g2.ok.S _ s hD, hF⟩⟩
    have el : (rangeL 0 k).length = k.toNat := by rw [rangeL_len, Int.sub_zero]
    exact lc_range (lo := 0) (n := k.toNat) Pv p0 (fun i H hi pp => by
      have e0 : (0 : Int) + (i : Int) = (i : Int) := Int.zero_add _
      exact ps i _ H _ (rangeL_get (by rw [Int.sub_zero]; exact hi)) (fun W' gw => rfl) pp) (by rw [← el]; exact pd)) q)
end
end Y

/-! deals -/
namespace Y
open PySem PySem.Spec PyProof.Rows L2
structure Dl where
  p : Addr
  l1 : Addr
  l2 : Addr
  row : List Int
  tot : Int
structure Dl.At (d : Dl) (H : Hp) (n : Nat) : Prop where
  p : H d.p = some (.lst [.ref d.l1, .ref d.l2, .int d.tot])
  l1 : H d.l1 = some (.lst (d.row.map V.int))
  n : H d.l2 = some (.lst [.int (n : Int)])
  np : d.p ≠ d.l2
  n1 : d.l1 ≠ d.l2
def efD (d : Dl) : Ef where
  S := fun a => a = d.l2
  T := fun a => a = d.p ∨ a = d.l1 ∨ a = d.l2
  ok := d.At
  num := fun a b => a ≤ b
  num_refl := fun _ => Nat.le_refl _
  num_trans := fun a b => Nat.le_trans a b
  ok_T := fun h k => ⟨k _ _ (.inl rfl) h.p, k _ _ (.inr (.inl rfl)) h.l1, k _ _ (.inr (.inr rfl)) h.n, h.np, h.n1⟩
  ok_live := fun h t => by
    rcases t with t | t | t
    · subst t; exact some_ne h.p
    · subst t; exact some_ne h.l1
    · subst t; exact some_ne h.n
/-- the deal itself as an argument -/
def sD {e : Ef} (d : Dl) : Rs e Unit := ⟨fun _ _ _ v => v = .ref d.p, fun _ h => h, fun _ h => h⟩
section
variable {α β γ δ : Type} {K : PySem.W.Frag} {e : Ef} {d : Dl} {σ : L2.St} {W : Wo} {ta tb te tc t0 t1 : TE} {t u : TT} {i j k m n : Nat} {v : V} {E : XK}
theorem ew_deal {i : Nat} (h : σ[i]? = some (some (.ref d.p))) : EvW e (tVar i) σ W (sD d) (WP.pure ()) := fun W1 g Q q => ⟨_, h, q _ W1 (Gw.refl g.ok) rfl rfl⟩
def sp_take : Sp := fun vs H Q _ => ∃ (d : Dl) (W : Wo) (many : Int), vs = [.ref d.p, .int many] ∧ W.H = H ∧ Good (efD d) W ∧ (WP.take many).run W.n (fun n x => ∀ v W', Gw (efD d) W W' → W'.n = n → v = .int x → Q v W'.H)
/-- a draw -/
abbrev m_take (_ : Unit) (x : Int) : WP Int := WP.take x
theorem ev_take {w0 : WP Unit} {w : WP Int} (h0 : EvW (efD d) t0 σ W (sD d) w0) (h1 : EvW (efD d) t1 σ W sI w) : EvW (efD d) (tCall sp_take [] E (tCons t0 (tCons t1 tNil))) σ W sI (WP.b2 w0 w m_take) :=
  ew_call2 h0 h1 fun W2 a b x y g2 r1 r2 Q q E => by
    cases r1; cases r2
    exact ⟨d, W2, b, rfl, rfl, g2, (WP.take b).mono (fun n x h v W' g' hn r => h v W' g' hn r) q⟩
/-- the world behind a draw -/
theorem drawn {d : Dl} {W : Wo} (g : Good (efD d) W) : Gw (efD d) W ⟨upd W.H d.l2 (.lst [.int ((W.n : Int) + 1)]), W.F, W.n + 1⟩ := by
  have hn := g.ok.n
  have keep : ∀ a o, W.H a = some o → a ≠ d.l2 → (upd W.H d.l2 (.lst [.int ((W.n : Int) + 1)])) a = some o := fun a o h n => by rw [upd_ne n]; exact h
  have live : ∀ a, W.H a ≠ none → (upd W.H d.l2 (.lst [.int ((W.n : Int) + 1)])) a ≠ none := fun a h => by
    by_cases e1 : a = d.l2
    · subst e1; rw [upd_same]; exact fun z => by cases z
    · rw [upd_ne e1]; exact h
  refine ⟨keep, ⟨fun a xs h => keep a _ h (fun z => by rw [z, hn] at h; cases h), fun _ h => h, fun a o f h => keep a o h (g.F a f).1⟩, fun _ f => .inl f, fun a h => ?_, Nat.le_succ _, ⟨fun a f => ⟨(g.F a f).1, live a (g.F a f).2⟩, fun a s => live a (g.S a s), ⟨keep _ _ g.ok.p g.ok.np, keep _ _ g.ok.l1 g.ok.n1, ?_, g.ok.np, g.ok.n1⟩⟩⟩
  · cases q : W.H a with
    | none => rfl
    | some o => exact absurd h (live a (some_ne q))
  · show (upd W.H d.l2 _) d.l2 = _
    rw [upd_same]; rfl
end
/-! ### dicts, their keys squares -/
abbrev Sq := Int × Int
def kSq (q : Sq) : List Key := [.inl q.1, .inl q.2]
theorem kSq_inj {p q : Sq} : kSq p = kSq q ↔ p = q := by
  unfold kSq
  constructor
  · intro h
    injection h with h1 h2
    injection h2 with h2 _
    injection h1 with h1
    injection h2 with h2
    exact Prod.ext h1 h2
  · intro h; rw [h]
section
variable {β : Type}
def lookK (kvs : List (Sq × β)) (q : Sq) : Option β := (kvs.find? fun p => decide (p.1 = q)).map (·.2)
def hasK (kvs : List (Sq × β)) (q : Sq) : Bool := (lookK kvs q).isSome
def getK [Inhabited β] (kvs : List (Sq × β)) (q : Sq) : β := (lookK kvs q).getD default
def putQ (kvs : List (Sq × β)) (q : Sq) (b : β) : List (Sq × β) := if hasK kvs q then kvs.map (fun p => if p.1 = q then (p.1, b) else p) else kvs ++ [(q, b)]
end
def Kv {β : Type} [PyI β] (W : Wo) (kv : Sq × β) (k : List Key × V) : Prop := k.1 = kSq kv.1 ∧ Rp W kv.2 k.2
/-- a dict from squares -/
def kD (β : Type) [PyI β] : Kd (List (Sq × β)) where
  own := fun W fp kvs v => ∃ p ks, fp = [p] ∧ v = .ref p ∧ W.H p = some (.dT ks) ∧ Paired (Kv W) kvs ks
  st := fun s c ⟨p, ks, h1, h2, h3, h4⟩ => ⟨p, ks, h1, h2, c p (by rw [h1]; exact List.mem_singleton.mpr rfl) _ h3, Paired.imp (fun a b h => ⟨h.1, PyI.st s h.2⟩) h4⟩
  live := fun ⟨p, ks, h1, h2, h3, h4⟩ a ha => by
    rw [h1] at ha
    cases List.mem_singleton.mp ha
    exact some_ne h3
theorem Rd.kp {H H' : Hp} {p : Addr} {u : HO} (c : ∀ o, H p = some o → H' p = some o) (h : Rd H p u) : Rd H' p u := h.elim (fun h => .inl (c _ h)) fun ⟨o, h⟩ => .inr ⟨o, c _ h⟩
theorem DGet.r {H : Hp} {a b : Addr} {kvs : List (List Key × V)} {k : List Key} (e : Rd H a (.dT kvs)) (eb : H b = some (.tup (k.map kV))) : DGet H a (.ref b) (valV kvs k) := .inr ⟨kvs, k, b, e, rfl, eb, rfl⟩
/-- a dict from squares that is read alone -/
def kDr (β : Type) [PyI β] : Kd (List (Sq × β)) where
  own := fun W fp kvs v => ∃ p ks, fp = [p] ∧ v = .ref p ∧ Rd W.H p (.dT ks) ∧ Paired (Kv W) kvs ks
  st := fun s c ⟨p, ks, h1, h2, h3, h4⟩ => ⟨p, ks, h1, h2, Rd.kp (c p (by rw [h1]; exact List.mem_singleton.mpr rfl)) h3, Paired.imp (fun a b h => ⟨h.1, PyI.st s h.2⟩) h4⟩
  live := fun ⟨p, ks, h1, h2, h3, h4⟩ a ha => by
    rw [h1] at ha
    cases List.mem_singleton.mp ha
    rcases h3 with h3 | ⟨_, h3⟩
    · exact some_ne h3
    · exact some_ne h3
section
variable {α β γ δ : Type} [PyI β] {K : PySem.W.Frag} {e : Ef} {σ : L2.St} {W : Wo} {ta tb te tc td ty tx tk tv : TE} {t u : TT} {i j k m n : Nat} {v : V} {D : Ends} {tz : TS} {R : Nat → γ → Prop}
theorem look_kv {kvs : List (Sq × β)} {ks : List (List Key × V)} (h : Paired (Kv W) kvs ks) (q : Sq) : (lookK kvs q = none ∧ valV ks (kSq q) = none) ∨ ∃ b v, lookK kvs q = some b ∧ valV ks (kSq q) = some v ∧ Rp W b v := by
  unfold lookK valV
  induction h with
  | nil => exact .inl ⟨rfl, rfl⟩
  | @cons a b as bs r t ih =>
    obtain ⟨r1, r2⟩ := r
    by_cases hq : a.1 = q
    · refine .inr ⟨a.2, b.2, ?_, ?_, r2⟩
      · rw [List.find?_cons_of_pos (by simpa using hq)]; rfl
      · rw [List.find?_cons_of_pos (by rw [r1, hq]; simp)]; rfl
    · rw [List.find?_cons_of_neg (by simpa using hq), List.find?_cons_of_neg (by rw [r1]; simpa using fun z => hq (kSq_inj.mp z))]
      exact ih
theorem rp_key {q : Sq} {x : V} (h : Rp W q x) : ∃ b, x = .ref b ∧ W.H b = some (.tup ((kSq q).map kV)) := by
  obtain ⟨p, a, b, h1, h2, h3, h4⟩ := h
  cases h3; cases h4
  exact ⟨p, h1, h2⟩
theorem has_kv {kvs : List (Sq × β)} {q : Sq} : (kvs.any fun kv => decide (kv.1 = q)) = hasK kvs q := by
  unfold hasK lookK
  induction kvs with
  | nil => rfl
  | cons a as ih =>
    rw [List.any_cons, ih]
    by_cases hq : a.1 = q
    · rw [List.find?_cons_of_pos (by simpa using hq)]; simp [hq]
    · rw [List.find?_cons_of_neg (by simpa using hq)]; simp [hq]
theorem put_kv {kvs : List (Sq × β)} {ks : List (List Key × V)} {b : β} (h : Paired (Kv W) kvs ks) (q : Sq) (r : Rp W b v) : Paired (Kv W) (putQ kvs q b) (putK ks (kSq q) v) := by
  have e1 : (ks.any fun kv => decide (kv.1 = kSq q)) = hasK kvs q := by
    rw [← has_kv]
    clear r
    induction h with
    | nil => rfl
    | @cons a b as bs r t ih =>
      rw [List.any_cons, List.any_cons, ih, r.1]
      by_cases hq : a.1 = q
      · simp [hq]
      · rw [decide_eq_false hq, decide_eq_false (fun z => hq (kSq_inj.mp z))]
  unfold putQ putK
  rw [e1]
  clear e1
  cases hasK kvs q with
  | true =>
    rw [if_pos rfl, if_pos rfl]
    induction h with
    | nil => exact .nil
    | @cons a c as cs r2 t ih =>
      refine .cons ?_ ih
      obtain ⟨r3, r4⟩ := r2
      by_cases hq : a.1 = q
      · show Kv W (if a.1 = q then (a.1, b) else a) (if c.1 = kSq q then (c.1, v) else c)
        rw [if_pos hq, if_pos (by rw [r3, hq])]
        exact ⟨r3, r⟩
      · show Kv W (if a.1 = q then (a.1, b) else a) (if c.1 = kSq q then (c.1, v) else c)
        rw [if_neg hq, if_neg (fun z => hq (kSq_inj.mp (r3.symm.trans z)))]
        exact ⟨r3, r4⟩
  | false =>
    rw [if_neg Bool.false_ne_true, if_neg Bool.false_ne_true]
    exact Paired.snoc h ⟨rfl, r⟩
namespace WP
abbrev din (q : WP Sq) (kvs : WP (List (Sq × β))) : WP Bool := b2 q kvs fun x d => pure (hasK d x)
abbrev dget [Inhabited β] (kvs : WP (List (Sq × β))) (q : WP Sq) : WP β := b2 kvs q fun d x => req (hasK d x = true) (getK d x)
end WP
theorem ew_din {w1 : WP Sq} {w2 : WP (List (Sq × β))} (hk : EvW e ty σ W sI w1) (hd : EvW e td σ W (sR (kDr β)) w2) : EvW e (tDIn ty td) σ W sI (WP.din w1 w2) := fun W1 g Q q =>
  hk W1 g _ (w1.mono (fun n x hq y W2 g2 hn r => by
    subst hn
    refine hd W2 (g.trans g2) _ (w2.mono (fun n d hq v W3 g3 hn r2 => ?_) hq)
    obtain ⟨fp, ⟨p, ks, _, h2, h3, h4⟩, _⟩ := r2
    obtain ⟨b, e1, e2⟩ := rp_key (PyI.st g3.st r)
    subst e1; subst h2
    refine ⟨p, _, rfl, DGet.r h3 e2, hq _ W3 (g2.trans g3) hn ?_⟩
    show V.bl _ = V.bl _
    unfold hasK
    rcases look_kv h4 x with ⟨a1, a2⟩ | ⟨b1, v1, a1, a2, _⟩
    · rw [a1, a2]; rfl
    · rw [a1, a2]; rfl) q)
theorem ew_dnotin {w1 : WP Sq} {w2 : WP (List (Sq × β))} (hk : EvW e ty σ W sI w1) (hd : EvW e td σ W (sR (kDr β)) w2) : EvW e (tDNotIn ty td) σ W sI (WP.not (WP.din w1 w2)) := fun W1 g Q q =>
  hk W1 g _ (w1.mono (fun n x hq y W2 g2 hn r => by
    subst hn
    refine hd W2 (g.trans g2) _ (w2.mono (fun n d hq v W3 g3 hn r2 => ?_) hq)
    obtain ⟨fp, ⟨p, ks, _, h2, h3, h4⟩, _⟩ := r2
    obtain ⟨b, e1, e2⟩ := rp_key (PyI.st g3.st r)
    subst e1; subst h2
    refine ⟨p, _, rfl, DGet.r h3 e2, hq _ W3 (g2.trans g3) hn ?_⟩
    show V.bl _ = V.bl _
    unfold hasK
    rcases look_kv h4 x with ⟨a1, a2⟩ | ⟨b1, v1, a1, a2, _⟩
    · rw [a1, a2]; rfl
    · rw [a1, a2]; rfl) q)
theorem ew_dget [Inhabited β] {w1 : WP Sq} {w2 : WP (List (Sq × β))} (hd : EvW e td σ W (sR (kDr β)) w2) (hk : EvW e ty σ W sI w1) : EvW e (tDGet td ty) σ W sI (WP.dget w2 w1) := fun W1 g Q q =>
  hd W1 g _ (w2.mono (fun n d hq v W2 g2 hn r2 => by
    subst hn
    refine hk W2 (g.trans g2) _ (w1.mono (fun n x hq y W3 g3 hn r => ?_) hq)
    obtain ⟨fp, ⟨p, ks, _, h2, h3, h4⟩, _⟩ := (sR (kDr β)).stay g3 r2
    obtain ⟨b, e1, e2⟩ := rp_key r
    subst e1; subst h2
    rcases look_kv h4 x with ⟨a1, a2⟩ | ⟨b1, v1, a1, a2, rv⟩
    · have := hq.1
      unfold hasK at this
      rw [a1] at this
      cases this
    · have hg := DGet.r h3 e2
      rw [a2] at hg
      refine ⟨p, v1, rfl, hg, hq.2 _ W3 (g2.trans g3) hn ?_⟩
      unfold getK
      rw [a1]; exact rv) q)
/-- d[k] = v -/
theorem st_dput {W0 : Wo} {fp : List Addr} {kvs : List (Sq × β)} {vx : V} {iv : Nat} {w1 : WP β} {w2 : WP Sq} {f : List (Sq × β) → WP γ} (g00 : Good e W0) (g0 : Gw e W0 W) (hv : σ[iv]? = some (some vx)) (ho : Var (kD β) W0 W fp kvs vx) (h1 : EvW e tv σ W sI w1) (h2 : EvW e ty σ W sI w2)
    (hm : ((WP.b2 w1 w2 fun b q => WP.req (kvs.length < 100000) (putQ kvs q b)).bind f).run W.n R)
    (q : ∀ ys W1 W2 l, fp = [l] → Gw e W W1 → St W1 W2 → Gw e W0 W2 → (∀ fp' W9, Kp fp' W9 W1 → (∀ b ∈ fp', b ∉ fp) → Kp fp' W9 W2) → (∀ b, W2.F b → W1.F b) → Var (kD β) W0 W2 fp ys vx → (f ys).run W2.n R → D.nx σ W2.H) : sDPut (tVar iv) ty tv D σ W.H := by
  obtain ⟨⟨l, vs, e1, e2, h3, h4⟩, fr, nF⟩ := ho
  subst e1; subst e2
  have m0 : l ∈ [l] := List.mem_singleton.mpr rfl
  refine h1 W (Gw.refl g0.ok) _ (w1.mono (fun n b r x W1 g1 hn p1 => ?_) hm)
  subst hn
  refine ⟨_, hv, h2 W1 g1 _ (w2.mono (fun n k r y W2 g2 hn p2 => ?_) r)⟩
  subst hn
  have g12 := g1.trans g2
  have hl1 : W2.H l = some (.dT vs) := g12.keep _ _ h3 fun s => g00.S l s (fr l m0)
  have hF1 : ¬ W2.F l := fun f => (g12.new l f).elim (nF l m0) (some_ne h3)
  obtain ⟨bk, f1, f2⟩ := rp_key p2
  subst f1
  have s12 := St.mut (u := .dT (putK vs (kSq k) x)) hl1 (fun _ z => by cases z) hF1
  refine ⟨l, _, rfl, DPut.t hl1 f2 (by rw [← Paired.length h4]; exact sz_lt r.1), ?_⟩
  refine q (putQ kvs k b) W2 (W2.set l (.dT (putK vs (kSq k) x))) l rfl g12 s12 (Gw.mut g00 (g0.trans g12) (fr l m0) hl1 (fun _ z => by cases z) hF1) (fun fp' W9 kk d => kk.upd fun b m z => d b m (by rw [z]; exact m0)) (fun _ f => f) ⟨⟨l, _, rfl, rfl, upd_same, ?_⟩, fr, fun b m => by cases List.mem_singleton.mp m; exact hF1⟩ r.2
  have h5 : Paired (Kv (W2.set l (.dT (putK vs (kSq k) x)))) kvs vs := Paired.imp (fun a b h => ⟨h.1, PyI.st (g12.st.trans s12) h.2⟩) h4
  exact put_kv h5 k (PyI.st (g2.st.trans s12) p1)
theorem q_dput {W0 : Wo} {fp : List Addr} {kvs : List (Sq × β)} {vx : V} {iv : Nat} {w1 : WP β} {w2 : WP Sq} {f : List (Sq × β) → WP γ} (g00 : Good e W0) (g0 : Gw e W0 W) (hv : σ[iv]? = some (some vx)) (ho : Var (kD β) W0 W fp kvs vx) (h1 : EvW e tv σ W sI w1) (h2 : EvW e ty σ W sI w2)
    (hm : ((WP.b2 w1 w2 fun b q => WP.req (kvs.length < 100000) (putQ kvs q b)).bind f).run W.n R)
    (q : ∀ ys W1 W2 l, fp = [l] → Gw e W W1 → St W1 W2 → Gw e W0 W2 → (∀ fp' W9, Kp fp' W9 W1 → (∀ b ∈ fp', b ∉ fp) → Kp fp' W9 W2) → (∀ b, W2.F b → W1.F b) → Var (kD β) W0 W2 fp ys vx → (f ys).run W2.n R → tz D σ W2.H) : tSeq (sDPut (tVar iv) ty tv) tz D σ W.H := st_dput (D := { D with nx := tz D }) g00 g0 hv ho h1 h2 hm q
/-- {} and {k: v} -/
theorem ew_dnew : EvW e tDNewT σ W (sN (kD β)) (WP.pure ([] : List (Sq × β))) := fun W1 g Q q p hp =>
  q _ _ (Gw.alloc g.ok hp) rfl ⟨[p], ⟨p, [], rfl, rfl, upd_same, .nil⟩, fun a m => by
    cases List.mem_singleton.mp m
    exact ⟨hp, fun s => g.ok.S p s hp, fun f => (g.ok.F p f).2 hp⟩⟩
def tDisp1 (tk tv : TE) : TE := fun σ H Q => ∀ p, H p = none → tk σ (upd H p (.dT [])) fun x H1 => tv σ H1 fun y H2 => ∃ b key, x = .ref b ∧ H2 b = some (.tup (key.map kV)) ∧ H2 p = some (.dT []) ∧ Q (.ref p) (upd H2 p (.dT [(key, y)]))
theorem ew_disp1 {w1 : WP Sq} {w2 : WP β} (hk : EvW e tk σ W sI w1) (hv : EvW e tv σ W sI w2) : EvW e (tDisp1 tk tv) σ W (sN (kD β)) (WP.b2 w1 w2 fun x b => WP.pure [(x, b)]) := fun W1 g Q q p hp => by
  have ga := Gw.alloc (o := .dT []) g.ok hp
  have nS : ¬ e.S p := fun s => g.ok.S p s hp
  refine hk ⟨upd W1.H p (.dT []), W1.F, W1.n⟩ (g.trans ga) _ (w1.mono (fun n x hq vx W2 g2 hn rx => ?_) q)
  subst hn
  refine hv W2 ((g.trans ga).trans g2) _ (w2.mono (fun n b hq vy W3 g3 hn ry => ?_) hq)
  obtain ⟨kb, e1, e2⟩ := rp_key (PyI.st g3.st rx)
  subst e1
  have hp3 : W3.H p = some (.dT []) := (g2.trans g3).keep _ _ upd_same nS
  have hF : ¬ W3.F p := fun f => ((g2.trans g3).new p f).elim (fun f => (g.ok.F p f).2 hp) fun z => by
    have : (upd W1.H p (.dT [])) p = none := z
    rw [upd_same] at this
    cases this
  have s := St.mut (u := .dT [(kSq x, vy)]) hp3 (fun _ z => by cases z) hF
  refine ⟨kb, kSq x, rfl, e2, hp3, hq _ (W3.set p (.dT [(kSq x, vy)])) (Gw.mut g.ok ((ga.trans g2).trans g3) hp hp3 (fun _ z => by cases z) hF) hn ⟨[p], ⟨p, _, rfl, rfl, upd_same, .cons ⟨rfl, PyI.st s ry⟩ .nil⟩, fun a m => ?_⟩⟩
  cases List.mem_singleton.mp m
  exact ⟨hp, nS, hF⟩
end
theorem pe_disp1T {X : Cx} {pos : Pos} {k v : Expr} {tk tv : TE} (hu : X.A.units + 1 < cLine) (hk : PE X k tk) (hv : PE X v tv) : PE X (.Dict [some k] [v] pos) (tDisp1 tk tv) := by
  refine ⟨fun pins s σ H Q I q => ?_⟩
  have hn := I.hok.fresh (Nat.le_refl s.heap.objs.size)
  have I1 := I.laid (a := s.heap.objs.size) (o := .dT []) (h' := s.heap.push { cls := .type "dict", data := .dict #[] }) (t' := s.toks) (fun _ _ q => Heap.get?_push_of_some _ q) (Nat.le_refl _) (dt_empty s.heap I.big)
  have hshape : (evalEachOpt [some k] X.env).zip ((evalEach [v] X.env).map fun v => do let x ← v; standAt pos; pure x) = (pairTrees [some k] [v] X.env pos).map fun p => (some p.1, p.2) := rfl
  have hl1 : (pairTrees [some k] [v] X.env pos).length = 1 := rfl
  have h0 : pairTrees [some k] [v] X.env pos ≠ [] := fun z => by rw [z] at hl1; cases hl1
  rw [arm_eval_Dict, hshape, dictDisplay_pairs (pairTrees [some k] [v] X.env pos) h0 (by omega)]
  refine wpAny_bind (wpAny_standAt (wpAny_bind (wpAny_subDictH (knd := tupleKind (mixKind X.prog X.w)) (Q := fun d s' => wpAny (model X.prog X.w) X.A (pure (Value.ref d)) (EP X pins σ Q) X.xe s') (show X.A.units < cLine by omega) (by omega) ?_)))
  refine thn ((pps_cons hk hv (pps_nil (pos := pos))).run pins _ σ _ (fun ps H2 => match ps with
    | [(x, y)] => ∃ b key, x = .ref b ∧ H2 b = some (.tup (key.map kV)) ∧ H2 s.heap.objs.size = some (.dT []) ∧ Q (.ref s.heap.objs.size) (upd H2 s.heap.objs.size (.dT [(key, y)]))
    | _ => False) I1 (q _ hn)) fun vs s2 ⟨ps, H2, I2, rel, hq⟩ => ?_
  cases rel with
  | nil => exact hq.elim
  | @cons p pv ps vs h t =>
    cases t with
    | cons _ _ => exact hq.elim
    | nil =>
      obtain ⟨x, y⟩ := p
      obtain ⟨u, r⟩ := pv
      obtain ⟨r1, r2⟩ := h
      obtain ⟨b, key, hx, hb, hp, hq⟩ := hq
      cases hx
      cases (show u = Value.ref b from r1)
      obtain ⟨z, hd, xs, kt, dd⟩ := dt_of I2.hok hp
      cases kt
      refine ⟨[(key, b, r)], ⟨rfl, rfl, key_of I2.hok hb, True.intro⟩, dd, fun h' tk dd' hs => wpAny_pure ⟨.ref s.heap.objs.size, _, ?_, rfl, hq⟩⟩
      obtain ⟨q, es, ep, hq', h2, h3, h4, _, h5⟩ := dd'
      refine d_write I2 (by rw [hp]; exact True.intro) hs ⟨q, hq'⟩ ⟨by show 1 ≤ sizeLine; decide, hd, [(key, b, r)], .cons ⟨rfl, ?_, r2⟩ .nil, q, es, ep, hq', h2, h3, h4, h5⟩
      rw [upd_ne (L2.ne_of hb hp (fun z => nomatch z))]
      exact hb
end Y

namespace Y
open PySem PySem.Spec PyProof.Rows L2
namespace WP
abbrev b4 {α0 α1 α2 α3 γ : Type} (w0 : WP α0) (w1 : WP α1) (w2 : WP α2) (w3 : WP α3) (m : α0 → α1 → α2 → α3 → WP γ) : WP γ := w0.bind fun y0 => w1.bind fun y1 => w2.bind fun y2 => w3.bind fun y3 => m y0 y1 y2 y3
abbrev b5 {α0 α1 α2 α3 α4 γ : Type} (w0 : WP α0) (w1 : WP α1) (w2 : WP α2) (w3 : WP α3) (w4 : WP α4) (m : α0 → α1 → α2 → α3 → α4 → WP γ) : WP γ := w0.bind fun y0 => w1.bind fun y1 => w2.bind fun y2 => w3.bind fun y3 => w4.bind fun y4 => m y0 y1 y2 y3 y4
abbrev b1 {α γ : Type} (w : WP α) (m : α → WP γ) : WP γ := w.bind m
end WP
theorem ew_call1N {α0 γ : Type} {e : Ef} {σ : L2.St} {W : Wo} {t0 : TE} {sp : Sp} {E : XK} {ρ0 : Rs e α0} {ρ : Rs e γ} {w0 : WP α0} {m : α0 → WP γ} (h0 : EvW e t0 σ W ρ0 w0)
    (hm : ∀ W2 a0 x0, Good e W2 → ρ0.post W2 W2 a0 x0 → ∀ Q : VK, (m a0).run W2.n (fun n b => ∀ v W3, Gw e W2 W3 → W3.n = n → ρ.post W2 W3 b v → Q v W3.H) → ∀ E, sp [x0] W2.H Q E)
    (n0 : ∀ {W1 W2 a x}, ρ0.post W1 W2 a x → ρ0.post W2 W2 a x := by intros; assumption)
    : EvW e (tCall sp [] E (tCons t0 tNil)) σ W ρ (WP.b1 w0 m) := fun W1 g Q q => by
  refine h0 W1 g _ (w0.mono (fun n a0 q x0 V0 g0 hn r0 => ?_) q)
  subst hn
  have gg1 := g0
  exact hm V0 a0 x0 gg1.ok (n0 r0) Q ((m a0).mono (fun n b h v W5 g5 hn r5 => h v W5 (gg1.trans g5) hn (ρ.back gg1 r5)) q) E
theorem ew_call2N {α0 α1 γ : Type} {e : Ef} {σ : L2.St} {W : Wo} {t0 t1 : TE} {sp : Sp} {E : XK} {ρ0 : Rs e α0} {ρ1 : Rs e α1} {ρ : Rs e γ} {w0 : WP α0} {w1 : WP α1} {m : α0 → α1 → WP γ} (h0 : EvW e t0 σ W ρ0 w0) (h1 : EvW e t1 σ W ρ1 w1)
    (hm : ∀ W2 a0 a1 x0 x1, Good e W2 → ρ0.post W2 W2 a0 x0 → ρ1.post W2 W2 a1 x1 → ∀ Q : VK, (m a0 a1).run W2.n (fun n b => ∀ v W3, Gw e W2 W3 → W3.n = n → ρ.post W2 W3 b v → Q v W3.H) → ∀ E, sp [x0, x1] W2.H Q E)
    (n0 : ∀ {W1 W2 a x}, ρ0.post W1 W2 a x → ρ0.post W2 W2 a x := by intros; assumption) (n1 : ∀ {W1 W2 a x}, ρ1.post W1 W2 a x → ρ1.post W2 W2 a x := by intros; assumption)
    : EvW e (tCall sp [] E (tCons t0 (tCons t1 tNil))) σ W ρ (WP.b2 w0 w1 m) := fun W1 g Q q => by
  refine h0 W1 g _ (w0.mono (fun n a0 q x0 V0 g0 hn r0 => ?_) q)
  subst hn
  have gg1 := g0
  refine h1 V0 (g.trans gg1) _ (w1.mono (fun n a1 q x1 V1 g1 hn r1 => ?_) q)
  subst hn
  have gg2 := gg1.trans g1
  have r0 := ρ0.stay g1 r0
  exact hm V1 a0 a1 x0 x1 gg2.ok (n0 r0) (n1 r1) Q ((m a0 a1).mono (fun n b h v W5 g5 hn r5 => h v W5 (gg2.trans g5) hn (ρ.back gg2 r5)) q) E
theorem ew_call3N {α0 α1 α2 γ : Type} {e : Ef} {σ : L2.St} {W : Wo} {t0 t1 t2 : TE} {sp : Sp} {E : XK} {ρ0 : Rs e α0} {ρ1 : Rs e α1} {ρ2 : Rs e α2} {ρ : Rs e γ} {w0 : WP α0} {w1 : WP α1} {w2 : WP α2} {m : α0 → α1 → α2 → WP γ} (h0 : EvW e t0 σ W ρ0 w0) (h1 : EvW e t1 σ W ρ1 w1) (h2 : EvW e t2 σ W ρ2 w2)
    (hm : ∀ W2 a0 a1 a2 x0 x1 x2, Good e W2 → ρ0.post W2 W2 a0 x0 → ρ1.post W2 W2 a1 x1 → ρ2.post W2 W2 a2 x2 → ∀ Q : VK, (m a0 a1 a2).run W2.n (fun n b => ∀ v W3, Gw e W2 W3 → W3.n = n → ρ.post W2 W3 b v → Q v W3.H) → ∀ E, sp [x0, x1, x2] W2.H Q E)
    (n0 : ∀ {W1 W2 a x}, ρ0.post W1 W2 a x → ρ0.post W2 W2 a x := by intros; assumption) (n1 : ∀ {W1 W2 a x}, ρ1.post W1 W2 a x → ρ1.post W2 W2 a x := by intros; assumption) (n2 : ∀ {W1 W2 a x}, ρ2.post W1 W2 a x → ρ2.post W2 W2 a x := by intros; assumption)
    : EvW e (tCall sp [] E (tCons t0 (tCons t1 (tCons t2 tNil)))) σ W ρ (WP.b3 w0 w1 w2 m) := fun W1 g Q q => by
  refine h0 W1 g _ (w0.mono (fun n a0 q x0 V0 g0 hn r0 => ?_) q)
  subst hn
  have gg1 := g0
  refine h1 V0 (g.trans gg1) _ (w1.mono (fun n a1 q x1 V1 g1 hn r1 => ?_) q)
  subst hn
  have gg2 := gg1.trans g1
  have r0 := ρ0.stay g1 r0
  refine h2 V1 (g.trans gg2) _ (w2.mono (fun n a2 q x2 V2 g2 hn r2 => ?_) q)
  subst hn
  have gg3 := gg2.trans g2
  have r0 := ρ0.stay g2 r0
  have r1 := ρ1.stay g2 r1
  exact hm V2 a0 a1 a2 x0 x1 x2 gg3.ok (n0 r0) (n1 r1) (n2 r2) Q ((m a0 a1 a2).mono (fun n b h v W5 g5 hn r5 => h v W5 (gg3.trans g5) hn (ρ.back gg3 r5)) q) E
theorem Var.nS {κ : Type} {k : Kd κ} {e : Ef} {W0 W : Wo} {fp : List Addr} {x : κ} {v : V} (g : Good e W0) (h : Var k W0 W fp x v) : ∀ a ∈ fp, ¬ e.S a := fun a m s => g.S a s (h.fr a m)
/-- the result of a pure def, told where more may happen -/
theorem sN_up {κ : Type} {k : Kd κ} {e : Ef} {W W' : Wo} {x : κ} {v : V} (g : Good e W) (h : (sN (e := ef0) k).post W W' x v) : (sN (e := e) k).post W W' x v := by
  obtain ⟨fp, h1, h2⟩ := h
  exact ⟨fp, h1, fun a m => ⟨(h2 a m).1, fun s => g.S a s (h2 a m).1, (h2 a m).2.2⟩⟩
end Y

namespace Y
open PySem PySem.Spec PyProof.Rows L2
section
variable {α β γ δ s ρ' : Type} {K : PySem.W.Frag} {e : Ef} {σ : L2.St} {W : Wo} {ta tb te tc tl : TE} {t u : TT} {i j k m n : Nat} {v : V} {D : Ends} {tu tw tz : TS} {ρ : Rs e α} {w : WP α} {R : Nat → β → Prop}
theorem q_forV [PyI α] {g : TG} {T : α → Wo → L2.St → L2.St → Prop} (ht : Tk g T) {xs : List α} {body : α → s → WP (Ctl s γ)} {f : s → WP β} {r : γ → WP β} {x0 : s} {p : Addr} {vs : List V} (hv : σ[i]? = some (some (.ref p))) (hp : W.H p = some (.lst vs)) (hr : Rps W xs vs) (hm : (WP.after (WP.loop body xs x0) f r).run W.n R)
    (INV : s → L2.St → Wo → Prop) (h0 : INV x0 σ W) (keep : ∀ y σ' W', INV y σ' W' → St W W' ∧ W'.H p = some (.lst vs)) (step : Turn INV body r R { D with nx := tz D } tu T) (hd : ∀ y σ' W', INV y σ' W' → (f y).run W'.n R → tz D σ' W'.H) : tSeq (tFor (iList K (tVar i)) g tu) tz D σ W.H := st_forV (D := { D with nx := tz D }) ht hv hp hr hm INV h0 keep step hd
theorem q_forN [PyI α] {gt : TG} {T : α → Wo → L2.St → L2.St → Prop} (ht : Tk gt T) {w : WP (List α)} {body : α → s → WP (Ctl s γ)} {f : s → WP β} {r : γ → WP β} {x0 : s} (h : EvW e tl σ W (sN (kL α)) w) (g : Good e W) (hm : (w.bind fun xs => WP.after (WP.loop body xs x0) f r).run W.n R)
    (q : ∀ (xs : List α) p vs W1, Gw e W W1 → W.H p = none → ¬ W1.F p → W1.H p = some (.lst vs) → Rps W1 xs vs → ∃ INV : s → L2.St → Wo → Prop, INV x0 σ W1 ∧ (∀ y σ' W', INV y σ' W' → St W1 W' ∧ W'.H p = some (.lst vs)) ∧ Turn INV body r R { D with nx := tz D } tu T ∧ ∀ y σ' W', INV y σ' W' → (f y).run W'.n R → tz D σ' W'.H) : tSeq (tFor (iList K tl) gt tu) tz D σ W.H := st_forN (D := { D with nx := tz D }) ht h g hm q
theorem q_forT [PyI α] {gt : TG} {T : α → Wo → L2.St → L2.St → Prop} (ht : Tk gt T) {w : WP (List α)} {body : α → s → WP (Ctl s γ)} {f : s → WP β} {r : γ → WP β} {x0 : s} (h : EvW e tl σ W sI w) (g : Good e W) (hm : (w.bind fun xs => WP.after (WP.loop body xs x0) f r).run W.n R)
    (q : ∀ (xs : List α) W1, Gw e W W1 → ∃ INV : s → L2.St → Wo → Prop, INV x0 σ W1 ∧ (∀ y σ' W', INV y σ' W' → St W1 W') ∧ Turn INV body r R { D with nx := tz D } tu T ∧ ∀ y σ' W', INV y σ' W' → (f y).run W'.n R → tz D σ' W'.H) : tSeq (tFor (iTup K tl) gt tu) tz D σ W.H := st_forT (D := { D with nx := tz D }) ht h g hm q
theorem q_forR1 {w : WP Int} {body : Int → s → WP (Ctl s γ)} {f : s → WP β} {r : γ → WP β} {x0 : s} (h : EvW e te σ W sI w) (g : Good e W) (hm : ((WP.range1 w).bind fun xs => WP.after (WP.loop body xs x0) f r).run W.n R)
    (q : ∀ W1, Gw e W W1 → ∃ INV : s → L2.St → Wo → Prop, INV x0 σ W1 ∧ Turn INV body r R { D with nx := tz D } tu (TkN j) ∧ ∀ y σ' W', INV y σ' W' → (f y).run W'.n R → tz D σ' W'.H) : tSeq (tFor (iRng1 (tCons te tNil)) (gName j) tu) tz D σ W.H := st_forR1 (D := { D with nx := tz D }) h g hm q
theorem q_while {c : s → WP Bool} {body : s → WP (Ctl s γ)} {f : s → WP β} {r : γ → WP β} {x0 : s} (g : Good e W) (hm : (WP.after (WP.whilst c body x0) f r).run W.n R) (INV : s → L2.St → Wo → Prop) (h0 : INV x0 σ W)
    (hs : ∀ y σ' W', INV y σ' W' → Good e W' ∧ EvT e t σ' W' (c y) ∧ ∀ W1, Gw e W' W1 →
      (∀ R' (nx : L2.St → Hp → Prop), (body y).run W1.n R' → (∀ y' σ'' W'', INV y' σ'' W'' → R' W''.n (.nx y') → nx σ'' W''.H) → (∀ y' σ'' W'', INV y' σ'' W'' → R' W''.n (.bk y') → tz D σ'' W''.H) → (∀ n x, R' n (.rt x) → (r x).run n R) → tu { D with nx := nx, ct := nx, bk := tz D } σ' W1.H) ∧ INV y σ' W1)
    (hd : ∀ y σ' W', INV y σ' W' → (f y).run W'.n R → tz D σ' W'.H) : tSeq (tWhile t tu) tz D σ W.H := st_while (D := { D with nx := tz D }) g hm INV h0 hs hd
theorem own_list [PyI α] {fp : List Addr} {xs : List α} (h : (kL α).own W fp xs v) : ∃ p vs, fp = [p] ∧ v = .ref p ∧ W.H p = some (.lst vs) ∧ Rps W xs vs := h
theorem mem_one {a p : Addr} (h : a ∈ [p]) : a = p := List.mem_singleton.mp h
end
end Y
/-! lists of lists, texts joined, more things built in -/
namespace Y
open PySem PySem.Spec PyProof.Rows L2
def VRow {α : Type} [PyI α] (e : Ef) (W : Wo) (xs : List α) (x : V) : Prop := ∃ fp, (kL α).own W fp xs x ∧ ∀ b ∈ fp, ¬ e.S b
/-- a list of lists changed by place -/
def setL {α : Type} (xs : List α) (r : Int) (v : α) : List α := match ixN xs.length r with | some i => xs.set i v | none => xs
def setG {α : Type} (xss : List (List α)) (r c : Int) (v : α) : List (List α) := setL xss r (setL (ixD xss r) c v)
theorem ixN_ok {n : Nat} {x : Int} (h : okI n x) : ∃ i, ixN n x = some i ∧ i < n := by
  unfold ixN
  obtain ⟨h1, h2⟩ := h
  by_cases h0 : 0 ≤ x
  · rw [if_pos h0, if_pos h2]; exact ⟨_, rfl, by omega⟩
  · rw [if_neg h0, if_pos h1]; exact ⟨_, rfl, by omega⟩
namespace WP
variable {α β γ : Type}
def none {β : Type} {b : β} : WP α := ⟨fun _ _ => False, fun _ h => h⟩
abbrev join (s : WP Str) (xs : WP (List Str)) : WP Str := b2 s xs fun a ys => req ((ys.map (·.length)).sum + ys.length * a.length ≤ 1000000) (Txt.join a ys)
abbrev min4 (a b c d : WP Int) : WP Int := b4 a b c d fun x y z w => pure (min (min x y) (min z w))
end WP
section
variable {α β γ δ : Type} {K : PySem.W.Frag} {e : Ef} {σ : L2.St} {W : Wo} {ta tb te tc td tl to : TE} {t u : TT} {i j k m n : Nat} {v : V} {vs0 : List Nat} {D : Ends} {tz : TS} {R : Nat → γ → Prop} {g : TG}
theorem VRow.go [PyI α] {W W' : Wo} {xs : List α} {x : V} (g : Gw e W W') (h : VRow e W xs x) : VRow e W' xs x := by
  obtain ⟨fp, h1, h2⟩ := h
  exact ⟨fp, Kd.go g h2 h1, h2⟩
abbrev rJoin (K : PySem.W.Frag) : V → List V → Hp → VK → Prop := fun x xs H Q => ∃ a p, ∃ ys : List Str, x = .str a ∧ xs = [.ref p] ∧ (SqL K H p (ys.map V.str) ∨ SqT K H p (ys.map V.str)) ∧
      (ys.map (·.length)).sum + ys.length * a.length ≤ 16777216 ∧ Q (.str (Txt.join a ys)) H
theorem ew_join {w1 : WP Str} {w2 : WP (List Str)} (ho : EvW e to σ W sI w1) (h : EvW e te σ W (sR (kL Str)) w2) : EvW e (tM1 (rJoin K) to te) σ W sI (WP.join w1 w2) := fun W1 g Q q =>
  ho W1 g _ (w1.mono (fun n a hq x W2 g2 hn r1 => by
    subst hn; cases r1
    refine ⟨⟨a, rfl⟩, h W2 (g.trans g2) _ (w2.mono (fun n ys hq y W3 g3 hn ⟨fp, ⟨p, vs, _, h1, h2, h3⟩, _⟩ => ?_) hq)⟩
    subst h1
    cases rps_strs h3
    exact ⟨a, p, ys, rfl, rfl, .inl (SqL.of h2), Nat.le_trans hq.1 (by decide), hq.2 _ W3 (g2.trans g3) hn rfl⟩) q)
abbrev rMin4 : List V → Hp → VK → Prop := fun xs H Q => ∃ i j k l, xs = [.int i, .int j, .int k, .int l] ∧ Q (.int (min (min i j) (min k l))) H
theorem ew_min4 {w1 w2 w3 w4 : WP Int} (h1 : EvW e ta σ W sI w1) (h2 : EvW e tb σ W sI w2) (h3 : EvW e tc σ W sI w3) (h4 : EvW e td σ W sI w4) : EvW e (tCB rMin4 (tCons ta (tCons tb (tCons tc (tCons td tNil))))) σ W sI (WP.min4 w1 w2 w3 w4) := fun W1 g Q q =>
  h1 W1 g _ (w1.mono (fun n a q x V1 g1 hn r1 => by
    subst hn
    refine h2 V1 (g.trans g1) _ (w2.mono (fun n b q y V2 g2 hn r2 => ?_) q)
    subst hn
    have gg2 := g1.trans g2
    refine h3 V2 (g.trans gg2) _ (w3.mono (fun n c q z V3 g3 hn r3 => ?_) q)
    subst hn
    have gg3 := gg2.trans g3
    refine h4 V3 (g.trans gg3) _ (w4.mono (fun n d q w V4 g4 hn r4 => ?_) q)
    cases r1; cases r2; cases r3; cases r4
    exact ⟨a, b, c, d, rfl, q _ V4 (gg3.trans g4) hn rfl⟩) q)
end
section
variable {X : Cx} {K : PySem.W.Frag}
end
open Sem (wp)
section
variable {prog : Program} {w : World} {A : Around} {E : Value → Shared → Prop} {s : Shared}
theorem args_min4 (a b c d : Value) : argsOk "min" ⟨[a, b, c, d], []⟩ := by unfold argsOk; kernel_rfl
theorem call_min_four {a b c d : Value} {Q : Value → Shared → Prop}
    (h : wpAny (model prog w) A.in1 (pyIter (.ref s.heap.objs.size)) (fun it s₂ => ∃ I fp wr n P St bt, it = .ref I ∧ Walks prog w A.in1 I fp wr n P St ∧ St 0 s₂.heap ∧ (∀ b ∈ fp, b < s₂.heap.objs.size) ∧ 0 < n ∧ CmpOf prog w A.in1 .Lt P bt ∧
      ∀ v h' tk, P (argBest bt (n - 1)) v → (∀ b o, b ∉ wr → s₂.heap.get? b = some o → h'.get? b = some o) → Q v { s₂ with heap := h', toks := tk }) E
      { s with heap := s.heap.push { cls := .type "tuple", data := .seq #[a, b, c, d] } }) :
    wpAny (model prog w) A (call (.builtin "min") [a, b, c, d]) Q E s := by
  have hname : (toString "min" ++ toString ".loop" : String) = "min.loop" := by decide
  refine call_function_tree F.kind_min F.plain_min F.entry_min (args_min4 _ _ _ _) ?_
  show wpAny _ A.in1 (Builtin.Builtins.bindParams "min" ["key", "default"] 0 ⟨[], []⟩ >>= _) _ _ s
  refine wpAny_bind (wpAny_of_eq (show Builtin.Builtins.bindParams "min" ["key", "default"] 0 ⟨[], []⟩ = pure [none, none] from rfl) ?_)
  show wpAny _ A.in1 (newTuple [a, b, c, d] >>= _) _ _ s
  refine wpAny_bind (wpAny_newObj_type ?_)
  refine wpAny_bind (wpAny_mono h (fun it s₂ h₂ => ?_) fun _ _ e => e)
  obtain ⟨I, fp, wr, n, P, St, bt, rfl, W, hst, hfp, hn, hcmp, hQ⟩ := h₂
  refine wpAny_bind (wpAny_newObj_type ?_)
  have hSf : s₂.heap.objs.size ∉ fp := fun hm => Nat.lt_irrefl _ (hfp _ hm)
  rw [hname]
  refine wpAny_pure ⟨plainId_quiet F.plain_min_loop _, codeAny_min_loop_first W bt hcmp s₂.heap.objs.size hSf hn (W.frame _ _ _ hst fun b _ o e => Heap.get?_push_of_some _ e) (Heap.get?_push_size _ rfl) fun v h' tk hP hk => ?_⟩
  exact hQ v h' tk hP fun b o hbw e => hk b o hbw (Nat.ne_of_lt (Heap.lt_size e)) (Heap.get?_push_of_some _ e)
def pick4 (a b c d : Int) (t u x y : Tok) : Value := if b < a then (if c < b then (if d < c then .int d y else .int c x) else (if d < b then .int d y else .int b u)) else (if c < a then (if d < c then .int d y else .int c x) else (if d < a then .int d y else .int a t))
theorem pick4_min (a b c d : Int) (t u x y : Tok) : ∃ z, pick4 a b c d t u x y = .int (min (min a b) (min c d)) z := by
  unfold pick4
  have m : ∀ p q : Int, min p q = if p ≤ q then p else q := fun p q => rfl
  simp only [m]
  split <;> (split <;> (split <;> (first
    | exact ⟨_, congrArg (fun z => Value.int z _) (by repeat' split <;> omega)⟩
    | omega)))
theorem min_four_ints {a b c d : Int} {t u x y : Tok} {Q : Value → Shared → Prop} (hh : A.handled = none)
    (h : ∀ h' tk, (∀ d o, s.heap.get? d = some o → h'.get? d = some o) → Q (pick4 a b c d t u x y) { s with heap := h', toks := tk }) :
    wpAny (model prog w) A (call (.builtin "min") [.int a t, .int b u, .int c x, .int d y]) Q E s := by
  have hT : (s.heap.push { cls := .type "tuple", data := .seq #[.int a t, .int b u, .int c x, .int d y] }).IsTuple s.heap.objs.size (intItems #[(a, t), (b, u), (c, x), (d, y)]) := ⟨_, Heap.get?_push_size _ rfl, rfl, 0, by simp [intItems]⟩
  refine call_min_four (wpAny_pyIter_tuple hT ?_)
  have hsz : (s.heap.push { cls := .type "tuple", data := .seq #[.int a t, .int b u, .int c x, .int d y] }).objs.size = s.heap.objs.size + 1 := Heap.size_push ..
  refine ⟨_, [_, s.heap.objs.size], [_], _, _, _, _, rfl, Walks.tuple (A := A.in1) hh _ s.heap.objs.size (by rw [hsz]; exact Nat.ne_of_lt (Nat.lt_succ_self _)) (intItems #[(a, t), (b, u), (c, x), (d, y)]),
    ⟨⟨_, Heap.get?_push_size _ rfl, rfl, rfl⟩, hT.push _⟩, fun d hd => ?_, by simp [intItems], CmpOf.ints_lt (numAt #[(a, t), (b, u), (c, x), (d, y)]) (fun _ _ => intItems_at), fun v h' tk hP hk => ?_⟩
  · show d < ((s.heap.push _).push _).objs.size
    rw [Heap.size_push, hsz]
    rcases List.mem_cons.mp hd with rfl | hd
    · rw [hsz]; exact Nat.lt_succ_self _
    · rcases List.mem_cons.mp hd with rfl | hd
      · exact Nat.lt_succ_of_lt (Nat.lt_succ_self _)
      · cases hd
  · have hold : ∀ d o, s.heap.get? d = some o → h'.get? d = some o := fun d o e => by
      refine hk d o (fun hm => ?_) (Heap.get?_push_of_some _ (Heap.get?_push_of_some _ e))
      rcases List.mem_cons.mp hm with e1 | hm
      · have := Heap.lt_size e; rw [e1, hsz] at this; exact Nat.lt_irrefl _ (Nat.lt_of_succ_lt this)
      · cases hm
    have := h h' tk hold
    have hv : v = pick4 a b c d t u x y := by
      have hP' : (intItems #[(a, t), (b, u), (c, x), (d, y)])[argBest (fun i j => decide (numAt #[(a, t), (b, u), (c, x), (d, y)] i < numAt #[(a, t), (b, u), (c, x), (d, y)] j)) 3]? = some v := by
        have hsz2 : (intItems #[(a, t), (b, u), (c, x), (d, y)]).size - 1 = 3 := by simp [intItems]
        rw [← hsz2]; exact hP
      unfold pick4
      by_cases h1 : b < a
      · by_cases h2 : c < b
        · by_cases h3 : d < c
          · have e : argBest (fun i j => decide (numAt #[(a, t), (b, u), (c, x), (d, y)] i < numAt #[(a, t), (b, u), (c, x), (d, y)] j)) 3 = 3 := by simp [argBest, numAt, h1, h2, h3]
            rw [e] at hP'
            simpa [intItems, h1, h2, h3] using hP'.symm
          · have e : argBest (fun i j => decide (numAt #[(a, t), (b, u), (c, x), (d, y)] i < numAt #[(a, t), (b, u), (c, x), (d, y)] j)) 3 = 2 := by simp [argBest, numAt, h1, h2, h3]
            rw [e] at hP'
            simpa [intItems, h1, h2, h3] using hP'.symm
        · by_cases h3 : d < b
          · have e : argBest (fun i j => decide (numAt #[(a, t), (b, u), (c, x), (d, y)] i < numAt #[(a, t), (b, u), (c, x), (d, y)] j)) 3 = 3 := by simp [argBest, numAt, h1, h2, h3]
            rw [e] at hP'
            simpa [intItems, h1, h2, h3] using hP'.symm
          · have e : argBest (fun i j => decide (numAt #[(a, t), (b, u), (c, x), (d, y)] i < numAt #[(a, t), (b, u), (c, x), (d, y)] j)) 3 = 1 := by simp [argBest, numAt, h1, h2, h3]
            rw [e] at hP'
            simpa [intItems, h1, h2, h3] using hP'.symm
      · by_cases h2 : c < a
        · by_cases h3 : d < c
          · have e : argBest (fun i j => decide (numAt #[(a, t), (b, u), (c, x), (d, y)] i < numAt #[(a, t), (b, u), (c, x), (d, y)] j)) 3 = 3 := by simp [argBest, numAt, h1, h2, h3]
            rw [e] at hP'
            simpa [intItems, h1, h2, h3] using hP'.symm
          · have e : argBest (fun i j => decide (numAt #[(a, t), (b, u), (c, x), (d, y)] i < numAt #[(a, t), (b, u), (c, x), (d, y)] j)) 3 = 2 := by simp [argBest, numAt, h1, h2, h3]
            rw [e] at hP'
            simpa [intItems, h1, h2, h3] using hP'.symm
        · by_cases h3 : d < a
          · have e : argBest (fun i j => decide (numAt #[(a, t), (b, u), (c, x), (d, y)] i < numAt #[(a, t), (b, u), (c, x), (d, y)] j)) 3 = 3 := by simp [argBest, numAt, h1, h2, h3]
            rw [e] at hP'
            simpa [intItems, h1, h2, h3] using hP'.symm
          · have e : argBest (fun i j => decide (numAt #[(a, t), (b, u), (c, x), (d, y)] i < numAt #[(a, t), (b, u), (c, x), (d, y)] j)) 3 = 0 := by simp [argBest, numAt, h1, h2, h3]
            rw [e] at hP'
            simpa [intItems, h1, h2, h3] using hP'.symm
    rw [hv]; exact this
end
theorem call_min4 {X : Cx} (hc : X.calm = true) : CallR X (.builtin "min") rMin4 := by
  intro pins s σ H xs us Q I r h
  obtain ⟨i, j, k, l, rfl, q⟩ := h
  cases r with
  | cons r1 r => cases r with
    | cons r2 r => cases r with
      | cons r3 r => cases r with
        | cons r4 r =>
          cases r
          obtain ⟨t1, rfl⟩ := r1
          obtain ⟨t2, rfl⟩ := r2
          obtain ⟨t3, rfl⟩ := r3
          obtain ⟨t4, rfl⟩ := r4
          exact min_four_ints (I.ok.hd hc) fun h1 tk k1 => ⟨.int (min (min i j) (min k l)), H, I.kept k1, pick4_min _ _ _ _ _ _ _ _, q⟩
end Y

/-! the script, a new deal, the law itself -/
namespace Y
open PySem PySem.Spec PyProof.Rows L2
section
variable {α β γ : Type} {K : PySem.W.Frag} {σ : L2.St} {W W0 : Wo} {ta tb te : TE} {i j k n : Nat} {v : V} {D : Ends} {R : Nat → β → Prop}
theorem sqL_g {a : Addr} {xs : List V} (g : Gw ef0 W0 W) (h : SqL K W0.H a xs) : SqL K W.H a xs := Same.seq (fun b o q => g.keep b o q id) h
theorem ew_lenQ {a : Addr} {ns : List Int} (hv : σ[i]? = some (some (.ref a))) (h : SqL K W.H a (ns.map V.int)) : EvW ef0 (tCB (rLenS K) (tCons (tVar i) tNil)) σ W sI (WP.len (WP.pure ns)) := fun W1 g Q q =>
  ⟨_, hv, a, _, rfl, .inl (sqL_g g h), q _ W1 (Gw.refl g.ok) rfl (by rw [List.length_map]; exact rfl)⟩
theorem ew_ixQ {a : Addr} {ns : List Int} {w : WP Int} (hv : σ[i]? = some (some (.ref a))) (h : SqL K W.H a (ns.map V.int)) (hb : EvW ef0 tb σ W sI w) : EvW ef0 (tOp (rIxL K) (tVar i) tb) σ W sI (WP.ix (WP.pure ns) w) := fun W1 g Q q =>
  ⟨_, hv, hb W1 g _ (w.mono (fun n x hq y W2 g2 hn r => by
    cases r
    obtain ⟨v, hv', rv⟩ := atI_pair (rps_ints' W2 ns) (atI_ok hq.1)
    exact ⟨a, _, x, v, rfl, rfl, sqL_g (g.trans g2) h, hv', hq.2 _ W2 g2 hn rv⟩) q)⟩
/-- a new deal -/
def NewDeal (W W' : Wo) (v : V) : Prop := ∃ d : Dl, v = .ref d.p ∧ W.H d.p = none ∧ W.H d.l1 = none ∧ W.H d.l2 = none ∧ ¬ W'.F d.l2 ∧ d.At W'.H 0
theorem NewDeal.good {W W' : Wo} (h : NewDeal W W' v) (g : Good ef0 W') (hn : W'.n = 0) : ∃ d : Dl, v = .ref d.p ∧ Good (efD d) W' := by
  obtain ⟨d, e1, _, _, _, hF, hA⟩ := h
  refine ⟨d, e1, ⟨fun a f => ⟨fun (s : a = d.l2) => hF (s ▸ f), (g.F a f).2⟩, fun a (s : a = d.l2) => ?_, ?_⟩⟩
  · rw [s]; exact some_ne hA.n
  · show d.At W'.H W'.n
    rw [hn]; exact hA
/-- return [row, [0], total] -/
theorem st_retdeal {fp : List Addr} {ns : List Int} {vx : V} {w : WP Int} {f : Int → WP β} (g00 : Good ef0 W0) (g0 : Gw ef0 W0 W) (hv : σ[i]? = some (some vx)) (ho : Var (kL Int) W0 W fp ns vx) (ht : EvW ef0 tb σ W sI w) (hm : (w.bind f).run W.n R)
    (q : ∀ t v W1, Gw ef0 W0 W1 → W1.n = W0.n → NewDeal W0 W1 v → (f t).run W1.n R → D.rt v W1.H) : tRet (tLst (tCons (tVar i) (tCons (tLst (tCons (tC (.int 0)) tNil)) (tCons tb tNil)))) D σ W.H := by
  obtain ⟨⟨p, vs, e1, e2, hp, hr⟩, fr, nF⟩ := ho
  subst e1; subst e2
  have mp : p ∈ [p] := List.mem_singleton.mpr rfl
  refine ⟨_, hv, ⟨sz_le (n := 1) (by decide), fun l2 hl2 => ?_⟩⟩
  have ga := Gw.alloc (o := .lst [.int 0]) g0.ok hl2
  refine ht ⟨upd W.H l2 (.lst [.int 0]), W.F, W.n⟩ ga _ (w.mono (fun n t hq x W2 g2 hn r => ?_) hm)
  subst hn; cases r
  refine ⟨sz_le (n := 3) (by decide), fun p0 hp0 => ?_⟩
  have gb := Gw.alloc (o := .lst [.ref p, .ref l2, .int t]) g2.ok hp0
  have h2 : W2.H l2 = some (.lst [.int 0]) := g2.keep _ _ upd_same id
  have hp2 : W2.H p = some (.lst vs) := (ga.trans g2).keep _ _ hp id
  have n1 : p ≠ l2 := ne_of hp hl2
  have m1 : l2 ≠ p0 := ne_of h2 hp0
  have m2 : p ≠ p0 := ne_of hp2 hp0
  have h0 : W.H p0 = none := ga.live p0 (g2.live p0 hp0)
  have gg := g0.trans ((ga.trans g2).trans gb)
  refine q t (.ref p0) _ gg (show W0.n = _ from gg.n).symm ⟨⟨p0, p, l2, ns, t⟩, rfl, g0.live _ h0, fr p mp, g0.live _ hl2, fun z => ?_, ⟨upd_same, ?_, ?_, m1.symm, n1⟩⟩ hq
  · rcases g2.new l2 z with f | e5
    · exact (g0.ok.F l2 f).2 hl2
    · have : (upd W.H l2 (.lst [.int 0])) l2 = none := e5
      rw [upd_same] at this
      cases this
  · show (upd W2.H p0 _) p = _
    rw [upd_ne m2, hp2, rps_ints hr]
  · show (upd W2.H p0 _) l2 = _
    rw [upd_ne m1]; exact h2
end
def sp_deal (K : PySem.W.Frag) : Sp := fun vs H Q _ => ∃ (a : Addr) (ns : List Int) (W : Wo), vs = [.ref a] ∧ W.H = H ∧ Good ef0 W ∧ SqL K H a (ns.map V.int) ∧ ns.length ≤ 63 ∧ ∀ v W', Gw ef0 W W' → W'.n = W.n → NewDeal W W' v → Q v W'.H
def sp_law (K : PySem.W.Frag) : Sp := fun vs H Q _ => ∃ (a : Addr) (ns : List Int), vs = [.ref a] ∧ SqL K H a (ns.map V.int) ∧ ns.length ≤ 63 ∧ ∀ H', Q (.bl true) H'
theorem cast_n {α : Type} {w : WP α} {n : Nat} {Q : Nat → α → Prop} (e : n = 0) (h : w.run 0 Q) : w.run n Q := e ▸ h
/-- deal = _law_deal(script) -/
theorem q_deal {K : PySem.W.Frag} {σ : L2.St} {W : Wo} {E : XK} {i j : Nat} {a : Addr} {ns : List Int} {D : Ends} {tz : TS} (hv : σ[i]? = some (some (.ref a))) (h : SqL K W.H a (ns.map V.int)) (hl : ns.length ≤ 63) (g : Good ef0 W) (hn : W.n = 0)
    (q : ∀ d W1, Good (efD d) W1 → W1.n = 0 → tz D (σ.set j (some (.ref d.p))) W1.H) : tSeq (tAsg (tCall (sp_deal K) [] E (tCons (tVar i) tNil)) (gName j)) tz D σ W.H :=
  ⟨_, hv, a, ns, W, rfl, rfl, g, h, hl, fun v W' g' hn' nd => by
    obtain ⟨d, e1, gd⟩ := nd.good g'.ok (hn'.trans hn)
    subst e1
    exact q d W' gd (hn'.trans hn)⟩
end Y

/-! lists and tuples of things of different kinds; freezing -/
namespace Y
open PySem PySem.Spec PyProof.Rows L2
@[ext] structure HL2 (α0 α1 : Type) where
  a : α0
  b : α1
instance {α0 α1 : Type} [PyI α0] [PyI α1] : PyI (HL2 α0 α1) := ⟨fun W c v => ∃ p x0 x1, v = .ref p ∧ W.F p ∧ W.H p = some (.lst [x0, x1]) ∧ Rp W c.a x0 ∧ Rp W c.b x1, fun t ⟨p, x0, x1, e1, f, e2, h0, h1⟩ => ⟨p, x0, x1, e1, t.f _ f, t.c _ _ f e2, PyI.st t h0, PyI.st t h1⟩⟩
instance {α0 α1 : Type} [Inhabited α0] [Inhabited α1] : Inhabited (HL2 α0 α1) := ⟨⟨default, default⟩⟩
@[ext] structure HL3 (α0 α1 α2 : Type) where
  a : α0
  b : α1
  c : α2
instance {α0 α1 α2 : Type} [PyI α0] [PyI α1] [PyI α2] : PyI (HL3 α0 α1 α2) := ⟨fun W c v => ∃ p x0 x1 x2, v = .ref p ∧ W.F p ∧ W.H p = some (.lst [x0, x1, x2]) ∧ Rp W c.a x0 ∧ Rp W c.b x1 ∧ Rp W c.c x2, fun t ⟨p, x0, x1, x2, e1, f, e2, h0, h1, h2⟩ => ⟨p, x0, x1, x2, e1, t.f _ f, t.c _ _ f e2, PyI.st t h0, PyI.st t h1, PyI.st t h2⟩⟩
instance {α0 α1 α2 : Type} [Inhabited α0] [Inhabited α1] [Inhabited α2] : Inhabited (HL3 α0 α1 α2) := ⟨⟨default, default, default⟩⟩
@[ext] structure HL4 (α0 α1 α2 α3 : Type) where
  a : α0
  b : α1
  c : α2
  d : α3
instance {α0 α1 α2 α3 : Type} [PyI α0] [PyI α1] [PyI α2] [PyI α3] : PyI (HL4 α0 α1 α2 α3) := ⟨fun W c v => ∃ p x0 x1 x2 x3, v = .ref p ∧ W.F p ∧ W.H p = some (.lst [x0, x1, x2, x3]) ∧ Rp W c.a x0 ∧ Rp W c.b x1 ∧ Rp W c.c x2 ∧ Rp W c.d x3, fun t ⟨p, x0, x1, x2, x3, e1, f, e2, h0, h1, h2, h3⟩ => ⟨p, x0, x1, x2, x3, e1, t.f _ f, t.c _ _ f e2, PyI.st t h0, PyI.st t h1, PyI.st t h2, PyI.st t h3⟩⟩
instance {α0 α1 α2 α3 : Type} [Inhabited α0] [Inhabited α1] [Inhabited α2] [Inhabited α3] : Inhabited (HL4 α0 α1 α2 α3) := ⟨⟨default, default, default, default⟩⟩
@[ext] structure T4 (α0 α1 α2 α3 : Type) where
  a : α0
  b : α1
  c : α2
  d : α3
instance {α0 α1 α2 α3 : Type} [PyI α0] [PyI α1] [PyI α2] [PyI α3] : PyI (T4 α0 α1 α2 α3) := ⟨fun W c v => ∃ p x0 x1 x2 x3, v = .ref p ∧ W.H p = some (.tup [x0, x1, x2, x3]) ∧ Rp W c.a x0 ∧ Rp W c.b x1 ∧ Rp W c.c x2 ∧ Rp W c.d x3, fun t ⟨p, x0, x1, x2, x3, e1, e2, h0, h1, h2, h3⟩ => ⟨p, x0, x1, x2, x3, e1, t.t _ _ e2, PyI.st t h0, PyI.st t h1, PyI.st t h2, PyI.st t h3⟩⟩
instance {α0 α1 α2 α3 : Type} [Inhabited α0] [Inhabited α1] [Inhabited α2] [Inhabited α3] : Inhabited (T4 α0 α1 α2 α3) := ⟨⟨default, default, default, default⟩⟩
@[ext] structure T5 (α0 α1 α2 α3 α4 : Type) where
  a : α0
  b : α1
  c : α2
  d : α3
  e : α4
instance {α0 α1 α2 α3 α4 : Type} [PyI α0] [PyI α1] [PyI α2] [PyI α3] [PyI α4] : PyI (T5 α0 α1 α2 α3 α4) := ⟨fun W c v => ∃ p x0 x1 x2 x3 x4, v = .ref p ∧ W.H p = some (.tup [x0, x1, x2, x3, x4]) ∧ Rp W c.a x0 ∧ Rp W c.b x1 ∧ Rp W c.c x2 ∧ Rp W c.d x3 ∧ Rp W c.e x4, fun t ⟨p, x0, x1, x2, x3, x4, e1, e2, h0, h1, h2, h3, h4⟩ => ⟨p, x0, x1, x2, x3, x4, e1, t.t _ _ e2, PyI.st t h0, PyI.st t h1, PyI.st t h2, PyI.st t h3, PyI.st t h4⟩⟩
instance {α0 α1 α2 α3 α4 : Type} [Inhabited α0] [Inhabited α1] [Inhabited α2] [Inhabited α3] [Inhabited α4] : Inhabited (T5 α0 α1 α2 α3 α4) := ⟨⟨default, default, default, default, default⟩⟩
/-- a new list frozen at once -/
theorem ew_frz {α : Type} [PyI α] {e : Ef} {σ : L2.St} {W : Wo} {te : TE} {w : WP (List α)} (h : EvW e te σ W (sN (kL α)) w) : EvW e te σ W sI (w.bind fun xs => WP.pure (⟨xs⟩ : Ls α)) := fun W1 g Q q => h W1 g Q (w.mono (fun n xs hq v W2 g2 hn ⟨fp, ⟨p, vs, e1, e2, hp, hr⟩, hf⟩ => by
  subst e1
  have m := hf p (List.mem_singleton.mpr rfl)
  have gf := Gw.frz (fp := [p]) g.ok g2 (fun a ma => by cases mem_one ma; exact m.1) (fun a ma => by cases mem_one ma; exact some_ne hp)
  exact hq v (W2.frz [p]) gf hn ⟨p, vs, e2, .inr (List.mem_singleton.mpr rfl), hp, Rps.st St.frz hr⟩) q)
theorem Var.frzd {κ : Type} {k : Kd κ} {W0 W : Wo} {fp fq : List Addr} {x : κ} {v : V} (h : Var k W0 W fq x v) (d : ∀ b ∈ fq, b ∉ fp) : Var k W0 (W.frz fp) fq x v :=
  ⟨k.st St.frz (fun _ _ _ q => q) h.own, h.fr, fun a m f => f.elim (h.nF a m) (d a m)⟩
end Y

/-! None or a value; dicts asked; isinstance -/
namespace Y
open PySem PySem.Spec PyProof.Rows L2
/-- never None -/
class NN (α : Type) [PyI α] : Prop where
  nn : ∀ {W : Wo} {a : α} {v : V}, Rp W a v → v ≠ .non
instance : NN Int := ⟨fun h z => by cases h; cases z⟩
instance : NN Bool := ⟨fun h z => by cases h; cases z⟩
instance : NN Str := ⟨fun h z => by cases h; cases z⟩
instance {α β : Type} [PyI α] [PyI β] : NN (α × β) := ⟨fun ⟨p, x, y, h1, _⟩ z => by rw [h1] at z; cases z⟩
instance {α : Type} [PyI α] : NN (List α) := ⟨fun ⟨p, vs, h1, _⟩ z => by rw [h1] at z; cases z⟩
instance {α : Type} [PyI α] : NN (Ls α) := ⟨fun ⟨p, vs, h1, _⟩ z => by rw [h1] at z; cases z⟩
instance {α β γ : Type} [PyI α] [PyI β] [PyI γ] : NN (Tri α β γ) := ⟨fun ⟨p, x, y, w, h1, _⟩ z => by rw [h1] at z; cases z⟩
instance {α β : Type} [PyI α] [PyI β] : NN (HL2 α β) := ⟨fun ⟨p, x, y, h1, _⟩ z => by rw [h1] at z; cases z⟩
namespace WP
variable {α β γ : Type}
abbrev some' (w : WP α) : WP (Option α) := w.bind fun x => pure (some x)
abbrev isN (w : WP (Option α)) : WP Bool := w.bind fun o => pure o.isNone
abbrev notN (w : WP (Option α)) : WP Bool := w.bind fun o => pure o.isSome
abbrev the (w : WP (Option α)) [Inhabited α] : WP α := w.bind fun o => req (o.isSome = true) (o.getD default)
abbrev look (d : WP (List (Sq × β))) (q : WP Sq) : WP (Option β) := b2 d q fun d x => pure (lookK d x)
abbrev keys (d : WP (List (Sq × β))) : WP (List Sq) := d.bind fun d => pure (d.map (·.1))
end WP
section
variable {α β γ : Type} {K : PySem.W.Frag} {e : Ef} {σ : L2.St} {W : Wo} {ta tb te tc td ty tx : TE} {t u : TT} {i j k m n : Nat} {v : V}
theorem ew_some' [PyI α] [NN α] {w : WP α} (h : EvW e te σ W sI w) : EvW e te σ W sI (WP.some' w) := fun W1 g Q q => h W1 g Q (w.mono (fun n a hq v W2 g2 hn r => hq v W2 g2 hn ⟨NN.nn r, r⟩) q)
theorem ew_isN [PyI α] {w : WP (Option α)} (h : EvW e te σ W sI w) : EvW e (tIsN te) σ W sI (WP.isN w) := fun W1 g Q q => h W1 g _ (w.mono (fun n o hq v W2 g2 hn r => by
  cases o with
  | none => cases r; exact hq _ W2 g2 hn rfl
  | some a => exact hq _ W2 g2 hn (by rw [decide_eq_false r.1]; exact rfl)) q)
theorem ew_notN [PyI α] {w : WP (Option α)} (h : EvW e te σ W sI w) : EvW e (tNotN te) σ W sI (WP.notN w) := fun W1 g Q q => h W1 g _ (w.mono (fun n o hq v W2 g2 hn r => by
  cases o with
  | none => cases r; exact hq _ W2 g2 hn rfl
  | some a => exact hq _ W2 g2 hn (by rw [decide_eq_false r.1]; exact rfl)) q)
/-- what is surely there -/
theorem ew_the [PyI α] [Inhabited α] {w : WP (Option α)} (h : EvW e te σ W sI w) : EvW e te σ W sI (WP.the w) := fun W1 g Q q => h W1 g Q (w.mono (fun n o hq v W2 g2 hn r => by
  cases o with
  | none => cases hq.1
  | some a => exact hq.2 v W2 g2 hn r.2) q)
abbrev rListT : List V → Hp → VK → Prop := fun xs H Q => ∃ d kvs, xs = [V.ref d] ∧ Rd H d (.dT kvs) ∧ ∀ p bs, H p = none → IsKeys H kvs bs → Q (.ref p) (upd H p (.lst (bs.map V.ref)))
theorem rps_keys [PyI β] {W W' : Wo} : ∀ {kvs : List (Sq × β)} {ks : List (List Key × V)} {bs : List Addr}, Paired (Kv W') kvs ks → IsKeys W.H ks bs → Rps W (kvs.map (·.1)) (bs.map V.ref)
  | [], _, _, .nil, h => by cases h; exact .nil
  | (q, b) :: kvs, (k, x) :: ks, _, .cons r t, h => by
    cases h with
    | @cons a b as bs h' t' =>
      refine .cons ⟨b, _, _, rfl, ?_, rfl, rfl⟩ (rps_keys t t')
      have e1 : k = kSq q := r.1
      rw [e1] at h'
      exact h'
theorem ew_keys [PyI β] {w : WP (List (Sq × β))} (hd : EvW e td σ W (sR (kDr β)) w) : EvW e (tCB rListT (tCons td tNil)) σ W (sN (kL Sq)) (WP.keys w) := ew_cb1 hd fun W1 W2 d x g ⟨fp, ⟨p, ks, _, h2, h3, h4⟩, _⟩ Q q => by
  subst h2
  exact ⟨p, ks, rfl, h3, fun l bs hl hk => q _ _ (Gw.alloc g.ok hl) rfl (new_L (Gw.refl g.ok) hl (rps_keys h4 hk))⟩
/-- isinstance -/
theorem ew_isi_int {w : WP Int} (h : EvW e te σ W sI w) : EvW e (tCB (rIsi K) (tCons te (tCons (tC (.ty "int")) tNil))) σ W sI (w.bind fun _ => WP.pure true) := fun W1 g Q q => h W1 g _ (w.mono (fun n z hq v W2 g2 hn r => by
  cases r
  exact ⟨_, _, _, _, true, rfl, .ty _, .base (.int z), kit_ty (by decide +kernel), hq _ W2 g2 hn rfl⟩) q)
theorem ew_isib_bool {w : WP Bool} (h : EvW e te σ W sI w) : EvW e (tCB (rIsi K) (tCons te (tCons (tC (.ty "bool")) tNil))) σ W sI (w.bind fun _ => WP.pure true) := fun W1 g Q q => h W1 g _ (w.mono (fun n z hq v W2 g2 hn r => by
  cases r
  exact ⟨_, _, _, _, true, rfl, .ty _, .base (.bl z), kit_ty (by decide +kernel), hq _ W2 g2 hn rfl⟩) q)
end
end Y

/-! texts gone through, written and read numbers, all and any, least and greatest of a list, copies -/
namespace Y
open PySem PySem.Spec PyProof.Rows L2
def signs (z : Str) : List Str := z.cps.toList.map fun c => ⟨#[c]⟩
namespace WP
variable {α β γ : Type}
abbrev int' (w : WP Str) : WP Int := w.bind fun a => req ((PySem.intText? a).isSome = true ∧ a.length ≤ 640) ((PySem.intText? a).getD 0)
abbrev str' (w : WP Int) : WP Str := w.bind fun i => req (i.natAbs.log2 < 1920) (toString i : Str)
abbrev index (w z : WP Str) : WP Int := b2 w z fun a b => req ((Txt.index0 a b).isSome = true) (((Txt.index0 a b).getD 0 : Nat) : Int)
abbrev all (w : WP (List Bool)) : WP Bool := w.bind fun bs => pure (bs.all id)
abbrev signs (w : WP Str) : WP (List Str) := w.bind fun z => pure (Y.signs z)
end WP
section
variable {α β γ s : Type} {X : Cx} {K : PySem.W.Frag} {e : Ef} {σ : L2.St} {W : Wo} {ta tb te tc tl to : TE} {t u : TT} {i j k m n : Nat} {v : V} {vs0 : List Nat} {g : TG} {D : Ends} {tu tz : TS} {R : Nat → β → Prop}
theorem ew_int' {w : WP Str} (ha : EvW e ta σ W sI w) : EvW e (tCB (fun xs H Q => ∃ a n, xs = [.str a] ∧ PySem.intText? a = some n ∧ a.length ≤ 640 ∧ Q (.int n) H) (tCons ta tNil)) σ W sI (WP.int' w) := ew_cb1 ha fun W1 W2 z x g r Q q => by
  cases r
  obtain ⟨⟨h1, h2⟩, q⟩ := q
  obtain ⟨n, hn⟩ := Option.isSome_iff_exists.mp h1
  exact ⟨z, n, rfl, hn, h2, q _ W2 (Gw.refl g.ok) rfl (by rw [hn]; exact rfl)⟩
theorem ew_str' {w : WP Int} (ha : EvW e ta σ W sI w) : EvW e (tCB (fun xs H Q => ∃ i, xs = [.int i] ∧ i.natAbs.log2 < 1920 ∧ Q (.str (toString i)) H) (tCons ta tNil)) σ W sI (WP.str' w) := ew_cb1 ha fun W1 W2 z x g r Q q => by
  cases r
  exact ⟨z, rfl, q.1, q.2 _ W2 (Gw.refl g.ok) rfl rfl⟩
/-- xs[::-1] -/
theorem ew_revL [PyI α] {w : WP (List α)} (ha : EvW e ta σ W (sR (kL α)) w) : EvW e (tRevL K ta) σ W (sN (kL α)) (w.bind fun xs => WP.pure xs.reverse) := fun W1 g Q q => ha W1 g _ (w.mono (fun n xs hq v W2 g2 hn ⟨_, ⟨p, vs, _, h1, h2, h3⟩, _⟩ => by
  subst h1; subst hn
  exact ⟨p, vs, rfl, SqL.of h2, fun l hl => hq _ _ (g2.al hl) rfl (new_L g2 hl h3.revA)⟩) q)
/-- a comprehension over a text -/
theorem ew_lcS [PyI β] {w : WP Str} {T : Str → Wo → L2.St → Prop} {c : Str → WP Bool} {f : Str → WP β} (h : EvW e tl σ W sI w) (ht : Takes (fun W a x => Rp W a x) g σ vs0 T) (hw : ∀ a W' s2, T a W' s2 → wipe s2 vs0 = wipe σ vs0)
    (hc : ∀ a W1 s2, Gw e W W1 → T a W1 s2 → EvT e t s2 W1 (c a)) (he : ∀ a W1 s2, Gw e W W1 → T a W1 s2 → EvW e te s2 W1 sI (f a)) : EvW e (tLc (iStr tl) g t te vs0) σ W (sN (kL β)) (WP.lc (WP.signs w) c f) := fun W1 g1 Q q =>
  h W1 g1 _ (w.mono (fun n z hq v W2 g2 hn r => by
    subst hn; cases r
    refine ⟨z, rfl, fun Dl hD => ?_⟩
    obtain ⟨Pv, p0, pk, ps, pd⟩ := pv_comp (val := fun W a x => Rp W a x) (T := T) (t := t) (te := te) (g := g) (σ := σ) (vs0 := vs0) (Qd := fun H => Q (.ref Dl) H) g2.ok hD hq.1 ht hw (fun a W3 s2 g3 => hc a W3 s2 ((g1.trans g2).trans g3)) (fun a W3 s2 g3 => he a W3 s2 ((g1.trans g2).trans g3)) hq.2 fun W' ys vs' gw hl hF hr' hqq => hqq _ W' (g2.trans gw) rfl ⟨[Dl], ⟨Dl, vs', rfl, rfl, hl, hr'⟩, fun b mb => by
      cases List.mem_singleton.mp mb
      exact ⟨g2.live _ hD, fun s => g2.ok.S _ s hD, hF⟩⟩
    have el : (Y.signs z).length = z.cps.size := by unfold Y.signs; rw [List.length_map, Array.length_toList]
    exact lc_it (n := z.cps.size) (G := fun _ => True) (Y := fun i H x H' => H' = H ∧ ∃ c, z.cps[i]? = some c ∧ x = .str ⟨#[c]⟩) ⟨fun i H hi _ => hi, fun H _ => Nat.le_refl _, fun i H x H' hi _ y => y⟩ Pv p0 (fun _ _ _ _ => trivial) (fun i x H H' hi pp y => by
      obtain ⟨e1, c, hc, e2⟩ := y
      subst e1; subst e2
      refine ps i _ H' ⟨#[c]⟩ ?_ (fun W' gw => rfl) pp
      unfold Y.signs
      rw [List.getElem?_map, Array.getElem?_toList, hc]; rfl) (by rw [← el]; exact pd)) q)
/-- s.index(y) -/
abbrev rIndex0 : V → List V → Hp → VK → Prop := fun x xs H Q => ∃ (a b : Str) (k : Nat), x = .str a ∧ xs = [.str b] ∧ Txt.index0 a b = some k ∧ Q (.int (k : Nat)) H
theorem mt_index : MtR X "str.index" rIndex0 := by
  intro pins s σ H x xs v us Q I rx rs h
  obtain ⟨a, b, k, rfl, rfl, hk, hq⟩ := h
  obtain ⟨t, rfl⟩ := rx
  cases rs with
  | cons r1 rs =>
    cases rs
    obtain ⟨u, rfl⟩ := r1
    cases q : Builtin.Str.occurrences a b 0 a.length 1 with
    | nil =>
      unfold Txt.index0 at hk
      rw [q] at hk
      cases hk
    | cons k' rest =>
      have e1 : k' = k := by
        unfold Txt.index0 at hk
        rw [q] at hk
        exact Option.some.inj hk
      subst e1
      exact PySem.SC.index q ⟨.int (k' : Nat), H, I.tok _, ⟨_, rfl⟩, hq⟩
theorem ew_index {w1 w2 : WP Str} (ho : EvW e to σ W sI w1) (h : EvW e te σ W sI w2) : EvW e (tM1 rIndex0 to te) σ W sI (WP.index w1 w2) := fun W1 g Q q =>
  ho W1 g _ (w1.mono (fun n a hq x W2 g2 hn r1 => by
    subst hn; cases r1
    refine ⟨⟨a, rfl⟩, h W2 (g.trans g2) _ (w2.mono (fun n b hq y W3 g3 hn r => ?_) hq)⟩
    cases r
    obtain ⟨k, hk⟩ := Option.isSome_iff_exists.mp hq.1
    exact ⟨a, b, k, rfl, rfl, hk, hq.2 _ W3 (g2.trans g3) hn (by rw [hk]; exact rfl)⟩) q)
end
end Y

/-! defs handed over as arguments -/
namespace Y
open PySem PySem.Spec PyProof.Rows L2
/-- a def at its address that keeps its promise -/
structure CalAt (P : Program) (w : World) (K : PySem.W.Frag) (mg : Str → Option Value) (base : Heap) (k : Nat) (f : Addr) (sp : Sp) : Prop where
  ex : ∃ (fd : FuncData) (ps : List Str), FnOk P w K mg base CX0 k f fd ps sp ∧ PySem.W.keepIn K (.ref f) = true ∧ Binds K fd ps []
def spFn2 {α β γ : Type} [PyI α] [PyI β] (ρ : Rs ef0 γ) (m : α → β → WP γ) : Sp := fun vs H Q _ => ∃ (W : Wo) (a0 : α) (a1 : β) (v0 v1 : V), vs = [v0, v1] ∧ W.H = H ∧ Good ef0 W ∧ Rp W a0 v0 ∧ Rp W a1 v1 ∧ (m a0 a1).run W.n fun n r => ∀ v W', Gw ef0 W W' → W'.n = n → ρ.post W W' r v → Q v W'.H
def sFn {e : Ef} {φ : Type} (f : Addr) (m : φ) : Rs e φ := ⟨fun _ _ a v => v = .ref f ∧ a = m, fun _ h => h, fun _ h => h⟩
section
variable {α β γ φ : Type} {K : PySem.W.Frag} {e : Ef} {σ : L2.St} {W : Wo} {E : XK} {t0 t1 : TE} {ta : TA} {i : Nat} {f : Addr} {sp : Sp}
theorem ew_fn {m : φ} : EvW e (tC (.ref f)) σ W (sFn f m) (WP.pure m) := fun W1 g Q q => q _ W1 (Gw.refl g.ok) rfl ⟨rfl, rfl⟩
theorem ew_callL {ρ : Rs e γ} {w : WP γ} (hv : σ[i]? = some (some (.ref f))) (h : EvW e (tCall sp [] E ta) σ W ρ w) : EvW e (tCallL i f sp [] E ta) σ W ρ w := fun W1 g Q q => ⟨hv, h W1 g Q q⟩
theorem ev_fn2N [PyI α] [PyI β] {k : Kd γ} {m : α → β → WP γ} {w0 : WP α} {w1 : WP β} (h0 : EvW e t0 σ W sI w0) (h1 : EvW e t1 σ W sI w1) : EvW e (tCall (spFn2 (sN k) m) [] E (tCons t0 (tCons t1 tNil))) σ W (sN k) (WP.b2 w0 w1 m) := ew_call2N h0 h1 fun W2 b0 b1 x0 x1 g2 r0 r1 Q q E =>
  ⟨W2, b0, b1, x0, x1, rfl, rfl, g2.z, r0, r1, WP.mono _ (fun n c h v W3 g3 hn p => h v W3 (Gw.up g2 g3) hn (sN_up g2 p)) q⟩
end
section
variable {α β γ s : Type} {K : PySem.W.Frag} {e : Ef} {σ : L2.St} {W : Wo} {tl : TE} {D : Ends} {tu tz : TS} {R : Nat → β → Prop}
theorem st_forF [PyI α] {gt : TG} {T : α → Wo → L2.St → L2.St → Prop} (ht : Tk gt T) {w : WP (Ls α)} {body : α → s → WP (Ctl s γ)} {f : s → WP β} {r : γ → WP β} {x0 : s} (h : EvW e tl σ W sI w) (g : Good e W) (hm : ((w.bind fun x => WP.pure x.l).bind fun xs => WP.after (WP.loop body xs x0) f r).run W.n R)
    (q : ∀ (xs : List α) W1, Gw e W W1 → ∃ INV : s → L2.St → Wo → Prop, INV x0 σ W1 ∧ (∀ y σ' W', INV y σ' W' → St W1 W') ∧ Turn INV body r R D tu T ∧ ∀ y σ' W', INV y σ' W' → (f y).run W'.n R → D.nx σ' W'.H) : tFor (iList K tl) gt tu D σ W.H :=
  h W (Gw.refl g) _ (w.mono (fun n xs hm v W1 g1 hn ⟨p, vs, e2, hF, hp, hr⟩ => by
    subst hn; subst e2
    obtain ⟨INV, h0, keep, step, hd⟩ := q xs.l W1 g1
    obtain ⟨Pv, p0, pk, ps, pd⟩ := pv_loop (D := D) INV h0 hm hd
    refine ⟨p, rfl, ⟨vs, SqL.of hp⟩, for_list (xs := vs) Pv p0 (fun i σ' H' _ q => ?_) (fun i x σ' H' hi q => ?_) (by rw [← Paired.length hr]; exact pd)⟩
    · obtain ⟨y, W', e1, q'⟩ := pk i σ' H' q
      subst e1
      exact SqL.of ((keep y σ' W' q').c _ _ hF hp)
    · obtain ⟨a, ha, ra⟩ := hr.getV hi
      obtain ⟨y, W', R', e1, q1, q2, q3, q4, q5⟩ := ps i σ' H' a ha q
      subst e1
      exact ht a x W' σ' _ (PyI.st (keep y σ' W' q1) ra) fun s2 h2 => step a y σ' s2 W' R' _ h2 q1 q2 q3 q4 q5) hm)
end
end Y

/-! rules that name the written part, for blocks of comprehensions -/
namespace Y
open PySem PySem.Spec PyProof.Rows L2
section
variable {X : Cx} {K : PySem.W.Frag}
theorem ix_tupK (h : X.K = K) : IxR X (rIxT K) := h ▸ ix_tup
theorem ix_listK (h : X.K = K) : IxR X (rIxL K) := h ▸ ix_list
end
end Y

/-! == of data of any depth -/
namespace Y
open PySem PySem.Spec PyProof.Rows L2
class Dat (α : Type) [PyI α] where
  dat : α → PyData
  dp : ∀ {K : PySem.W.Frag} {W : Wo} {a : α} {v : V}, Rp W a v → Dp K W.H v (dat a)
open Dat (dat)
instance : Dat Int := ⟨fun i => .int i, fun h => by cases h; exact .int _⟩
instance : Dat Bool := ⟨fun i => .bool i, fun h => by cases h; exact .bl _⟩
instance : Dat Str := ⟨fun i => .str i, fun h => by cases h; exact .str _⟩
instance : Dat Unit := ⟨fun _ => .none, fun h => by cases h; exact .non⟩
instance {α : Type} [PyI α] [Dat α] : Dat (Option α) := ⟨fun o => match o with | none => .none | some a => dat a, fun {K W o v} h => by
  cases o with
  | none => cases h; exact .non
  | some a => exact Dat.dp h.2⟩
instance {α β : Type} [PyI α] [PyI β] [Dat α] [Dat β] : Dat (α × β) := ⟨fun c => .tuple [dat c.1, dat c.2], fun ⟨p, x, y, h1, h2, h3, h4⟩ => by subst h1; exact .tup (SqT.of h2) (.cons (Dat.dp h3) (.cons (Dat.dp h4) .nil))⟩
theorem dpAll {α : Type} [PyI α] [Dat α] {K : PySem.W.Frag} {W : Wo} {xs : List α} {vs : List V} (h : Rps W xs vs) : DpAll K W.H vs (xs.map dat) := by
  induction h with
  | nil => exact .nil
  | cons r t ih => exact .cons (Dat.dp r) ih
instance {α : Type} [PyI α] [Dat α] : Dat (List α) := ⟨fun xs => .tuple (xs.map dat), fun ⟨p, vs, h1, h2, h3⟩ => by subst h1; exact .tup (SqT.of h2) (dpAll h3)⟩
instance {α : Type} [PyI α] [Dat α] : Dat (Ls α) := ⟨fun xs => .list (xs.l.map dat), fun ⟨p, vs, h1, _, h2, h3⟩ => by subst h1; exact .lst (SqL.of h2) (dpAll h3)⟩
namespace WP
variable {α β : Type}
abbrev eqD [PyI α] [PyI β] [Dat α] [Dat β] (a : WP α) (b : WP β) : WP Bool := b2 a b fun x y => req (SeqAt.shaped (dat x) = true ∧ SeqAt.shaped (dat y) = true) (PyData.eqv (dat x) (dat y))
abbrev neD [PyI α] [PyI β] [Dat α] [Dat β] (a : WP α) (b : WP β) : WP Bool := b2 a b fun x y => req (SeqAt.shaped (dat x) = true ∧ SeqAt.shaped (dat y) = true) (!PyData.eqv (dat x) (dat y))
end WP
section
variable {α β : Type} [PyI α] [PyI β] [Dat α] [Dat β] {K : PySem.W.Frag} {e : Ef} {σ : L2.St} {W : Wo} {ta tb : TE}
theorem ew_eqD {w1 : WP α} {w2 : WP β} (ha : EvW e ta σ W sI w1) (hb : EvW e tb σ W sI w2) : EvW e (tOp (rEqD K) ta tb) σ W sI (WP.eqD w1 w2) :=
  ew_op2 ha hb fun W2 a b x y r1 r2 hc Q q => ⟨_, _, Dat.dp r1, Dat.dp r2, hc.1, hc.2, q _ _ (Same.refl _) rfl⟩
theorem ew_neD {w1 : WP α} {w2 : WP β} (ha : EvW e ta σ W sI w1) (hb : EvW e tb σ W sI w2) : EvW e (tOp (rNeD K) ta tb) σ W sI (WP.neD w1 w2) :=
  ew_op2 ha hb fun W2 a b x y r1 r2 hc Q q => ⟨_, _, Dat.dp r1, Dat.dp r2, hc.1, hc.2, q _ _ (Same.refl _) rfl⟩
end
section
variable {X : Cx} {K : PySem.W.Frag}
theorem op_neDK (h : X.K = K) (hu : X.A.units + 64 < cLine) : OpR X (compareOp .NotEq) (rNeD K) := h ▸ op_neD hu
end
end Y

/-! sources of items, and comprehensions of two clauses -/
namespace Y
open PySem PySem.Spec PyProof.Rows L2
/-- J gives xs, one after another, and changes nothing, as long as what lies at fp stays -/
def Iter {α : Type} (W2 : Wo) (fp : List Addr) (J : It) (xs : List α) (val : Wo → α → V → Prop) : Prop := ∀ W', St W2 W' → Kp fp W2 W' → (∀ i, i < xs.length → J.go i W'.H) ∧ J.stop xs.length W'.H ∧ ∀ i x H', i < xs.length → J.yld i W'.H x H' → H' = W'.H ∧ ∃ a, xs[i]? = some a ∧ val W' a x
/-- what wi goes through; fp is new, or of old addresses that are told -/
def Src {α : Type} (e : Ef) (wi : TI) (σ : L2.St) (W : Wo) (Bs : Addr → Prop) (val : Wo → α → V → Prop) (w : WP (List α)) : Prop :=
  ∀ W1, Gw e W W1 → ∀ R : It → Hp → Prop, w.run W1.n (fun n xs => ∀ W2 J fp, Gw e W1 W2 → W2.n = n → (∀ a ∈ fp, (W1.H a = none ∨ Bs a) ∧ ¬ e.S a ∧ W2.H a ≠ none) → Iter W2 fp J xs val → R J W2.H) → wi σ W1.H R
section
variable {α β γ : Type} {K : PySem.W.Frag} {e : Ef} {σ : L2.St} {W W2 : Wo} {Bs : Addr → Prop} {ta tb te tl : TE} {t u : TT} {i j k m n : Nat} {v : V} {g g1 : TG} {vs0 vs1 : List Nat}
theorem src_R {w : WP Int} (h : EvW e ta σ W sI w) : Src e (iRng1 (tCons ta tNil)) σ W Bs (fun W a x => Rp W a x) (WP.range1 w) := fun W1 g R hm => h W1 g _ (w.mono (fun n k hq v W2 g2 hn r => by
  subst hn; cases r
  obtain ⟨⟨b1, b2⟩, hq⟩ := hq
  have el : (rangeL 0 k).length = k.toNat := by rw [rangeL_len, Int.sub_zero]
  refine ⟨k, rfl, by omega, by omega, hq W2 _ [] g2 rfl (fun _ m => nomatch m) fun W' _ _ => ⟨fun i hi => by rw [el] at hi; exact hi, by rw [el]; exact Nat.le_refl _, fun i x H' hi y => ⟨y.1, _, rangeL_get (by rw [el] at hi; rw [Int.sub_zero]; exact hi), y.2⟩⟩⟩) hm)
end
theorem wipe1 {s : L2.St} {j : Nat} {x : V} : wipe ((wipe s [j]).set j (some x)) [j] = wipe s [j] := by simp [wipe]
namespace WP
variable {α β γ : Type}
def comp1 (c : β → WP Bool) (f : β → WP γ) : Nat → List β → WP (List γ)
  | _, [] => pure []
  | k, b :: bs => (c b).bind fun t => cond t ((f b).bind fun y => (req (k < 100000) y).bind fun y => (comp1 c f (k + 1) bs).bind fun ys => pure (y :: ys)) (comp1 c f k bs)
def comp2 (c : α → WP Bool) (w : α → WP (List β)) (c1 : α → β → WP Bool) (f : α → β → WP γ) : Nat → List α → WP (List γ)
  | _, [] => pure []
  | k, a :: as => (c a).bind fun t => cond t ((w a).bind fun bs => (comp1 (c1 a) (f a) k bs).bind fun zs => (comp2 c w c1 f (k + zs.length) as).bind fun r => pure (zs ++ r)) (comp2 c w c1 f k as)
abbrev lc2 (w : WP (List α)) (c : α → WP Bool) (w1 : α → WP (List β)) (c1 : α → β → WP Bool) (f : α → β → WP γ) : WP (List γ) := w.bind fun xs => comp2 c w1 c1 f 0 xs
end WP
/-- the new list at Dl holds ys, all else has grown since W2 -/
structure Acc {γ : Type} [PyI γ] (e : Ef) (Dl : Addr) (W2 W' : Wo) (ys : List γ) : Prop where
  g : Gw e W2 W'
  h : ∃ vs', W'.H Dl = some (.lst vs') ∧ Rps W' ys vs'
  f : ¬ W'.F Dl
theorem Acc.go {γ : Type} [PyI γ] {e : Ef} {Dl : Addr} {W2 W' W3 : Wo} {ys : List γ} (o : Acc e Dl W2 W' ys) (nS : ¬ e.S Dl) (g : Gw e W' W3) : Acc e Dl W2 W3 ys := by
  obtain ⟨vs', h1, h2⟩ := o.h
  exact ⟨o.g.trans g, ⟨vs', g.keep _ _ h1 nS, Rps.st g.st h2⟩, fun z => (g.new Dl z).elim o.f (some_ne h1)⟩
theorem Acc.snoc {γ : Type} [PyI γ] {e : Ef} {Dl : Addr} {W2 W' : Wo} {ys : List γ} {y : γ} {v : V} (o : Acc e Dl W2 W' ys) (hg : Good e W2) (hD : W2.H Dl = none) (r : Rp W' y v) : ∃ vs', W'.H Dl = some (.lst vs') ∧ vs'.length = ys.length ∧ Acc e Dl W2 (W'.set Dl (.lst (vs' ++ [v]))) (ys ++ [y]) ∧ St W' (W'.set Dl (.lst (vs' ++ [v]))) := by
  obtain ⟨vs', h1, h2⟩ := o.h
  have s := St.mut (u := .lst (vs' ++ [v])) h1 (fun _ z => by cases z) o.f
  exact ⟨vs', h1, (Paired.length h2).symm, ⟨Gw.mut hg o.g hD h1 (fun _ z => by cases z) o.f, ⟨_, upd_same, Paired.snoc (Rps.st s h2) (PyI.st s r)⟩, o.f⟩, s⟩
section
variable {α β γ : Type} [PyI γ] {K : PySem.W.Frag} {e : Ef} {σ : L2.St} {W W2 : Wo} {ta tb te tl : TE} {t t1 : TT} {i j k m n : Nat} {v : V} {g g1 : TG} {vs0 vs1 : List Nat} {wi wi1 : TI}
/-- the inner clause -/
theorem inner {val1 : Wo → β → V → Prop} {T1 : β → Wo → L2.St → Prop} {c1 : β → WP Bool} {f : β → WP γ} {s2 : L2.St} {Dl : Addr} {W4 : Wo} {J1 : It} {bs : List β} {fp : List Addr} {Nx : Hp → Prop} {QQ1 : Nat → List γ → Prop} {ys : List γ}
    (hg : Good e W2) (hD : W2.H Dl = none) (ht1 : Takes val1 g1 s2 vs1 T1) (hw1 : ∀ b W' s3, T1 b W' s3 → wipe s3 vs1 = wipe s2 vs1)
    (hc1 : ∀ b W3 s3, Gw e W2 W3 → St W4 W3 → T1 b W3 s3 → EvT e t1 s3 W3 (c1 b)) (he : ∀ b W3 s3, Gw e W2 W3 → St W4 W3 → T1 b W3 s3 → EvW e te s3 W3 sI (f b))
    (ok : Acc e Dl W2 W4 ys) (hJ : Iter W4 fp J1 bs val1) (hfp : ∀ a ∈ fp, a ≠ Dl ∧ ¬ e.S a) (hm : (WP.comp1 c1 f ys.length bs).run W4.n fun n r => QQ1 n (ys ++ r)) (hend : ∀ W5 zs, Acc e Dl W2 W5 zs → Kp fp W4 W5 → QQ1 W5.n zs → Nx W5.H) :
    ∃ W1 : Nat → Nat → Hp → Prop, (∃ m, W1 0 m W4.H) ∧ ∀ j k H, W1 j k H → (J1.stop j H ∧ Nx H) ∨ (J1.go j H ∧ ∃ Nx1 : Hp → Prop, (∀ H', Nx1 H' → ∃ k', k' < k ∧ W1 (j + 1) k' H') ∧ ∀ x H', J1.yld j H x H' → g1 x (wipe s2 vs1) H' fun σ3 H5 => wipe σ3 vs1 = wipe s2 vs1 ∧ t1 σ3 H5 fun b H6 =>
      if b = true then te σ3 H6 fun y H7 => ∃ acc, H7 Dl = some (.lst acc) ∧ acc.length < sizeLine ∧ Nx1 (upd H7 Dl (.lst (acc ++ [y]))) else Nx1 H6) := by
  have nS : ¬ e.S Dl := fun s => hg.S Dl s hD
  let Pv : Nat → Hp → Prop := fun j H => ∃ W5 zs, W5.H = H ∧ Acc e Dl W2 W5 zs ∧ St W4 W5 ∧ Kp fp W4 W5 ∧ (WP.comp1 c1 f zs.length (bs.drop j)).run W5.n (fun n r => QQ1 n (zs ++ r))
  refine ⟨fun j m H => m = bs.length - j ∧ j ≤ bs.length ∧ Pv j H, ⟨bs.length, by simp, Nat.zero_le _, W4, ys, rfl, ok, St.refl _, Kp.refl, by rw [List.drop_zero]; exact hm⟩, ?_⟩
  rintro j m H ⟨rfl, hj, W5, zs, rfl, ok5, s45, k45, hr⟩
  obtain ⟨j1, j2, j3⟩ := hJ W5 s45 k45
  by_cases hlt : j < bs.length
  · refine .inr ⟨j1 j hlt, Pv (j + 1), fun H' p' => ⟨bs.length - (j + 1), by omega, rfl, hlt, p'⟩, fun x H' hy => ?_⟩
    obtain ⟨e1, b, hb, vb⟩ := j3 j x H' hlt hy
    subst e1
    have ed : bs.drop j = b :: bs.drop (j + 1) := by rw [List.drop_eq_getElem_cons hlt, (List.getElem?_eq_some_iff.mp hb).2]
    rw [ed] at hr
    refine ht1 b x W5 _ vb fun s3 hs3 => ⟨hw1 b W5 s3 hs3, ?_⟩
    refine hc1 b W5 s3 ok5.g s45 hs3 W5 (Gw.refl ok5.g.ok) _ ((c1 b).mono (fun n t hq W6 g6 hn => ?_) hr)
    subst hn
    have ok6 := ok5.go nS g6
    have k46 : Kp fp W4 W6 := k45.trans (Kp.gw g6 fun a m => (hfp a m).2)
    cases t with
    | false => exact ⟨W6, zs, rfl, ok6, s45.trans g6.st, k46, hq⟩
    | true =>
      refine he b W5 s3 ok5.g s45 hs3 W6 g6 _ ((f b).mono (fun n y hq v W7 g7 hn r => ?_) hq)
      subst hn
      have ok7 := ok6.go nS g7
      obtain ⟨vs', q1, q2, q3, q4⟩ := ok7.snoc hg hD r
      refine ⟨vs', q1, by rw [q2]; exact sz_lt hq.1, W7.set Dl (.lst (vs' ++ [v])), zs ++ [y], rfl, q3, ((s45.trans g6.st).trans g7.st).trans q4, (k46.trans (Kp.gw g7 fun a m => (hfp a m).2)).upd (fun a m => (hfp a m).1), ?_⟩
      rw [List.length_append, List.length_singleton]
      exact (WP.comp1 c1 f _ _).mono (fun n r hq => by rw [List.append_assoc]; exact hq) hq.2
  · have e2 : j = bs.length := by omega
    subst e2
    rw [List.drop_length] at hr
    have hr : QQ1 W5.n (zs ++ []) := hr
    rw [List.append_nil] at hr
    exact .inl ⟨j2, hend W5 zs ok5 k45 hr⟩
/-- [f(a, b) for a in .. if c for b in .. if c1] -/
theorem ew_lc2 {val : Wo → α → V → Prop} {val1 : Wo → β → V → Prop} {w : WP (List α)} {T : α → Wo → L2.St → Prop} {T1 : L2.St → β → Wo → L2.St → Prop} {c : α → WP Bool} {w1 : α → WP (List β)} {c1 : α → β → WP Bool} {f : α → β → WP γ}
    (h : Src e wi σ W (fun a => W.H a ≠ none) val w) (ht : Takes val g σ vs0 T) (hw : ∀ a W' s2, T a W' s2 → wipe s2 vs0 = wipe σ vs0) (hc : ∀ a W1 s2, Gw e W W1 → T a W1 s2 → EvT e t s2 W1 (c a))
    (h1 : ∀ a W1 s2, Gw e W W1 → T a W1 s2 → Src e wi1 s2 W1 (fun a => W.H a ≠ none) val1 (w1 a)) (ht1 : ∀ s2, Takes val1 g1 s2 vs1 (T1 s2)) (hw1 : ∀ s2 b W' s3, T1 s2 b W' s3 → wipe s3 vs1 = wipe s2 vs1)
    (hc1 : ∀ a W1 s2 b W3 s3, Gw e W W1 → T a W1 s2 → Gw e W W3 → St W1 W3 → T1 s2 b W3 s3 → EvT e t1 s3 W3 (c1 a b)) (he : ∀ a W1 s2 b W3 s3, Gw e W W1 → T a W1 s2 → Gw e W W3 → St W1 W3 → T1 s2 b W3 s3 → EvW e te s3 W3 sI (f a b)) :
    EvW e (tLc2 wi g t wi1 g1 t1 te vs0 vs1) σ W (sN (kL γ)) (WP.lc2 w c w1 c1 f) := fun W1 gW Q q =>
  h W1 gW _ (w.mono (fun n xs hq W2 J fp g2 hn hfp hJ => by
    subst hn
    intro Dl hD
    have hg := g2.ok
    have nS : ¬ e.S Dl := fun s => hg.S Dl s hD
    have gW2 := gW.trans g2
    have hWD : W.H Dl = none := gW2.live Dl hD
    have fD : ∀ a ∈ fp, a ≠ Dl := fun a m z => (hfp a m).2.2 (z ▸ hD)
    let QQ : Nat → List γ → Prop := fun n ys => ∀ v W3, Gw e W1 W3 → W3.n = n → (sN (e := e) (kL γ)).post W1 W3 ys v → Q v W3.H
    let Pv : Nat → Hp → Prop := fun i H => ∃ W' ys, W'.H = H ∧ Acc e Dl W2 W' ys ∧ Kp fp W2 W' ∧ (WP.comp2 c w1 c1 f ys.length (xs.drop i)).run W'.n (fun n r => QQ n (ys ++ r))
    refine ⟨fun i m H => m = xs.length - i ∧ i ≤ xs.length ∧ Pv i H, ⟨xs.length, by simp, Nat.zero_le _, ⟨upd W2.H Dl (.lst []), W2.F, W2.n⟩, [], rfl, ⟨Gw.alloc hg hD, ⟨[], upd_same, .nil⟩, fun z => (hg.F Dl z).2 hD⟩, Kp.gw (Gw.alloc hg hD) (fun a m => (hfp a m).2.1), by rw [List.drop_zero]; exact hq⟩, ?_⟩
    rintro i m H ⟨rfl, hi, W', ys, rfl, ok, kp, hr⟩
    obtain ⟨j1, j2, j3⟩ := hJ W' ok.g.st kp
    by_cases hlt : i < xs.length
    · refine .inr ⟨j1 i hlt, Pv (i + 1), fun H' p' => ⟨xs.length - (i + 1), by omega, rfl, hlt, p'⟩, fun x H' hy => ?_⟩
      obtain ⟨e1, a, ha, va⟩ := j3 i x H' hlt hy
      subst e1
      have ed : xs.drop i = a :: xs.drop (i + 1) := by rw [List.drop_eq_getElem_cons hlt, (List.getElem?_eq_some_iff.mp ha).2]
      rw [ed] at hr
      have gWW := gW2.trans ok.g
      refine ht a x W' _ va fun s2 hs2 => ⟨hw a W' s2 hs2, ?_⟩
      refine hc a W' s2 gWW hs2 W' (Gw.refl ok.g.ok) _ ((c a).mono (fun n b hq W3 g3 hn => ?_) hr)
      subst hn
      have ok3 := ok.go nS g3
      have k3 := kp.trans (Kp.gw g3 fun a m => (hfp a m).2.1)
      cases b with
      | false => exact ⟨W3, ys, rfl, ok3, k3, hq⟩
      | true =>
        refine h1 a W' s2 gWW hs2 W3 g3 _ ((w1 a).mono (fun n bs hq W4 J1 fq g4 hn hfq hJ1 => ?_) hq)
        subst hn
        have ok4 := ok3.go nS g4
        have k4 := k3.trans (Kp.gw g4 fun a m => (hfp a m).2.1)
        have hD3 : W3.H Dl ≠ none := by obtain ⟨vs', q1, _⟩ := ok3.h; exact some_ne q1
        have s14 : St W' W4 := g3.st.trans g4.st
        refine inner (val1 := val1) (T1 := T1 s2) (c1 := c1 a) (f := f a) (W2 := W2) (ys := ys) (fp := fq ++ fp) (QQ1 := fun n l => (WP.comp2 c w1 c1 f l.length (xs.drop (i + 1))).run n fun n r => QQ n (l ++ r)) hg hD (ht1 s2) (hw1 s2)
          (fun b V3 s3 gv sv tv => hc1 a W' s2 b V3 s3 gWW hs2 (gW2.trans gv) (s14.trans sv) tv) (fun b V3 s3 gv sv tv => he a W' s2 b V3 s3 gWW hs2 (gW2.trans gv) (s14.trans sv) tv) ok4 (fun V sv kv => hJ1 V sv fun x m o hx => kv x (List.mem_append_left _ m) o hx) (fun x m => ?_) ?_ (fun W5 zs ok5 k5 hq5 => ?_)
        · rcases List.mem_append.mp m with m | m
          · refine ⟨fun z => ?_, (hfq x m).2.1⟩
            subst z
            rcases (hfq x m).1 with z | z
            · exact hD3 z
            · exact z hWD
          · exact ⟨fD x m, (hfp x m).2.1⟩
        · refine (WP.comp1 (c1 a) (f a) _ _).mono (fun n zs hq => ?_) hq
          rw [List.length_append]
          exact (WP.comp2 c w1 c1 f _ _).mono (fun n r hq => by rw [List.append_assoc]; exact hq) hq
        · exact ⟨W5, zs, rfl, ok5, k4.trans fun x m o hx => k5 x (List.mem_append_right _ m) o hx, hq5⟩
    · have e2 : i = xs.length := by omega
      subst e2
      rw [List.drop_length] at hr
      have hr : QQ W'.n (ys ++ []) := hr
      rw [List.append_nil] at hr
      obtain ⟨vs', o2, o3⟩ := ok.h
      exact .inl ⟨j2, hr _ W' (g2.trans ok.g) rfl ⟨[Dl], ⟨Dl, vs', rfl, rfl, o2, o3⟩, fun b mb => by
        cases List.mem_singleton.mp mb
        exact ⟨g2.live _ hD, nS, ok.f⟩⟩⟩) q)
end
end Y

/-! comprehensions whose items are new lists -/
namespace Y
open PySem PySem.Spec PyProof.Rows L2
section
variable {α β γ : Type} {K : PySem.W.Frag} {e : Ef} {σ : L2.St} {W W2 : Wo} {ta tb te tc tl : TE} {t u : TT} {i j k m n : Nat} {v : V} {g : TG} {vs0 : List Nat} {wi : TI}
end
end Y

/-! data in lists; lists and tuples repeated -/
namespace Y
open PySem PySem.Spec PyProof.Rows L2
open Dat (dat)
theorem hu65 {A : Around} {k : Nat} (hr : Room k A) : A.units + 65 < cLine := by have := hr.un; omega
namespace WP
variable {α β : Type}
abbrev inD [PyI α] [PyI β] [Dat α] [Dat β] (a : WP α) (b : WP (List β)) : WP Bool := b2 a b fun x ys => req (SeqAt.shaped (dat x) = true ∧ SeqAt.shaped (.list (ys.map dat)) = true) ((ys.map dat).any fun z => PyData.eqv z (dat x))
abbrev rep (a : WP (List α)) (b : WP Int) : WP (List α) := b2 a b fun xs k => req (-1000000 ≤ k ∧ k ≤ 1000000 ∧ xs.length * k.toNat ≤ 100000) (List.replicate k.toNat xs).flatten
end WP
section
variable {α β : Type} [PyI α] [PyI β] {K : PySem.W.Frag} {e : Ef} {σ : L2.St} {W : Wo} {ta tb : TE}
theorem ew_inD [Dat α] [Dat β] {w1 : WP α} {w2 : WP (List β)} (ha : EvW e ta σ W sI w1) (hb : EvW e tb σ W (sR (kL β)) w2) : EvW e (tOp (rInD K) ta tb) σ W sI (WP.inD w1 w2) :=
  ew_op ha hb fun W1 W2 a ys x y g r1 ⟨_, ⟨p, vs, _, h1, h2, h3⟩, _⟩ Q q => by
    subst h1
    exact ⟨_, _, Dat.dp r1, .lst (SqL.of h2) (dpAll h3), q.1.1, q.1.2, q.2 _ W2 (Gw.refl g.ok) rfl rfl⟩
theorem ew_notInD [Dat α] [Dat β] {w1 : WP α} {w2 : WP (List β)} (ha : EvW e ta σ W sI w1) (hb : EvW e tb σ W (sR (kL β)) w2) : EvW e (tOp (rNotInD K) ta tb) σ W sI (WP.not (WP.inD w1 w2)) := fun W1 g Q q =>
  ew_op (ρ1 := sI) (ρ2 := sR (kL β)) (ρ := sI) (w1 := w1) (w2 := w2) (f := fun (x : α) (ys : List β) => (WP.req (SeqAt.shaped (dat x) = true ∧ SeqAt.shaped (.list (ys.map dat)) = true) ((ys.map dat).any fun z => PyData.eqv z (dat x))).bind fun b => WP.pure (!b)) ha hb (fun W1 W2 a ys x y g r1 ⟨_, ⟨p, vs, _, h1, h2, h3⟩, _⟩ Q q => by
    subst h1
    exact ⟨_, _, Dat.dp r1, .lst (SqL.of h2) (dpAll h3), q.1.1, q.1.2, q.2 _ W2 (Gw.refl g.ok) rfl rfl⟩) W1 g Q q
end
section
variable {X : Cx} {K : PySem.W.Frag}
end
end Y

namespace Y
open PySem PySem.Spec PyProof.Rows L2
open Sem (wp)
section
variable {prog : Program} {w : World} {A : Around} {E : Value → Shared → Prop} {s : Shared}
end
section
variable {X : Cx}
end
end Y

/-! range(a, b) -/
namespace Y
open PySem PySem.Spec PyProof.Rows L2
section
variable {α β γ s : Type} {K : PySem.W.Frag} {e : Ef} {σ : L2.St} {W : Wo} {ta tb : TE} {j : Nat} {D : Ends} {tu tz : TS} {R : Nat → β → Prop} {Bs : Addr → Prop}
theorem st_forR2 {w1 w2 : WP Int} {body : Int → s → WP (Ctl s γ)} {f : s → WP β} {r : γ → WP β} {x0 : s} (h1 : EvW e ta σ W sI w1) (h2 : EvW e tb σ W sI w2) (g : Good e W) (hm : ((WP.range2 w1 w2).bind fun xs => WP.after (WP.loop body xs x0) f r).run W.n R)
    (q : ∀ W1, Gw e W W1 → ∃ INV : s → L2.St → Wo → Prop, INV x0 σ W1 ∧ Turn INV body r R D tu (TkN j) ∧ ∀ y σ' W', INV y σ' W' → (f y).run W'.n R → D.nx σ' W'.H) : tFor (iRng2 (tCons ta (tCons tb tNil))) (gName j) tu D σ W.H :=
  h1 W (Gw.refl g) _ (w1.mono (fun n a hm v W1 g1 hn r1 => by
    subst hn; cases r1
    refine h2 W1 g1 _ (w2.mono (fun n b hm v W2 g2 hn r2 => ?_) hm)
    subst hn; cases r2
    obtain ⟨INV, h0, step, hd⟩ := q W2 (g1.trans g2)
    obtain ⟨⟨b1, b2, b3, b4⟩, hm⟩ := hm
    obtain ⟨Pv, p0, pk, ps, pd⟩ := pv_loop (D := D) INV h0 hm hd
    have el : (rangeL a b).length = (b - a).toNat := rangeL_len
    refine ⟨a, b, rfl, ⟨by omega, by omega, by omega, by omega⟩, for_range (lo := a) (n := (b - a).toNat) Pv p0 (fun i σ' H' hi q => ?_) (by rw [← el]; exact pd)⟩
    obtain ⟨y, W', R', e1, q1, q2, q3, q4, q5⟩ := ps i σ' H' _ (rangeL_get hi) q
    subst e1
    exact step _ y σ' _ W' R' _ ⟨_, rfl, rfl⟩ q1 q2 q3 q4 q5) hm)
theorem q_forR2 {w1 w2 : WP Int} {body : Int → s → WP (Ctl s γ)} {f : s → WP β} {r : γ → WP β} {x0 : s} (h1 : EvW e ta σ W sI w1) (h2 : EvW e tb σ W sI w2) (g : Good e W) (hm : ((WP.range2 w1 w2).bind fun xs => WP.after (WP.loop body xs x0) f r).run W.n R)
    (q : ∀ W1, Gw e W W1 → ∃ INV : s → L2.St → Wo → Prop, INV x0 σ W1 ∧ Turn INV body r R { D with nx := tz D } tu (TkN j) ∧ ∀ y σ' W', INV y σ' W' → (f y).run W'.n R → tz D σ' W'.H) : tSeq (tFor (iRng2 (tCons ta (tCons tb tNil))) (gName j) tu) tz D σ W.H := st_forR2 (D := { D with nx := tz D }) h1 h2 g hm q
end
end Y

/-! texts repeated, a sign in a text, isinstance of any data, defs of no argument -/
namespace Y
open PySem PySem.Spec PyProof.Rows L2
namespace WP
abbrev b0 {γ : Type} (m : WP γ) : WP γ := m
end WP
section
variable {α β γ s : Type} {K : PySem.W.Frag} {e : Ef} {σ : L2.St} {W : Wo} {ta tb te : TE}
/-- the class of data -/
class TyN (α : Type) [PyI α] where
  nm : String
  ty : ∀ {K : PySem.W.Frag} {W : Wo} {a : α} {v : V}, Rp W a v → TyX K W.H v (.type nm)
instance : TyN Int := ⟨"int", fun h => by cases h; exact .base (.int _)⟩
instance : TyN Bool := ⟨"bool", fun h => by cases h; exact .base (.bl _)⟩
instance : TyN Str := ⟨"str", fun h => by cases h; exact .base (.str _)⟩
instance : TyN Unit := ⟨"NoneType", fun h => by cases h; exact .base .non⟩
instance {α β : Type} [PyI α] [PyI β] : TyN (α × β) := ⟨"tuple", fun ⟨p, x, y, h1, h2, _⟩ => by subst h1; exact .base (.tup h2)⟩
instance {α β γ : Type} [PyI α] [PyI β] [PyI γ] : TyN (Tri α β γ) := ⟨"tuple", fun ⟨p, x, y, z, h1, h2, _⟩ => by subst h1; exact .base (.tup h2)⟩
instance {α : Type} [PyI α] : TyN (List α) := ⟨"tuple", fun ⟨p, vs, h1, h2, _⟩ => by subst h1; exact .base (.tup h2)⟩
instance {α : Type} [PyI α] : TyN (Ls α) := ⟨"list", fun ⟨p, vs, h1, _, h2, _⟩ => by subst h1; exact .base (.lst h2)⟩
theorem ew_isiD [PyI α] [TyN α] {w : WP α} (T : String) (b : Bool) (hk : kitB (TyN.nm α) T = some b) (h : EvW e te σ W sI w) : EvW e (tCB (rIsi K) (tCons te (tCons (tC (.ty T)) tNil))) σ W sI (w.bind fun _ => WP.pure b) := fun W1 g Q q => h W1 g _ (w.mono (fun n z hq v W2 g2 hn r =>
  ⟨_, _, _, _, b, rfl, .ty _, TyN.ty r, kit_ty hk, hq _ W2 g2 hn rfl⟩) q)
end
section
variable {X : Cx}
end
end Y

/-! dicts gone through: they are frozen for good; defs that return a dict or None; comprehensions of one clause over any source -/
namespace Y
open PySem PySem.Spec PyProof.Rows L2
/-- a frozen dict, as data -/
structure Fd (β : Type) where
  kvs : List (Sq × β)
instance {β : Type} [PyI β] : PyI (Fd β) := ⟨fun W d v => ∃ p ks od, v = .ref p ∧ W.F p ∧ W.H p = some (.frz od (.dT ks)) ∧ Paired (Kv W) d.kvs ks, fun t ⟨p, ks, od, h1, h2, h3, h4⟩ => ⟨p, ks, od, h1, t.f p h2, t.c p _ h2 h3, Paired.imp (fun a b h => ⟨h.1, PyI.st t h.2⟩) h4⟩⟩
instance {β : Type} [PyI β] : NN (Fd β) := ⟨fun ⟨p, ks, od, h1, _⟩ z => by rw [h1] at z; cases z⟩
def tFrz (t : TS) : TS := fun D σ H => ∃ d u, H d = some u ∧ Mut (some u) ∧ ∀ od, t D σ (upd H d (.frz od u))
theorem ps_frz {X : Cx} {st : Stmt} {t : TS} (h : PS X st t) : PS X st (tFrz t) := by
  refine ⟨fun pins s σ H D I hw => ?_⟩
  obtain ⟨d, u, hd, mu, hw⟩ := hw
  obtain ⟨od, I1⟩ := I.lock hd mu
  exact h.run pins s σ _ _ I1 (hw od)
section
variable {α β γ s : Type} [PyI β] {K : PySem.W.Frag} {e : Ef} {σ : L2.St} {W W0 : Wo} {ta tb te tl td : TE} {t : TS} {tt : TT} {i j k m n : Nat} {v : V} {D : Ends} {tz tu : TS} {R : Nat → γ → Prop} {g : TG} {vs0 : List Nat} {wi : TI} {fp : List Addr} {Bs : Addr → Prop}
theorem ew_fd {w : WP (Fd β)} (h : EvW e te σ W sI w) : EvW e te σ W (sR (kDr β)) (w.bind fun x => WP.pure x.kvs) := fun W1 g Q q => h W1 g Q (w.mono (fun n d hq v W2 g2 hn ⟨p, ks, od, h1, h2, h3, h4⟩ => hq v W2 g2 hn ⟨[p], ⟨p, ks, rfl, h1, .inr ⟨od, h3⟩, h4⟩, fun a m => by
  cases List.mem_singleton.mp m
  exact (g2.ok.F p h2).1⟩) q)
theorem ew_dr {w : WP (List (Sq × β))} (h : EvW e te σ W (sR (kD β)) w) : EvW e te σ W (sR (kDr β)) w := fun W1 g Q q => h W1 g Q (w.mono (fun n d hq v W2 g2 hn ⟨fp, ⟨p, ks, h1, h2, h3, h4⟩, hS⟩ => hq v W2 g2 hn ⟨fp, ⟨p, ks, h1, h2, .inl h3, h4⟩, hS⟩) q)
namespace WP
end WP
/-- a dict of our own frozen for good -/
theorem frz_dict {fp : List Addr} {kvs : List (Sq × β)} (g00 : Good e W0) (g0 : Gw e W0 W) (ho : Var (kD β) W0 W fp kvs v) : ∃ p ks, fp = [p] ∧ v = .ref p ∧ W.H p = some (.dT ks) ∧ ∀ od, ∃ W1 : Wo, W1.H = upd W.H p (.frz od (.dT ks)) ∧ W1.n = W.n ∧ St W W1 ∧ Gw e W0 W1 ∧ (∀ fp' W9, Kp fp' W9 W → (∀ b ∈ fp', b ∉ fp) → Kp fp' W9 W1) ∧
    (∀ {κ : Type} {k : Kd κ} {fq : List Addr} {y : κ} {vy : V}, Var k W0 W fq y vy → (∀ b ∈ fq, b ∉ fp) → Var k W0 W1 fq y vy) ∧ Rp W1 (⟨kvs⟩ : Fd β) v := by
  obtain ⟨⟨p, ks, e1, e2, h3, h4⟩, fr, nF⟩ := ho
  subst e1; subst e2
  have m0 : p ∈ [p] := List.mem_singleton.mpr rfl
  refine ⟨p, ks, rfl, rfl, h3, fun od => ⟨(W.set p (.frz od (.dT ks))).frz [p], rfl, rfl, ?_, ?_, ?_, ?_, ?_⟩⟩
  · exact (St.mut h3 (fun _ z => by cases z) (nF p m0)).trans St.frz
  · refine Gw.frz g00 (Gw.mut g00 g0 (fr p m0) h3 (fun _ z => by cases z) (nF p m0)) fr fun a ma => ?_
    cases List.mem_singleton.mp ma
    show (upd W.H p _) p ≠ none
    rw [upd_same]; exact fun z => by cases z
  · exact fun fp' W9 kk d => kk.upd fun b m z => d b m (by rw [z]; exact m0)
  · intro κ k fq y vy hy d
    have s := St.mut (u := .frz od (.dT ks)) h3 (fun _ z => by cases z) (nF p m0)
    exact (hy.kept (fp := [p]) s (fun fp' W9 kk d => kk.upd fun b m z => d b m (by rw [z]; exact m0)) (fun _ f => f) d).frzd d
  · have s := (St.mut (u := .frz od (.dT ks)) h3 (fun _ z => by cases z) (nF p m0)).trans (St.frz (fp := [p]))
    exact ⟨p, ks, od, rfl, .inr m0, upd_same, Paired.imp (fun a b h => ⟨h.1, PyI.st s h.2⟩) h4⟩
theorem st_frzd {kvs : List (Sq × β)} (g00 : Good e W0) (g0 : Gw e W0 W) (ho : Var (kD β) W0 W fp kvs v) (hm : (WP.pure (⟨kvs⟩ : Fd β)).bind f |>.run W.n R)
    (q : ∀ a W1, St W W1 → Gw e W0 W1 → (∀ fp' W9, Kp fp' W9 W → (∀ b ∈ fp', b ∉ fp) → Kp fp' W9 W1) → (∀ {κ : Type} {k : Kd κ} {fq : List Addr} {y : κ} {vy : V}, Var k W0 W fq y vy → (∀ b ∈ fq, b ∉ fp) → Var k W0 W1 fq y vy) → Rp W1 (a : Fd β) v → (f a).run W1.n R → t D σ W1.H) : tFrz t D σ W.H := by
  obtain ⟨p, ks, e1, e2, h3, hW⟩ := frz_dict g00 g0 ho
  refine ⟨p, _, h3, trivial, fun od => ?_⟩
  obtain ⟨W1, h1, hn, s, g1, kk, kv, r⟩ := hW od
  rw [← h1]
  exact q _ W1 s g1 kk kv r (by rw [hn]; exact hm)
theorem q_frzd {kvs : List (Sq × β)} (g00 : Good e W0) (g0 : Gw e W0 W) (ho : Var (kD β) W0 W fp kvs v) (hm : (WP.pure (⟨kvs⟩ : Fd β)).bind f |>.run W.n R)
    (q : ∀ a W1, St W W1 → Gw e W0 W1 → (∀ fp' W9, Kp fp' W9 W → (∀ b ∈ fp', b ∉ fp) → Kp fp' W9 W1) → (∀ {κ : Type} {k : Kd κ} {fq : List Addr} {y : κ} {vy : V}, Var k W0 W fq y vy → (∀ b ∈ fq, b ∉ fp) → Var k W0 W1 fq y vy) → Rp W1 (a : Fd β) v → (f a).run W1.n R → tSeq t tz D σ W1.H) : tSeq (tFrz t) tz D σ W.H :=
  st_frzd (D := { D with nx := tz D }) g00 g0 ho hm q
/-- sources with no list of their own -/
def Src0 {α : Type} (e : Ef) (wi : TI) (σ : L2.St) (W : Wo) (val : Wo → α → V → Prop) (w : WP (List α)) : Prop :=
  ∀ W1, Gw e W W1 → ∀ R : It → Hp → Prop, w.run W1.n (fun n xs => ∀ W2 J, Gw e W1 W2 → W2.n = n → Iter W2 [] J xs val → R J W2.H) → wi σ W1.H R
theorem iter_K {p : Addr} {ks : List (List Key × V)} {od : Obj} {kvs : List (Sq × β)} (hF : W.F p) (hp : W.H p = some (.frz od (.dT ks))) (hr : Paired (Kv W) kvs ks) : Iter W [] (Itkt p od ks) (kvs.map (·.1)) (fun W a x => Rp W a x) := fun W' s _ => by
  have hp' := s.c p _ hF hp
  have el := Paired.length hr
  have el2 : (kvs.map (·.1)).length = ks.length := by rw [List.length_map]; exact el
  refine ⟨fun i hi => ⟨hp', by omega⟩, ⟨hp', by omega⟩, fun i x H' hi y => ⟨y.1, ?_⟩⟩
  obtain ⟨_, k, v, q, h1, h2, h3⟩ := y
  obtain ⟨kv, hkv, r1, _⟩ := hr.getV h1
  refine ⟨kv.1, by rw [List.getElem?_map, hkv]; rfl, ?_⟩
  have r1 : k = kSq kv.1 := r1
  rw [r1] at h3
  exact ⟨q, .int kv.1.1, .int kv.1.2, h2, h3, rfl, rfl⟩
theorem src_K {w : WP (Fd β)} (h : EvW e td σ W sI w) : Src0 e (iKeys td) σ W (fun W a x => Rp W a x) (w.bind fun x => WP.pure (x.kvs.map (·.1))) := fun W1 g R hm => h W1 g _ (w.mono (fun n d hq v W2 g2 hn ⟨p, ks, od, h1, h2, h3, h4⟩ => by
  subst h1
  exact ⟨p, od, rfl, .inr ⟨ks, h3, hq W2 _ g2 hn (iter_K h2 h3 h4)⟩⟩) hm)
/-- for over such a source -/
theorem st_for0 [PyI α] {gt : TG} {T : α → Wo → L2.St → L2.St → Prop} (ht : Tk gt T) {w : WP (List α)} {body : α → s → WP (Ctl s δ)} {f : s → WP γ} {r : δ → WP γ} {x0 : s} (h : Src0 e wi σ W (fun W a x => Rp W a x) w) (g : Good e W) (hm : (w.bind fun xs => WP.after (WP.loop body xs x0) f r).run W.n R)
    (q : ∀ (xs : List α) W1, Gw e W W1 → ∃ INV : s → L2.St → Wo → Prop, INV x0 σ W1 ∧ (∀ y σ' W', INV y σ' W' → St W1 W') ∧ Turn INV body r R D tu T ∧ ∀ y σ' W', INV y σ' W' → (f y).run W'.n R → D.nx σ' W'.H) : tFor wi gt tu D σ W.H :=
  h W (Gw.refl g) _ (w.mono (fun n xs hm W1 J g1 hn hi => by
    subst hn
    obtain ⟨INV, h0, keep, step, hd⟩ := q xs W1 g1
    obtain ⟨Pv, p0, pk, ps, pd⟩ := pv_loop (D := D) INV h0 hm hd
    have wk : Walk J xs.length (fun H => ∃ W', W'.H = H ∧ St W1 W') (fun i H x H' => H' = H ∧ ∃ a, xs[i]? = some a ∧ ∀ W', W'.H = H → St W1 W' → Rp W' a x) := by
      refine ⟨fun i H hi' ⟨W', e1, s1⟩ => ?_, fun H ⟨W', e1, s1⟩ => ?_, fun i H x H' hi' ⟨W', e1, s1⟩ y => ?_⟩
      · subst e1; exact (hi W' s1 (fun _ m => nomatch m)).1 i hi'
      · subst e1; exact (hi W' s1 (fun _ m => nomatch m)).2.1
      · subst e1
        obtain ⟨q1, a, q2, _⟩ := (hi W' s1 (fun _ m => nomatch m)).2.2 i x H' hi' y
        refine ⟨q1, a, q2, fun W'' e2 s2 => ?_⟩
        obtain ⟨_, a', q4, q5⟩ := (hi W'' s2 (fun _ m => nomatch m)).2.2 i x H' hi' (by rw [e2]; exact y)
        rw [q2] at q4
        cases q4
        exact q5
    refine for_it wk Pv p0 (fun i σ H _ q => ?_) (fun i x σ H H' hi' q y => ?_) pd
    · obtain ⟨y, W', e1, q'⟩ := pk i σ H q
      exact ⟨W', e1, keep y σ W' q'⟩
    · obtain ⟨rfl, a, ha, ra⟩ := y
      obtain ⟨y, W', R', e1, q1, q2, q3, q4, q5⟩ := ps i σ _ a ha q
      subst e1
      exact ht a x W' σ _ (ra W' rfl (keep y σ W' q1)) fun s2 h2 => step a y σ s2 W' R' _ h2 q1 q2 q3 q4 q5) hm)
theorem q_for0 [PyI α] {gt : TG} {T : α → Wo → L2.St → L2.St → Prop} (ht : Tk gt T) {w : WP (List α)} {body : α → s → WP (Ctl s δ)} {f : s → WP γ} {r : δ → WP γ} {x0 : s} (h : Src0 e wi σ W (fun W a x => Rp W a x) w) (g : Good e W) (hm : (w.bind fun xs => WP.after (WP.loop body xs x0) f r).run W.n R)
    (q : ∀ (xs : List α) W1, Gw e W W1 → ∃ INV : s → L2.St → Wo → Prop, INV x0 σ W1 ∧ (∀ y σ' W', INV y σ' W' → St W1 W') ∧ Turn INV body r R { D with nx := tz D } tu T ∧ ∀ y σ' W', INV y σ' W' → (f y).run W'.n R → tz D σ' W'.H) : tSeq (tFor wi gt tu) tz D σ W.H :=
  st_for0 (D := { D with nx := tz D }) ht h g hm q
end
section
variable {α β γ : Type} {K : PySem.W.Frag} {e : Ef} {σ : L2.St} {W W2 : Wo} {ta tb te tc tl : TE} {t u : TT} {i j k m n : Nat} {v : V} {g : TG} {vs0 : List Nat} {wi : TI}
end
end Y

/-! list of a text, extend, xs[i] = v, len of a pair -/
namespace Y
open PySem PySem.Spec PyProof.Rows L2
section
variable {α β γ s : Type} {K : PySem.W.Frag} {e : Ef} {σ : L2.St} {W W0 : Wo} {ta tb te tc tl : TE} {i j k m n : Nat} {v : V} {D : Ends} {tz : TS} {R : Nat → γ → Prop} {fp : List Addr}
namespace WP
end WP
namespace WP
end WP
end
end Y

namespace Y
open PySem PySem.Spec L2
section
variable {α β γ δ s ρ' : Type} {K : PySem.W.Frag} {e : Ef} {σ : L2.St} {W : Wo} {ta tb te tc tl : TE} {t u : TT} {i j k m n : Nat} {v : V} {D : Ends} {tu tw tz : TS} {ρ : Rs e α} {w : WP α} {R : Nat → β → Prop}
/-- the names' values, told plainly -/
theorem norm_st {t : TS} {D : Ends} {σ σ' : L2.St} {H : Hp} (h : σ = σ') (g : t D σ' H) : t D σ H := h ▸ g
end
end Y

/-! data of any kind (one type for all of it), code that is never reached -/
namespace Y
open PySem PySem.Spec PyProof.Rows L2
open Dat (dat)
theorem pss_dead {X : Cx} {ss : List Stmt} : PSs X ss (fun _ _ _ => False) := ⟨fun _ _ _ _ _ _ h => h.elim⟩
mutual
inductive RD (W : Wo) : PyData → V → Prop where
  | int (i : Int) : RD W (.int i) (.int i)
  | bl (b : Bool) : RD W (.bool b) (.bl b)
  | str (s : Str) : RD W (.str s) (.str s)
  | non : RD W .none .non
  | tup {p : Addr} {vs : List V} {xs : List PyData} (h : W.H p = some (.tup vs)) (r : RDs W xs vs) : RD W (.tuple xs) (.ref p)
  | lst {p : Addr} {vs : List V} {xs : List PyData} (f : W.F p) (h : W.H p = some (.lst vs)) (r : RDs W xs vs) : RD W (.list xs) (.ref p)
inductive RDs (W : Wo) : List PyData → List V → Prop where
  | nil : RDs W [] []
  | cons {d : PyData} {v : V} {ds : List PyData} {vs : List V} (h : RD W d v) (t : RDs W ds vs) : RDs W (d :: ds) (v :: vs)
end
mutual
theorem RD.st {W W' : Wo} (s : St W W') : ∀ {d : PyData} {v : V}, RD W d v → RD W' d v
  | _, _, .int i => .int i
  | _, _, .bl b => .bl b
  | _, _, .str z => .str z
  | _, _, .non => .non
  | _, _, .tup h r => .tup (s.t _ _ h) (RDs.st s r)
  | _, _, .lst f h r => .lst (s.f _ f) (s.c _ _ f h) (RDs.st s r)
theorem RDs.st {W W' : Wo} (s : St W W') : ∀ {ds : List PyData} {vs : List V}, RDs W ds vs → RDs W' ds vs
  | _, _, .nil => .nil
  | _, _, .cons h t => .cons (RD.st s h) (RDs.st s t)
end
mutual
theorem RD.dp {W : Wo} {K : PySem.W.Frag} : ∀ {d : PyData} {v : V}, RD W d v → Dp K W.H v d
  | _, _, .int i => .int i
  | _, _, .bl b => .bl b
  | _, _, .str z => .str z
  | _, _, .non => .non
  | _, _, .tup h r => .tup (SqT.of h) (RDs.dp r)
  | _, _, .lst _ h r => .lst (SqL.of h) (RDs.dp r)
theorem RDs.dp {W : Wo} {K : PySem.W.Frag} : ∀ {ds : List PyData} {vs : List V}, RDs W ds vs → DpAll K W.H vs ds
  | _, _, .nil => .nil
  | _, _, .cons h t => .cons (RD.dp h) (RDs.dp t)
end
instance : PyI PyData := ⟨RD, fun s h => RD.st s h⟩
instance : Dat PyData := ⟨id, fun h => RD.dp h⟩
instance : Inhabited PyData := ⟨.none⟩
theorem rds_of {W : Wo} {ds : List PyData} {vs : List V} (h : RDs W ds vs) : Rps W ds vs := by
  induction ds generalizing vs with
  | nil => cases h; exact .nil
  | cons d ds ih =>
    cases h with
    | cons a t => exact .cons a (ih t)
class DR (α : Type) [PyI α] [Dat α] where
  dr : ∀ {W : Wo} {a : α} {v : V}, Rp W a v → RD W (dat a) v
instance : DR PyData := ⟨fun h => h⟩
instance : DR Int := ⟨fun h => by cases h; exact .int _⟩
instance : DR Bool := ⟨fun h => by cases h; exact .bl _⟩
instance : DR Str := ⟨fun h => by cases h; exact .str _⟩
instance : DR Unit := ⟨fun h => by cases h; exact .non⟩
instance {α : Type} [PyI α] [Dat α] [DR α] : DR (Option α) := ⟨fun {W o v} h => by
  cases o with
  | none => cases h; exact .non
  | some a => exact (DR.dr (a := a) h.2 : RD W (dat a) v)⟩
instance {α β : Type} [PyI α] [PyI β] [Dat α] [Dat β] [DR α] [DR β] : DR (α × β) := ⟨fun ⟨p, x, y, h1, h2, h3, h4⟩ => by subst h1; exact .tup h2 (.cons (DR.dr h3) (.cons (DR.dr h4) .nil))⟩
theorem drs {α : Type} [PyI α] [Dat α] [DR α] {W : Wo} {xs : List α} {vs : List V} (h : Rps W xs vs) : RDs W (xs.map dat) vs := by
  induction h with
  | nil => exact .nil
  | cons r t ih => exact .cons (DR.dr r) ih
instance {α : Type} [PyI α] [Dat α] [DR α] : DR (List α) := ⟨fun ⟨p, vs, h1, h2, h3⟩ => by subst h1; exact .tup h2 (drs h3)⟩
instance {α : Type} [PyI α] [Dat α] [DR α] : DR (Ls α) := ⟨fun ⟨p, vs, h1, f, h2, h3⟩ => by subst h1; exact .lst f h2 (drs h3)⟩
instance {α β γ : Type} [PyI α] [PyI β] [PyI γ] [Dat α] [Dat β] [Dat γ] : Dat (Tri α β γ) := ⟨fun c => .tuple [dat c.a, dat c.b, dat c.c], fun ⟨p, x, y, z, h1, h2, h3, h4, h5⟩ => by subst h1; exact .tup (SqT.of h2) (.cons (Dat.dp h3) (.cons (Dat.dp h4) (.cons (Dat.dp h5) .nil)))⟩
instance {α β γ : Type} [PyI α] [PyI β] [PyI γ] [Dat α] [Dat β] [Dat γ] [DR α] [DR β] [DR γ] : DR (Tri α β γ) := ⟨fun ⟨p, x, y, z, h1, h2, h3, h4, h5⟩ => by subst h1; exact .tup h2 (.cons (DR.dr h3) (.cons (DR.dr h4) (.cons (DR.dr h5) .nil)))⟩
def tyD : PyData → String
  | .none => "NoneType" | .bool _ => "bool" | .int _ => "int" | .str _ => "str" | .list _ => "list" | .tuple _ => "tuple" | .dict _ => "dict"
/-- isinstance of data -/
def isB (T : String) (d : PyData) : Bool := (kitB (tyD d) T).getD false
theorem kB {T : String} (h : ∀ s ∈ ["NoneType", "bool", "int", "str", "list", "tuple", "dict"], (kitB s T).isSome = true) (d : PyData) : kitB (tyD d) T = some (isB T d) := by
  have : (kitB (tyD d) T).isSome = true := h _ (by cases d <;> simp [tyD])
  unfold isB
  obtain ⟨b, hb⟩ := Option.isSome_iff_exists.mp this
  rw [hb]; rfl
def seqD : PyData → List PyData
  | .list xs => xs | .tuple xs => xs | _ => []
def isSeqD : PyData → Bool
  | .list _ => true | .tuple _ => true | _ => false
def isNonD : PyData → Bool
  | .none => true | _ => false
namespace WP
abbrev lenU (w : WP PyData) : WP Int := w.bind fun d => req (isSeqD d = true) (((seqD d).length : Nat) : Int)
abbrev ixU (a : WP PyData) (b : WP Int) : WP PyData := b2 a b fun d x => req (isSeqD d = true ∧ okI (seqD d).length x) (ixD (seqD d) x)
end WP
section
variable {α : Type} {K : PySem.W.Frag} {e : Ef} {σ : L2.St} {W : Wo} {ta tb te : TE}
theorem ew_dat [PyI α] [Dat α] [DR α] {w : WP α} (h : EvW e te σ W sI w) : EvW e te σ W sI (w.bind fun a => WP.pure (dat a)) := fun W1 g Q q => h W1 g _ (w.mono (fun n a hq v W2 g2 hn r => hq v W2 g2 hn (DR.dr r)) q)
theorem ty_rd {K : PySem.W.Frag} {W : Wo} {d : PyData} {v : V} (r : RD W d v) : TyX K W.H v (.type (tyD d)) := by
  cases r with
  | int i => exact .base (.int _)
  | bl b => exact .base (.bl _)
  | str s => exact .base (.str _)
  | non => exact .base .non
  | tup h r => exact .base (.tup h)
  | lst f h r => exact .base (.lst h)
theorem ew_isiU {w : WP PyData} (T : String) (hk : ∀ d : PyData, kitB (tyD d) T = some (isB T d)) (h : EvW e te σ W sI w) : EvW e (tCB (rIsi K) (tCons te (tCons (tC (.ty T)) tNil))) σ W sI (w.bind fun d => WP.pure (isB T d)) := fun W1 g Q q => h W1 g _ (w.mono (fun n d hq v W2 g2 hn r =>
  ⟨_, _, _, _, isB T d, rfl, .ty _, ty_rd r, kit_ty (hk d), hq _ W2 g2 hn rfl⟩) q)
theorem ew_lenU {w : WP PyData} (ha : EvW e ta σ W sI w) : EvW e (tCB (rLenS K) (tCons ta tNil)) σ W sI (WP.lenU w) := fun W1 g Q q => ha W1 g _ (w.mono (fun n d hq v W2 g2 hn r => by
  obtain ⟨hs, hq⟩ := hq
  cases r with
  | int i => cases hs
  | bl b => cases hs
  | str s => cases hs
  | non => cases hs
  | tup h r => exact ⟨_, _, rfl, .inr (SqT.of h), hq _ W2 g2 hn (congrArg (fun n : Nat => V.int (n : Int)) (Paired.length (rds_of r)).symm)⟩
  | lst f h r => exact ⟨_, _, rfl, .inl (SqL.of h), hq _ W2 g2 hn (congrArg (fun n : Nat => V.int (n : Int)) (Paired.length (rds_of r)).symm)⟩) q)
theorem ew_ixU {w1 : WP PyData} {w2 : WP Int} (ha : EvW e ta σ W sI w1) (hb : EvW e tb σ W sI w2) : EvW e (tOp (rIx K) ta tb) σ W sI (WP.ixU w1 w2) :=
  ew_op2 ha hb fun W2 d x _ _ r1 r2 hc Q q => by
    cases r2
    obtain ⟨hs, hc⟩ := hc
    cases r1 with
    | int i => cases hs
    | bl b => cases hs
    | str s => cases hs
    | non => cases hs
    | tup h r =>
      obtain ⟨v, hv, rv⟩ := atI_pair (rds_of r) (atI_ok hc)
      exact .inr (.inl ⟨_, _, x, v, rfl, rfl, SqT.of h, hv, q _ _ (Same.refl _) rv⟩)
    | lst f h r =>
      obtain ⟨v, hv, rv⟩ := atI_pair (rds_of r) (atI_ok hc)
      exact .inl ⟨_, _, x, v, rfl, rfl, SqL.of h, hv, q _ _ (Same.refl _) rv⟩
theorem ew_isNU {w : WP PyData} (h : EvW e te σ W sI w) : EvW e (tIsN te) σ W sI (w.bind fun d => WP.pure (isNonD d)) := fun W1 g Q q => h W1 g _ (w.mono (fun n o hq v W2 g2 hn r => by
  cases r <;> exact hq _ W2 g2 hn rfl) q)
end
end Y

/-! sorted -/
namespace Y
open PySem PySem.Spec PyProof.Rows L2
def leQ (a b : Sq) : Prop := a.1 < b.1 ∨ (a.1 = b.1 ∧ a.2 ≤ b.2)
namespace WP
abbrev sortQ (w : WP (List Sq)) : WP (List Sq) := w.bind fun xs => any fun ys => ys.Perm xs ∧ ys.Pairwise leQ
end WP
def kOfV (H : Hp) (v : V) : Int × Int := match v with
  | .ref t => match H t with
    | some (.tup [.int a, .int b]) => (a, b)
    | _ => (0, 0)
  | _ => (0, 0)
theorem kOf_rp {W : Wo} {q : Sq} {v : V} (h : Rp W q v) : kOfV W.H v = q ∧ ∃ t, v = V.ref t ∧ W.H t = some (.tup [.int q.1, .int q.2]) := by
  obtain ⟨p, x, y, h1, h2, h3, h4⟩ := h
  have h3 : x = .int q.1 := h3
  have h4 : y = .int q.2 := h4
  subst h1; subst h3; subst h4
  refine ⟨?_, p, rfl, h2⟩
  simp only [kOfV, h2]
theorem rps_back {W : Wo} {xs : List Sq} {vs : List V} (h : Rps W xs vs) {ws : List V} (hp : ∀ v ∈ ws, v ∈ vs) : Rps W (ws.map (kOfV W.H)) ws := by
  induction ws with
  | nil => exact .nil
  | cons w ws ih =>
    refine .cons ?_ (ih fun v m => hp v (List.mem_cons_of_mem _ m))
    obtain ⟨i, hi⟩ := List.getElem?_of_mem (hp w List.mem_cons_self)
    obtain ⟨q, _, hq⟩ := h.getV hi
    rw [(kOf_rp hq).1]; exact hq
theorem rps_k {W : Wo} {xs : List Sq} {vs : List V} (h : Rps W xs vs) : vs.map (kOfV W.H) = xs := by
  induction h with
  | nil => rfl
  | cons r t ih => rw [List.map_cons, (kOf_rp r).1, ih]
section
variable {K : PySem.W.Frag} {e : Ef} {σ : L2.St} {W : Wo} {ta : TE}
theorem ew_sortQ {w : WP (List Sq)} (ha : EvW e ta σ W (sR (kL Sq)) w) : EvW e (tCB (rSortedPO K) (tCons ta tNil)) σ W (sN (kL Sq)) (WP.sortQ w) := ew_cb1 ha fun W1 W2 xs x g ⟨_, ⟨p, vs, _, h1, h2, h3⟩, _⟩ Q q => by
  subst h1
  refine ⟨p, vs, kOfV W2.H, rfl, SqL.of h2, fun v hv => ?_, fun ys l hs hb hl => ?_⟩
  · obtain ⟨i, hi⟩ := List.getElem?_of_mem hv
    obtain ⟨q', _, hq⟩ := h3.getV hi
    rw [(kOf_rp hq).1]; exact (kOf_rp hq).2
  · refine q (ys.map (kOfV W2.H)) ⟨?_, ?_⟩ _ _ (Gw.alloc g.ok hl) rfl (new_L (Gw.refl g.ok) hl (rps_back h3 fun v hv => hb.perm.mem_iff.mp hv))
    · have := hb.perm.map (kOfV W2.H)
      rwa [rps_k h3] at this
    · rw [List.pairwise_map]
      refine List.Pairwise.imp (fun {a b} h => ?_) hs
      have h := SrtO.lexB_no.mp h
      unfold leQ
      omega
theorem cr_sortQ {X : Cx} (h : X.K = K) : CallR X (.builtin "sorted") (rSortedPO K) := h ▸ cr_sortedPO
end
end Y

/-! parts of a law: defs of the script that return True; a def handed on -/
namespace Y
open PySem PySem.Spec PyProof.Rows L2
theorem ew_fnV {φ : Type} {e : Ef} {σ : L2.St} {W : Wo} {f : Addr} {m : φ} {i : Nat} (hv : σ[i]? = some (some (.ref f))) : EvW e (tVar i) σ W (sFn f m) (WP.pure m) := fun W1 g Q q => ⟨_, hv, q _ W1 (Gw.refl g.ok) rfl ⟨rfl, rfl⟩⟩
open Dat (dat)
def rInDT (K : PySem.W.Frag) : R2 := fun x y H Q => ∃ d ds, Dp K H x d ∧ Dp K H y (.tuple ds) ∧ SeqAt.shaped d = true ∧ SeqAt.shaped (.list ds) = true ∧ Q (.bl (ds.any fun z => PyData.eqv z d)) H
section
variable {X : Cx}
theorem op_inDT (hu : X.A.units + 65 < cLine) : OpR X (compareOp .In) (rInDT X.K) := by
  intro pins s σ H x y v u Q I rx ry h
  obtain ⟨d, ds, hd, he, sd, se, q⟩ := h
  obtain ⟨as, r1⟩ := Dp.reads I d x v hd rx
  obtain ⟨bs, r2⟩ := Dp.reads I (.tuple ds) y u he ry
  exact SeqAt.in_tuple_reads r2 r1 (SeqAt.canLay_of_shaped se) (SeqAt.canLay_of_shaped sd) (room_in_shaped sd hu) ⟨.bl _, H, I, rfl, q⟩
end
section
variable {α β : Type} [PyI α] [PyI β] {K : PySem.W.Frag} {e : Ef} {σ : L2.St} {W : Wo} {ta tb : TE}
theorem ew_inDT [Dat α] [Dat β] {w1 : WP α} {w2 : WP (List β)} (ha : EvW e ta σ W sI w1) (hb : EvW e tb σ W sI w2) : EvW e (tOp (rInDT K) ta tb) σ W sI (WP.inD w1 w2) :=
  ew_op ha hb fun W1 W2 a ys x y g r1 ⟨p, vs, h1, h2, h3⟩ Q q => by
    subst h1
    exact ⟨_, _, Dat.dp r1, .tup (SqT.of h2) (dpAll h3), q.1.1, q.1.2, q.2 _ W2 (Gw.refl g.ok) rfl rfl⟩
end
end Y

/-! min and max of two alike data (two squares) -/
namespace Y
open PySem PySem.Spec PyProof.Rows L2
open PySem.W (dataLt AlikeAll iter_tupleW moved_old cmpIn_lt cmpIn_gt reads_keeps)
section
variable {prog : Program} {w : World} {A : Around} {E : Value → Shared → Prop} {s : Shared}
end
section
variable {X : Cx}
end
namespace WP
end WP
section
variable {K : PySem.W.Frag} {e : Ef} {σ : L2.St} {W : Wo} {ta tb : TE}
end
section
end
section
variable {α : Type} [PyI α] {K : PySem.W.Frag} {e : Ef} {σ : L2.St} {W : Wo} {ta : TE}
end
instance {α : Type} : Inhabited (Ls α) := ⟨⟨[]⟩⟩
end Y

/-! a list that may be changed, or None -/
namespace Y
open PySem PySem.Spec PyProof.Rows L2
namespace WP
end WP
section
variable {α β γ s : Type} [PyI α] {K : PySem.W.Frag} {e : Ef} {σ : L2.St} {W W0 : Wo} {te : TE} {n : Nat} {v : V} {R : Nat → γ → Prop} {fp : List Addr}
end
end Y

/-! range(a, b, -1) -/
namespace Y
open PySem PySem.Spec PyProof.Rows L2
namespace WP
end WP
section
variable {α β γ s : Type} {K : PySem.W.Frag} {e : Ef} {σ : L2.St} {W : Wo} {ta tb tc : TE} {j : Nat} {D : Ends} {tu tz : TS} {R : Nat → β → Prop} {Bs : Addr → Prop}
end
end Y

/-! defs under another name -/
namespace Y
open PySem PySem.Spec PyProof.Rows L2
end Y

namespace Y
open PySem PySem.Spec PyProof.Rows L2
open Sem (wp)
section
variable {prog : Program} {w : World} {A : Around} {E : Value → Shared → Prop} {s : Shared}
end
section
variable {X : Cx}
end
end Y

/-! dicts whose keys are pairs of pairs: what the machine does with them -/
namespace Y
open PySem PySem.Spec PyProof.Rows L2
abbrev NRow := NestedKey × Addr × V
/-- what a value is, as a key -/
inductive NV (H : Hp) : NestedKey → V → Prop
  | non : NV H .none .non
  | int (i : Int) : NV H (.num i) (.int i)
  | str (s : Str) : NV H (.text s) (.str s)
  | pair {b : Addr} {k1 k2 : NestedKey} {y1 y2 : V} : H b = some (.tup [y1, y2]) → NV H k1 y1 → NV H k2 y2 → NV H (.tup [k1, k2]) (.ref b)
def NRel (p : NRow) (q : NestedKey × Addr × Value) : Prop := p.1 = q.1 ∧ p.2.1 = q.2.1 ∧ RelV p.2.2 q.2.2
def KeysN (H : Hp) (ks : List NRow) : Prop := ∀ x ∈ ks, NV H x.1 (.ref x.2.1) ∧ x.1.depth ≤ 8
def valN (ks : List NRow) (k : NestedKey) : Option V := (ks.find? fun x => decide (x.1 = k)).map (·.2.2)
def putN (ks : List NRow) (k : NestedKey) (b : Addr) (v : V) : List NRow := if (valN ks k).isSome then ks.map fun x => if x.1 = k then (x.1, x.2.1, v) else x else ks ++ [(k, b, v)]
section
variable {P : Program} {w : World} {H : Hp} {h : Heap} {a : Addr}
theorem NV.is (ok : HOk P w H h) {k : NestedKey} {y : V} (n : NV H k y) : ∀ {u : Value}, RelV y u → NestedIs h k u := by
  induction n with
  | non => intro u r; cases (show u = Value.none from r); exact .none
  | int i => intro u r; obtain ⟨t, e⟩ := (show ∃ t, u = Value.int i t from r); rw [e]; exact .int i t
  | str s => intro u r; obtain ⟨t, e⟩ := (show ∃ t, u = Value.str s t from r); rw [e]; exact .text s t
  | @pair b k1 k2 y1 y2 hb _ _ ih1 ih2 =>
    intro u r
    cases (show u = Value.ref b from r)
    obtain ⟨_, its, rv, o, g1, g2, n, g3⟩ := (show ObjOk P w H h b (.tup [y1, y2]) from ok b _ hb)
    cases rv with
    | cons r1 t =>
      cases t with
      | cons r2 t2 =>
        cases t2
        exact .tup g1 g2 g3 (.cons (ih1 r1) (.cons (ih2 r2) .nil))
theorem NV.at {H' : Hp} (c : ∀ b xs, H b = some (.tup xs) → H' b = some (.tup xs)) {k : NestedKey} {y : V} (n : NV H k y) : NV H' k y := by
  induction n with
  | non => exact .non
  | int i => exact .int i
  | str s => exact .str s
  | pair hb _ _ ih1 ih2 => exact .pair (c _ _ hb) ih1 ih2
end
theorem NRel.val {ks : List NRow} {xs : List (NestedKey × Addr × Value)} (r : Paired NRel ks xs) (k : NestedKey) : RelO (valN ks k) ((atKey xs k).map (·.2)) := by
  induction r with
  | nil => exact True.intro
  | @cons p q ps qs h t ih =>
    obtain ⟨h1, h2, h3⟩ := h
    by_cases e : p.1 = k
    · have e' : q.1 = k := h1.symm.trans e
      have b1 : valN (p :: ps) k = some p.2.2 := by simp [valN, List.find?_cons, e]
      have b2 : atKey (q :: qs) k = some q.2 := by simp [atKey, List.find?_cons, e']
      rw [b1, b2]; exact h3
    · have e' : ¬ q.1 = k := fun z => e (h1.trans z)
      have b1 : valN (p :: ps) k = valN ps k := by simp [valN, List.find?_cons, e]
      have b2 : atKey (q :: qs) k = atKey qs k := by simp [atKey, List.find?_cons, e']
      rw [b1, b2]; exact ih
theorem NRel.put {ks : List NRow} {xs : List (NestedKey × Addr × Value)} (r : Paired NRel ks xs) (k : NestedKey) (b : Addr) {v : V} {u : Value} (rv : RelV v u) : Paired NRel (putN ks k b v) (storedH xs k b u) := by
  have e : (valN ks k).isSome = (atKey xs k).isSome := by rw [(NRel.val r k).isSome_eq, Option.isSome_map]
  unfold putN storedH
  rw [e]
  by_cases q : (atKey xs k).isSome = true
  · rw [if_pos q, if_pos q]
    clear e q
    induction r with
    | nil => exact .nil
    | @cons p q ps qs h t ih =>
      rw [List.map_cons, List.map_cons]
      refine .cons ?_ ih
      obtain ⟨h1, h2, h3⟩ := h
      unfold putAt
      by_cases e : p.1 = k
      · rw [if_pos e, if_pos (h1.symm.trans e)]; exact ⟨h1, h2, rv⟩
      · rw [if_neg e, if_neg (fun z => e (h1.trans z))]; exact ⟨h1, h2, h3⟩
  · rw [if_neg q, if_neg q]; exact Paired.snoc r ⟨rfl, rfl, rv⟩
section
variable {X : Cx} {pins : List (Addr × Obj)} {σ : L2.St} {H : Hp} {s : Shared} {a : Addr} {y v : V} {u r : Value} {o : Option V} {A : Around} {E : Value → Shared → Prop}
end
/-! rules -/
section
variable {X : Cx} {o i e f value : Expr} {pos pos' apos cpos : Pos} {td ty tv tx : TE}
end
end Y

/-! dicts whose keys are (square, number) or (square, text) -/
namespace Y
open PySem PySem.Spec PyProof.Rows L2
/-- what may be a nested key -/
class NKey (κ : Type) [PyI κ] where
  toN : κ → NestedKey
  inj : ∀ a b, toN a = toN b → a = b
  dep : ∀ a, (toN a).depth ≤ 8
  rp : ∀ {W : Wo} {a : κ} {v : V}, Rp W a v → ∃ b, v = .ref b ∧ NV W.H (toN a) (.ref b)
theorem sqN {W : Wo} {q : Sq} {v : V} (h : Rp W q v) : NV W.H (.tup [.num q.1, .num q.2]) v := by
  obtain ⟨p, a, b, h1, h2, h3, h4⟩ := h
  cases h3; cases h4
  rw [h1]; exact .pair h2 (.int _) (.int _)
instance : NKey (Sq × Int) where
  toN := fun a => .tup [.tup [.num a.1.1, .num a.1.2], .num a.2]
  inj := fun a b h => by
    injection h with h; injection h with h1 h2; injection h1 with h1; injection h1 with h3 h4; injection h4 with h4; injection h2 with h2
    injection h3 with h3; injection h4 with h4; injection h2 with h2
    exact Prod.ext (Prod.ext h3 h4) h2
  dep := fun a => by simp [NestedKey.depth, NestedKey.depthAll]
  rp := fun {W a v} h => by
    obtain ⟨p, x, y, h1, h2, h3, h4⟩ := h
    cases h4
    exact ⟨p, h1, .pair h2 (sqN h3) (.int _)⟩
instance : NKey (Sq × Str) where
  toN := fun a => .tup [.tup [.num a.1.1, .num a.1.2], .text a.2]
  inj := fun a b h => by
    injection h with h; injection h with h1 h2; injection h1 with h1; injection h1 with h3 h4; injection h4 with h4; injection h2 with h2
    injection h3 with h3; injection h4 with h4; injection h2 with h2
    exact Prod.ext (Prod.ext h3 h4) h2
  dep := fun a => by simp [NestedKey.depth, NestedKey.depthAll]
  rp := fun {W a v} h => by
    obtain ⟨p, x, y, h1, h2, h3, h4⟩ := h
    cases h4
    exact ⟨p, h1, .pair h2 (sqN h3) (.str _)⟩
section
variable {κ β : Type} [DecidableEq κ]
def lookN (kvs : List (κ × β)) (q : κ) : Option β := (kvs.find? fun p => decide (p.1 = q)).map (·.2)
def hasN (kvs : List (κ × β)) (q : κ) : Bool := (lookN kvs q).isSome
def putD (kvs : List (κ × β)) (q : κ) (b : β) : List (κ × β) := if hasN kvs q then kvs.map (fun p => if p.1 = q then (p.1, b) else p) else kvs ++ [(q, b)]
end
open NKey (toN)
variable {P : Program} {w : World}
section
variable {κ β : Type} [PyI κ] [NKey κ] [PyI β]
def NKv (W : Wo) (kv : κ × β) (k : NRow) : Prop := k.1 = toN kv.1 ∧ Rp W kv.1 (.ref k.2.1) ∧ Rp W kv.2 k.2.2
theorem NKv.st {W W' : Wo} (s : St W W') {kv : κ × β} {k : NRow} (h : NKv W kv k) : NKv W' kv k := ⟨h.1, PyI.st s h.2.1, PyI.st s h.2.2⟩
theorem NKv.keys {W : Wo} {kvs : List (κ × β)} {ks : List NRow} (h : Paired (NKv W) kvs ks) : KeysN W.H ks := by
  induction h with
  | nil => intro x hx; cases hx
  | @cons a b as bs r t ih =>
    intro x hx
    rcases List.mem_cons.mp hx with e | hx
    · subst e
      obtain ⟨b, e1, e2⟩ := NKey.rp r.2.1
      injection e1 with e1
      rw [r.1, e1]
      exact ⟨e2, NKey.dep _⟩
    · exact ih x hx
end
section
variable {κ α β γ δ : Type} [PyI κ] [NKey κ] [DecidableEq κ] [PyI β] {K : PySem.W.Frag} {e : Ef} {σ : L2.St} {W : Wo} {ta tb te tc td ty tx tk tv : TE} {t u : TT} {i j k m n : Nat} {v : V} {D : Ends} {tz : TS} {R : Nat → γ → Prop}
namespace WP
end WP
end
end Y

/-! going through a dict with nested keys, which is locked -/
namespace Y
open PySem PySem.Spec PyProof.Rows L2
section
variable {X : Cx} {pins : List (Addr × Obj)} {σ : L2.St} {H : Hp} {s : Shared} {d : Addr} {o : Obj} {ks : List NRow} {es : Array DictEntry} {ep : Nat}
end
/-! a locked dict with nested keys, as the layer sees it -/
open NKey (toN)
section
variable {κ α β γ δ : Type} [PyI κ] [NKey κ] [DecidableEq κ] [PyI β] {P : Program} {w : World} {K : PySem.W.Frag} {e : Ef} {σ : L2.St} {W W0 : Wo} {td : TE} {t tz : TS} {i : Nat} {v : V} {D : Ends} {R : Nat → γ → Prop} {fp : List Addr}
end
end Y

/-! list(d) of a dict with nested keys -/
namespace Y
open PySem PySem.Spec PyProof.Rows L2
section
variable {X : Cx}
end
open NKey (toN)
section
variable {κ β : Type} [PyI κ] [NKey κ] [DecidableEq κ] [PyI β] {P : Program} {w : World} {e : Ef} {σ : L2.St} {W : Wo} {td : TE}
namespace WP
end WP
end
end Y

/-! len of a dict with nested keys -/
namespace Y
open PySem PySem.Spec PyProof.Rows L2
open Sem (wp)
section
variable {prog : Program} {w : World} {A : Around} {E : Value → Shared → Prop} {s : Shared}
end
open NKey (toN)
section
variable {κ β : Type} [PyI κ] [NKey κ] [DecidableEq κ] [PyI β] {P : Program} {w : World} {e : Ef} {σ : L2.St} {W : Wo} {td : TE}
end
end Y

/-! dict comprehensions whose keys are tuples: the store told by a relation -/
namespace Y
open PySem PySem.Spec PyProof.Rows L2
open Sem (wp)
/-- a kind of dict: what stands there at first, and what a store does -/
structure Sto (P : Program) (w : World) where
  first : Addr → HO
  put : Hp → Addr → V → V → Hp → Prop
  born : ∀ {H : Hp} (h : Heap), sysModules < h.objs.size → ObjOk P w H (h.push { cls := .type "dict", data := .dict #[] }) h.objs.size (first h.objs.size)
  store : ∀ {X : Cx} {pn : List (Addr × Obj)} {τ : L2.St} {H H' : Hp} {sh : Shared} {A : Around} {Er : Value → Shared → Prop} {D : Addr} {y z : V} {u r : Value} {R : Unit → Shared → Prop}, X.prog = P → X.w = w → A.units + 10 < cLine → Inv X pn τ H sh → put H D y z H' → RelV y u → RelV z r → (∀ sh', Inv X pn τ H' sh' → R () sh') → wpAny (model P w) A (dictSet D u r) R Er sh
section
variable {X : Cx}
end
end Y

/-! dict comprehensions in the layer -/
namespace Y
open PySem PySem.Spec PyProof.Rows L2
open NKey (toN)
namespace WP
variable {α κ β : Type}
end WP
/-- a kind of dict as the layer sees it -/
structure DKd {P : Program} {w : World} (S : Sto P w) (κ β : Type) [PyI κ] [PyI β] where
  kd : Kd (List (κ × β))
  pu : List (κ × β) → κ → β → List (κ × β)
  nil : ∀ {W : Wo} {D : Addr}, W.H D = none → kd.own ⟨upd W.H D (S.first D), W.F, W.n⟩ [D] [] (.ref D)
  obj : ∀ {W : Wo} {D : Addr} {kvs v}, kd.own W [D] kvs v → v = .ref D ∧ ∃ o, W.H D = some o ∧ ∀ xs, o ≠ .tup xs
  step : ∀ {W : Wo} {D : Addr} {kvs k b y z}, kd.own W [D] kvs (.ref D) → ¬ W.F D → Rp W k y → Rp W b z → kvs.length < 100000 → ∃ u, S.put W.H D y z (upd W.H D u) ∧ kd.own (W.set D u) [D] (pu kvs k b) (.ref D)
  len : ∀ kvs k b, (pu kvs k b).length ≤ kvs.length + 1
section
variable {P : Program} {w0 : World} {S : Sto P w0} {α β γ κ : Type} [PyI κ] [PyI β] {K : PySem.W.Frag} {e : Ef} {σ : L2.St} {W W2 : Wo} {ta tb te tc tl tk tv : TE} {t u : TT} {i j k m n : Nat} {v : V} {g : TG} {vs0 : List Nat} {wi : TI}
structure AccD (k : DKd S κ β) (e : Ef) (D : Addr) (W2 W' : Wo) (kvs : List (κ × β)) : Prop where
  g : Gw e W2 W'
  h : k.kd.own W' [D] kvs (.ref D)
  f : ¬ W'.F D
theorem AccD.go {k : DKd S κ β} {D : Addr} {W2 W' W3 : Wo} {kvs : List (κ × β)} (o : AccD k e D W2 W' kvs) (nS : ¬ e.S D) (g : Gw e W' W3) : AccD k e D W2 W3 kvs := by
  obtain ⟨_, ob, h1, _⟩ := k.obj o.h
  exact ⟨o.g.trans g, Kd.go g (fun a m => by rw [List.mem_singleton.mp m]; exact nS) o.h, fun z => (g.new D z).elim o.f (some_ne h1)⟩
end
section
variable {β κ : Type} [PyI β] [PyI κ] [NKey κ] [DecidableEq κ]
end
end Y

namespace W
open PySem PySem.Spec L2 Y
def top (i : Nat) : Stmt := PySem.Challenge.pw_landandwater_k90_whole_spills_and_drains.main.body.getD i (.Pass ⟨0, 0, 0, 0⟩)
structure Glb (mg : Str → Option Value) : Prop where
  len : mg "len" = none
  range : mg "range" = none
  abs : mg "abs" = none
  int : mg "int" = none
  bool : mg "bool" = none
  sum : mg "sum" = none
  min : mg "min" = none
  max : mg "max" = none
  tuple : mg "tuple" = none
  isinstance : mg "isinstance" = none
  str : mg "str" = none
  list : mg "list" = none
  sorted : mg "sorted" = none
  c_LAND : ∃ t, mg "LAND" = some (.str "x" t)
  c_WATER : ∃ t, mg "WATER" = some (.str "." t)
  c_DIGITS : ∃ t, mg "DIGITS" = some (.str "0123456789" t)

section
variable {P : Program} {w : World} {K : PySem.W.Frag} {mg : Str → Option Value} {base : Heap}
abbrev s__law_take : Stmt := top 44
abbrev N__law_take : List Str := ["deal", "many", "at"]
abbrev P__law_take : List Str := ["deal", "many"]
theorem sc__law_take : FnScope N__law_take P__law_take (defScope s__law_take) := ⟨rfl, rfl, rfl, by decide +kernel, rfl, by decide +kernel, by decide +kernel⟩
theorem ok__law_take (F : At K mg "_law_take" s__law_take P__law_take) (G : Glb mg) : Has P w K mg base "_law_take" 1 P__law_take sp_take := by
  refine Has.of F sc__law_take (fun vs H Q E h => ?_) (fun f cdv A outer s H0 vs Q E hr h => ?_)
  · obtain ⟨d, W, many, rfl, _⟩ := h
    rfl
  · obtain ⟨d, W, many, rfl, rfl, hG, hlim, hpos, kk⟩ := h
    have sc := sc__law_take
    have hA := hG.ok
    have hn := hA.n
    have hp := hA.p
    have h1 := hA.l1
    have hb : (W.n : Int) ≤ 2 ^ 60 := by omega
    generalize hnn : W.n = n at *
    refine ⟨_, pss_cons (ps_set (i := 2) sc.nd rfl (Or.inl rfl) (pe_ix ix_list (pe_ix ix_list (pv 0) pe_int (fun _ _ => rfl)) pe_int (fun _ _ => rfl)))
      (pss_cons (ps_asg (pe_op op_add (pv 2) pe_int) (pg_sub (pe_ix ix_list (pv 0) pe_int (fun _ _ => rfl)) pe_int set_list))
      (pss_cons (ps_if (pt_cmpR op_lt (pv 2) (pe_callB call_len_seq (by rfl) G.len PySem.boot_len (pa_cons (pe_ix ix_list (pv 0) pe_int (fun _ _ => rfl)) pa_nil)) (nomark _))
        (pss_one (ps_ret (pe_op op_mod (pe_ix ix_list (pe_ix ix_list (pv 0) pe_int (fun _ _ => rfl)) (pv 2) (fun _ _ => rfl)) (pv 1)))) pss_nil)
      (pss_one (ps_ret (pe_op op_mod (pe_op op_fdiv (pe_op op_add (pe_op op_add (pe_op op_mul (pv 2) pe_int) (pe_op op_mul (pe_ix ix_list (pv 0) pe_int (fun _ _ => rfl)) pe_int)) (pe_op op_mul (pe_op op_mul (pv 2) (pv 2)) pe_int)) pe_int) (pv 1)))))), ?_⟩
    refine ⟨_, rfl, d.p, _, 1, .ref d.l2, rfl, rfl, SqL.of hp, rfl, d.l2, _, 0, .int (n : Int), rfl, rfl, SqL.of hn, rfl, ?_⟩
    refine ⟨_, rfl, (n : Int), 1, rfl, rfl, ?_⟩
    refine ⟨_, rfl, d.p, _, 1, .ref d.l2, rfl, rfl, SqL.of hp, rfl, d.l2, _, 0, 0, rfl, rfl, hn, rfl, ?_⟩
    have hp' : (upd W.H d.l2 (.lst [.int ((n : Int) + 1)])) d.p = some (.lst [.ref d.l1, .ref d.l2, .int d.tot]) := by rw [upd_ne hA.np]; exact hp
    have h1' : (upd W.H d.l2 (.lst [.int ((n : Int) + 1)])) d.l1 = some (.lst (d.row.map V.int)) := by rw [upd_ne hA.n1]; exact h1
    have gg := drawn hG
    rw [hnn] at gg
    have fin : ∀ x : Int, Q (.int (x % many)) (upd W.H d.l2 (.lst [.int ((n : Int) + 1)])) := fun x => kk (x % many) (Int.emod_nonneg _ (by omega)) (Int.emod_lt_of_pos _ hpos) _ ⟨upd W.H d.l2 (.lst [.int ((n : Int) + 1)]), W.F, n + 1⟩ gg rfl rfl
    refine ⟨_, rfl, _, rfl, d.p, _, 0, .ref d.l1, rfl, rfl, SqL.of hp', rfl, d.l1, _, rfl, .inl (SqL.of h1'), (n : Int), _, rfl, rfl, _, rfl, ?_⟩
    refine ite2 (fun hc => ?_) (fun hc => ?_)
    · have hlt : n < d.row.length := by
        have := of_decide_eq_true hc
        rw [List.length_map] at this
        omega
      have hx : atI (d.row.map V.int) (n : Int) = some (.int d.row[n]) := by
        refine atI_nat ?_
        rw [List.getElem?_map, List.getElem?_eq_getElem hlt]; rfl
      refine ⟨_, rfl, d.p, _, 0, .ref d.l1, rfl, rfl, SqL.of hp', rfl, _, rfl, d.l1, _, (n : Int), .int d.row[n], rfl, rfl, SqL.of h1', hx, _, rfl, d.row[n], many, rfl, rfl, hpos, ?_⟩
      exact fin _
    · have big : -(2 ^ 64 : Int) < (n : Int) ∧ (n : Int) < 2 ^ 64 := ⟨by omega, by omega⟩
      refine ⟨_, rfl, _, _, rfl, rfl, .inl big, ?_⟩
      refine ⟨_, rfl, d.p, _, 2, .int d.tot, rfl, rfl, SqL.of hp', rfl, _, _, rfl, rfl, .inr ⟨by decide, by decide⟩, _, _, rfl, rfl, ?_⟩
      refine ⟨_, rfl, _, rfl, _, _, rfl, rfl, .inl big, _, _, rfl, rfl, .inr ⟨by decide, by decide⟩, _, _, rfl, rfl, _, _, rfl, rfl, ⟨by decide, by decide⟩, _, rfl, _, many, rfl, rfl, hpos, ?_⟩
      exact fin _

abbrev s__law_deal : Stmt := top 43
abbrev N__law_deal : List Str := ["script", "row", "k", "cell", "turn", "total"]
abbrev P__law_deal : List Str := ["script"]
theorem sc__law_deal : FnScope N__law_deal P__law_deal (defScope s__law_deal) := ⟨rfl, rfl, rfl, by decide +kernel, rfl, by decide +kernel, by decide +kernel⟩
def m__law_deal (a_script : List Int) : WP Unit := (WP.row (WP.pure ([] : List Int))).bind fun a1_row => (WP.range1 (WP.min2 (WP.len (WP.pure a_script)) (WP.pure (63 : Int)))).bind fun xs2 => WP.after (WP.loop (γ := Unit) (fun c2 (y2 : (List Int)) => (WP.abs ((WP.ix (WP.pure a_script) (WP.pure c2)).bind WP.pure)).bind fun a3_cell => ((WP.ge (WP.pure a3_cell) (WP.pow (WP.pure (10 : Int)) (WP.pure (18 : Int)))).bind fun b => WP.cond b ((WP.range1 (WP.pure (40 : Int))).bind fun xs5 => WP.after (WP.loop (γ := Unit) (fun c5 (y5 : (List Int) × Int) => ((WP.gt (WP.pure y5.2) (WP.pure (0 : Int))).bind fun b => WP.cond b (((WP.mod (WP.pure y5.2) (WP.pure (1009 : Int))).bind fun a => WP.req (y5.1.length < 100000) (y5.1 ++ [a])).bind fun a7_row => (WP.fdiv (WP.pure y5.2) (WP.pure (1009 : Int))).bind fun a8_cell => (WP.pure (a7_row, a8_cell))) ((WP.pure (y5.1, y5.2)))).bind fun (y6 : (List Int) × Int) => (WP.pure (.nx (y6.1, y6.2)))) xs5 (y2, a3_cell)) (fun (z5 : (List Int) × Int) => (WP.pure (z5.1, z5.2))) (fun r => (WP.none (b := r)))) ((WP.add (WP.add (WP.mul (WP.mod (WP.pure a3_cell) (WP.pure (2147483629 : Int))) (WP.pure (48271 : Int))) (WP.mul (WP.pure c2) (WP.pure (69621 : Int)))) (WP.pure (11 : Int))).bind fun a9_cell => (WP.range1 (WP.pure (5 : Int))).bind fun xs10 => WP.after (WP.loop (γ := Unit) (fun c10 (y10 : (List Int) × Int) => (WP.mod (WP.add (WP.add (WP.mul (WP.pure y10.2) (WP.pure (16807 : Int))) (WP.pure (12345 : Int))) (WP.pure c10)) (WP.pure (2147483647 : Int))).bind fun a11_cell => ((WP.mod (WP.fdiv (WP.pure a11_cell) (WP.pure (7 : Int))) (WP.pure (1009 : Int))).bind fun a => WP.req (y10.1.length < 100000) (y10.1 ++ [a])).bind fun a12_row => (WP.pure (.nx (a12_row, a11_cell)))) xs10 (y2, a9_cell)) (fun (z10 : (List Int) × Int) => (WP.pure (z10.1, z10.2))) (fun r => (WP.none (b := r))))).bind fun (y4 : (List Int) × Int) => (WP.pure (.nx y4.1))) xs2 a1_row) (fun (z2 : (List Int)) => (WP.add (WP.sum (WP.pure z2)) (WP.len (WP.pure a_script))).bind fun a13_total => (WP.pure a13_total).bind fun _ => WP.pure ()) (fun r => (WP.pure r))
theorem ok__law_deal (LT : ∀ ns : List Int, ns.length ≤ 63 → ∀ n, (m__law_deal ns).run n fun _ _ => True) (F : At K mg "_law_deal" s__law_deal P__law_deal) (G : Glb mg)  : Has P w K mg base "_law_deal" 1 P__law_deal (sp_deal K) := by
  refine Has.of F sc__law_deal (fun vs H Q E h => ?_) (fun f cdv A outer s Hent vs Q E hr h => ?_)
  · obtain ⟨v_script, a_script, W0, rfl, _⟩ := h
    rfl
  · obtain ⟨v_script, a_script, W0, rfl, rfl, g00, h_script, hlen, kk⟩ := h
    have hm := LT a_script hlen W0.n
    have sc := sc__law_deal
    have g0 := Gw.refl g00
    unfold m__law_deal at hm
    refine ⟨_, (pss_cons (ps_set (i := 1) sc.nd rfl (Or.inl rfl) (pe_lst pa_nil))
      (pss_cons (ps_for PassesOwn.never rfl (pi_range1 rfl G.range (pa_cons (pe_callB (call_min2 rfl) (by rfl) G.min (by decide +kernel) (pa_cons (pe_callB call_len_seq (by rfl) G.len PySem.boot_len (pa_cons (pv 0) pa_nil)) (pa_cons pe_int pa_nil))) pa_nil)) (pg_name (i := 2) sc.nd rfl (Or.inl rfl))
      (pss_cons (ps_set (i := 3) sc.nd rfl (Or.inl rfl) (pe_callB call_abs (by rfl) G.abs (by decide +kernel) (pa_cons (pe_callTy call_int1 (by rfl) G.int (by decide +kernel) (pa_cons (pe_ix ix_list (pv 0) (pv 2) (fun _ _ => rfl)) pa_nil)) pa_nil)))
      (pss_one (ps_if (pt_cmpR op_ge (pv 3) (pe_op op_pow pe_int pe_int) (nomark _)) (pss_one (ps_for PassesOwn.never rfl (pi_range1 rfl G.range (pa_cons pe_int pa_nil)) (pg_name (i := 4) sc.nd rfl (Or.inl rfl))
      (pss_one (ps_if (pt_cmpR op_gt (pv 3) pe_int (nomark _)) (pss_cons (ps_expr (pe_bm PySem.F.plainAttrs_list PySem.F.slot_list_append PySem.F.type_list_append mt_append (pv 1) (pa_cons (pe_op op_mod (pv 3) pe_int) pa_nil)))
      (pss_one (ps_set (i := 3) sc.nd rfl (Or.inl rfl) (pe_op op_fdiv (pv 3) pe_int)))) pss_nil)))) (pss_cons (ps_set (i := 3) sc.nd rfl (Or.inl rfl) (pe_op op_add (pe_op op_add (pe_op op_mul (pe_op op_mod (pv 3) pe_int) pe_int) (pe_op op_mul (pv 2) pe_int)) pe_int))
      (pss_one (ps_for PassesOwn.never rfl (pi_range1 rfl G.range (pa_cons pe_int pa_nil)) (pg_name (i := 4) sc.nd rfl (Or.inl rfl))
      (pss_cons (ps_set (i := 3) sc.nd rfl (Or.inl rfl) (pe_op op_mod (pe_op op_add (pe_op op_add (pe_op op_mul (pv 3) pe_int) pe_int) (pv 4)) pe_int))
      (pss_one (ps_expr (pe_bm PySem.F.plainAttrs_list PySem.F.slot_list_append PySem.F.type_list_append mt_append (pv 1) (pa_cons (pe_op op_mod (pe_op op_fdiv (pv 3) pe_int) pe_int) pa_nil))))))))))))
      (pss_cons (ps_set (i := 5) sc.nd rfl (Or.inl rfl) (pe_op op_add (pe_callB (cr_sum rfl) (by rfl) G.sum (by decide +kernel) (pa_cons (pv 1) pa_nil)) (pe_callB call_len_seq (by rfl) G.len PySem.boot_len (pa_cons (pv 0) pa_nil))))
      (pss_one (ps_ret (pe_lst (pa_cons (pv 1) (pa_cons (pe_lst (pa_cons pe_int pa_nil)) (pa_cons (pv 5) pa_nil))))))))), ?_⟩
    refine q_asg (W := W0) (ew_lst (eas_nil (α := Int))) g0.ok hm fun a1_row v_row W1 g1 ⟨fp_row, ho0_row, hf_row⟩ hm => ?_
    have hz_row : ∀ a ∈ fp_row, W0.H a = none := fun a m => g0.live a (hf_row a m).1
    have g0 := g0.trans g1
    have ho_row : Var (kL Int) W0 W1 fp_row a1_row v_row := ⟨ho0_row, hz_row, fun b m => (hf_row b m).2.2⟩
    refine q_forR1 (W := W1) (ew_min2 (ew_lenQ rfl (sqL_g g0 h_script)) ew_int) g0.ok hm fun W2 g2 => ?_
    have ho_row := ho_row.go g00 g2
    have g0 := g0.trans g2
    refine ⟨fun y σ' W' => ∃ (v_row : V) (fp_row : List Addr) (o_k : Option V) (o_cell : Option V) (o_turn : Option V), σ' = [some (.ref v_script), some v_row, o_k, o_cell, o_turn, none] ∧ Gw ef0 W0 W' ∧ St W2 W' ∧ Var (kL Int) W0 W' fp_row y v_row, ⟨v_row, fp_row, _, _, _, rfl, g0, (St.refl _), ho_row⟩, fun c2 y2 σi s2 Wi2 R2 nx2 ht hI hm kn2 kb2 kr2 => ?_, fun z2 σi Wi2 hI hm => ?_⟩
    ·
      obtain ⟨v_row, fp_row, o_k, o_cell, o_turn, rfl, g0, sl2, ho_row⟩ := hI
      obtain ⟨v_k, rfl, h_k⟩ := ht
      refine q_asg (W := Wi2) (ew_abs (ew_int1 (ew_ixQ rfl (sqL_g g0 h_script) (ew_var (v := v_k) rfl h_k)))) g0.ok hm fun a3_cell v_cell W3 g3 h_cell hm => ?_
      have ho_row := ho_row.go g00 g3
      have h_k := PyI.st g3.st h_k
      have sl2 := sl2.trans g3.st
      have g0 := g0.trans g3
      first | refine norm_st (σ' := [some (.ref v_script), some v_row, some v_k, some v_cell, o_turn, none]) rfl ?_ | skip
      refine st_join (W := W3) (s := (List Int) × Int) (fun y σ' W' => ∃ (v_cell : V) (v_row : V) (fp_row : List Addr) (o_turn : Option V), σ' = [some (.ref v_script), some v_row, some v_k, some v_cell, o_turn, none] ∧ Gw ef0 W0 W' ∧ St W3 W' ∧ Var (kL Int) W0 W' fp_row y.1 v_row ∧ Rp W' y.2 v_cell) (et_t (ew_ge (ew_var (v := v_cell) rfl h_cell) (ew_pow ew_int ew_int))) g0.ok hm (fun y4 σj Wj4 hI hm => ?_) (fun W4 R4 g4 hm kj => ?_) (fun W4 R4 g4 hm kj => ?_)
      ·
        obtain ⟨v_cell, v_row, fp_row, o_turn, rfl, g0, sj4, ho_row, h_cell⟩ := hI
        have h_k := PyI.st sj4 h_k
        have sl2 := sl2.trans sj4
        exact kn2 y4.1 _ Wj4 ⟨v_row, fp_row, _, _, _, rfl, g0, sl2, ho_row⟩ hm
      ·
        have ho_row := ho_row.go g00 g4
        have h_k := PyI.st g4.st h_k
        have h_cell := PyI.st g4.st h_cell
        have sl2 := sl2.trans g4.st
        have g0 := g0.trans g4
        have sj4 := g4.st
        refine st_forR1 (W := W4) ew_int g0.ok hm fun W5 g5 => ?_
        have ho_row := ho_row.go g00 g5
        have h_k := PyI.st g5.st h_k
        have h_cell := PyI.st g5.st h_cell
        have sl2 := sl2.trans g5.st
        have sj4 := sj4.trans g5.st
        have g0 := g0.trans g5
        refine ⟨fun y σ' W' => ∃ (v_cell : V) (v_row : V) (fp_row : List Addr) (o_turn : Option V), σ' = [some (.ref v_script), some v_row, some v_k, some v_cell, o_turn, none] ∧ Gw ef0 W0 W' ∧ St W5 W' ∧ Var (kL Int) W0 W' fp_row y.1 v_row ∧ Rp W' y.2 v_cell, ⟨v_cell, v_row, fp_row, _, rfl, g0, (St.refl _), ho_row, h_cell⟩, fun c5 y5 σi s2 Wi5 R5 nx5 ht hI hm kn5 kb5 kr5 => ?_, fun z5 σi Wi5 hI hm => ?_⟩
        ·
          obtain ⟨v_cell, v_row, fp_row, o_turn, rfl, g0, sl5, ho_row, h_cell⟩ := hI
          have h_k := PyI.st sl5 h_k
          have sl2 := sl2.trans sl5
          have sj4 := sj4.trans sl5
          obtain ⟨v_turn, rfl, h_turn⟩ := ht
          refine st_join (W := Wi5) (s := (List Int) × Int) (fun y σ' W' => ∃ (v_cell : V) (v_row : V) (fp_row : List Addr), σ' = [some (.ref v_script), some v_row, some v_k, some v_cell, some v_turn, none] ∧ Gw ef0 W0 W' ∧ St Wi5 W' ∧ Var (kL Int) W0 W' fp_row y.1 v_row ∧ Rp W' y.2 v_cell) (et_t (ew_gt (ew_var (v := v_cell) rfl h_cell) ew_int)) g0.ok hm (fun y6 σj Wj6 hI hm => ?_) (fun W6 R6 g6 hm kj => ?_) (fun W6 R6 g6 hm kj => ?_)
          ·
            obtain ⟨v_cell, v_row, fp_row, rfl, g0, sj6, ho_row, h_cell⟩ := hI
            have h_k := PyI.st sj6 h_k
            have h_turn := PyI.st sj6 h_turn
            have sl2 := sl2.trans sj6
            have sj4 := sj4.trans sj6
            have sl5 := sl5.trans sj6
            exact kn5 (y6.1, y6.2) _ Wj6 ⟨v_cell, v_row, fp_row, _, rfl, g0, sl5, ho_row, h_cell⟩ hm
          ·
            have ho_row := ho_row.go g00 g6
            have h_k := PyI.st g6.st h_k
            have h_cell := PyI.st g6.st h_cell
            have h_turn := PyI.st g6.st h_turn
            have sl2 := sl2.trans g6.st
            have sj4 := sj4.trans g6.st
            have sl5 := sl5.trans g6.st
            have g0 := g0.trans g6
            have sj6 := g6.st
            refine q_app (W := W6) g00 g0 rfl ho_row (ew_mod (ew_var (v := v_cell) rfl h_cell) ew_int) hm fun a7_row W7_ W7 l_row el_row g7 s g02 kk ff ho_row hm => ?_
            have h_k := PyI.st g7.st h_k
            have h_cell := PyI.st g7.st h_cell
            have h_turn := PyI.st g7.st h_turn
            have sl2 := sl2.trans g7.st
            have sj4 := sj4.trans g7.st
            have sl5 := sl5.trans g7.st
            have sj6 := sj6.trans g7.st
            have g0 := g0.trans g7
            have h_k := PyI.st s h_k
            have h_cell := PyI.st s h_cell
            have h_turn := PyI.st s h_turn
            have sl2 := sl2.trans s
            have sj4 := sj4.trans s
            have sl5 := sl5.trans s
            have sj6 := sj6.trans s
            have g0 := g02
            refine st_asg (W := W7) (ew_fdiv (ew_var (v := v_cell) rfl h_cell) ew_int) g0.ok hm fun a8_cell v_cell W8 g8 h_cell hm => ?_
            have ho_row := ho_row.go g00 g8
            have h_k := PyI.st g8.st h_k
            have h_turn := PyI.st g8.st h_turn
            have sl2 := sl2.trans g8.st
            have sj4 := sj4.trans g8.st
            have sl5 := sl5.trans g8.st
            have sj6 := sj6.trans g8.st
            have g0 := g0.trans g8
            exact kj (a7_row, a8_cell) _ W8 ⟨v_cell, v_row, fp_row, rfl, g0, sj6, ho_row, h_cell⟩ hm
          ·
            have ho_row := ho_row.go g00 g6
            have h_k := PyI.st g6.st h_k
            have h_cell := PyI.st g6.st h_cell
            have h_turn := PyI.st g6.st h_turn
            have sl2 := sl2.trans g6.st
            have sj4 := sj4.trans g6.st
            have sl5 := sl5.trans g6.st
            have g0 := g0.trans g6
            have sj6 := g6.st
            refine st_next ?_
            exact kj (y5.1, y5.2) _ W6 ⟨v_cell, v_row, fp_row, rfl, g0, sj6, ho_row, h_cell⟩ hm
        ·
          obtain ⟨v_cell, v_row, fp_row, o_turn, rfl, g0, sl5, ho_row, h_cell⟩ := hI
          have h_k := PyI.st sl5 h_k
          have sl2 := sl2.trans sl5
          have sj4 := sj4.trans sl5
          exact kj (z5.1, z5.2) _ Wi5 ⟨v_cell, v_row, fp_row, _, rfl, g0, sj4, ho_row, h_cell⟩ hm
      ·
        have ho_row := ho_row.go g00 g4
        have h_k := PyI.st g4.st h_k
        have h_cell := PyI.st g4.st h_cell
        have sl2 := sl2.trans g4.st
        have g0 := g0.trans g4
        have sj4 := g4.st
        refine q_asg (W := W4) (ew_add (ew_add (ew_mul (ew_mod (ew_var (v := v_cell) rfl h_cell) ew_int) ew_int) (ew_mul (ew_var (v := v_k) rfl h_k) ew_int)) ew_int) g0.ok hm fun a9_cell v_cell W9 g9 h_cell hm => ?_
        have ho_row := ho_row.go g00 g9
        have h_k := PyI.st g9.st h_k
        have sl2 := sl2.trans g9.st
        have sj4 := sj4.trans g9.st
        have g0 := g0.trans g9
        first | refine norm_st (σ' := [some (.ref v_script), some v_row, some v_k, some v_cell, o_turn, none]) rfl ?_ | skip
        refine st_forR1 (W := W9) ew_int g0.ok hm fun W10 g10 => ?_
        have ho_row := ho_row.go g00 g10
        have h_k := PyI.st g10.st h_k
        have h_cell := PyI.st g10.st h_cell
        have sl2 := sl2.trans g10.st
        have sj4 := sj4.trans g10.st
        have g0 := g0.trans g10
        refine ⟨fun y σ' W' => ∃ (v_cell : V) (v_row : V) (fp_row : List Addr) (o_turn : Option V), σ' = [some (.ref v_script), some v_row, some v_k, some v_cell, o_turn, none] ∧ Gw ef0 W0 W' ∧ St W10 W' ∧ Var (kL Int) W0 W' fp_row y.1 v_row ∧ Rp W' y.2 v_cell, ⟨v_cell, v_row, fp_row, _, rfl, g0, (St.refl _), ho_row, h_cell⟩, fun c10 y10 σi s2 Wi10 R10 nx10 ht hI hm kn10 kb10 kr10 => ?_, fun z10 σi Wi10 hI hm => ?_⟩
        ·
          obtain ⟨v_cell, v_row, fp_row, o_turn, rfl, g0, sl10, ho_row, h_cell⟩ := hI
          have h_k := PyI.st sl10 h_k
          have sl2 := sl2.trans sl10
          have sj4 := sj4.trans sl10
          obtain ⟨v_turn, rfl, h_turn⟩ := ht
          refine q_asg (W := Wi10) (ew_mod (ew_add (ew_add (ew_mul (ew_var (v := v_cell) rfl h_cell) ew_int) ew_int) (ew_var (v := v_turn) rfl h_turn)) ew_int) g0.ok hm fun a11_cell v_cell W11 g11 h_cell hm => ?_
          have ho_row := ho_row.go g00 g11
          have h_k := PyI.st g11.st h_k
          have h_turn := PyI.st g11.st h_turn
          have sl2 := sl2.trans g11.st
          have sj4 := sj4.trans g11.st
          have sl10 := sl10.trans g11.st
          have g0 := g0.trans g11
          refine st_app (W := W11) g00 g0 rfl ho_row (ew_mod (ew_fdiv (ew_var (v := v_cell) rfl h_cell) ew_int) ew_int) hm fun a12_row W12_ W12 l_row el_row g12 s g02 kk ff ho_row hm => ?_
          have h_k := PyI.st g12.st h_k
          have h_cell := PyI.st g12.st h_cell
          have h_turn := PyI.st g12.st h_turn
          have sl2 := sl2.trans g12.st
          have sj4 := sj4.trans g12.st
          have sl10 := sl10.trans g12.st
          have g0 := g0.trans g12
          have h_k := PyI.st s h_k
          have h_cell := PyI.st s h_cell
          have h_turn := PyI.st s h_turn
          have sl2 := sl2.trans s
          have sj4 := sj4.trans s
          have sl10 := sl10.trans s
          have g0 := g02
          exact kn10 (a12_row, a11_cell) _ W12 ⟨v_cell, v_row, fp_row, _, rfl, g0, sl10, ho_row, h_cell⟩ hm
        ·
          obtain ⟨v_cell, v_row, fp_row, o_turn, rfl, g0, sl10, ho_row, h_cell⟩ := hI
          have h_k := PyI.st sl10 h_k
          have sl2 := sl2.trans sl10
          have sj4 := sj4.trans sl10
          exact kj (z10.1, z10.2) _ Wi10 ⟨v_cell, v_row, fp_row, _, rfl, g0, sj4, ho_row, h_cell⟩ hm
    ·
      obtain ⟨v_row, fp_row, o_k, o_cell, o_turn, rfl, g0, sl2, ho_row⟩ := hI
      refine q_asg (W := Wi2) (ew_add (ew_sum (ew_varR (v := v_row) rfl (Var.nS g00 ho_row) ho_row.own)) (ew_lenQ rfl (sqL_g g0 h_script))) g0.ok hm fun a13_total v_total W13 g13 h_total hm => ?_
      have ho_row := ho_row.go g00 g13
      have g0 := g0.trans g13
      first | refine norm_st (σ' := [some (.ref v_script), some v_row, o_k, o_cell, o_turn, some v_total]) rfl ?_ | skip
      exact st_retdeal g00 g0 rfl ho_row (ew_var (v := v_total) rfl h_total) hm fun t v W1 g hn nd hm => kk v W1 g hn nd
abbrev s_is_square : Stmt := top 3
abbrev N_is_square : List Str := ["chart", "square", "row", "column"]
abbrev P_is_square : List Str := ["chart", "square"]
theorem sc_is_square : FnScope N_is_square P_is_square (defScope s_is_square) := ⟨rfl, rfl, rfl, by decide +kernel, rfl, by decide +kernel, by decide +kernel⟩
def m_is_square (a_chart : (List Str)) (a_square : Sq) : WP Bool := (WP.pure a_square).bind fun a1_row_column => (WP.and (WP.chain (fun i j => decide (i ≤ j)) (fun i j => decide (i < j)) (WP.pure (0 : Int)) (WP.pure a1_row_column.1) (WP.len (WP.pure a_chart))) (WP.chain (fun i j => decide (i ≤ j)) (fun i j => decide (i < j)) (WP.pure (0 : Int)) (WP.pure a1_row_column.2) (WP.lenS (WP.ix (WP.pure a_chart) (WP.pure (0 : Int)))))).bind fun r2 => (WP.pure r2)
def sp_is_square : Sp := fun vs H Q _ => ∃ (W : Wo) (a_chart : (List Str)) (a_square : Sq) (v_chart v_square : V), vs = [v_chart, v_square] ∧ W.H = H ∧ Good ef0 W ∧ Rp W a_chart v_chart ∧ Rp W a_square v_square ∧ (m_is_square a_chart a_square).run W.n fun n r => ∀ v W', Gw ef0 W W' → W'.n = n → (sI (e := ef0) (α := Bool)).post W W' r v → Q v W'.H
theorem ev_is_square {e : Ef} {σ : L2.St} {W : Wo} {E : XK} {t0 t1 : TE} {w0 : WP (List Str)} {w1 : WP Sq} (h0 : EvW e t0 σ W sI w0) (h1 : EvW e t1 σ W sI w1) : EvW e (tCall sp_is_square [] E (tCons t0 (tCons t1 tNil))) σ W (sI (α := Bool)) (WP.b2 w0 w1 m_is_square) := ew_call2N h0 h1 fun W2 b0 b1 x0 x1 g2 r0 r1 Q q E => by
  exact ⟨W2, b0, b1, x0, x1, rfl, rfl, g2.z, r0, r1, WP.mono _ (fun n c h v W3 g3 hn p => h v W3 (Gw.up g2 g3) hn p) q⟩
theorem ok_is_square (F : At K mg "is_square" s_is_square P_is_square) (G : Glb mg)  : Has P w K mg base "is_square" 1 P_is_square sp_is_square := by
  refine Has.of F sc_is_square (fun vs H Q E h => ?_) (fun f cdv A outer s H0 vs Q E hr h => ?_)
  · obtain ⟨W0, a_chart, a_square, v_chart, v_square, rfl, _⟩ := h
    rfl
  · obtain ⟨W0, a_chart, a_square, v_chart, v_square, rfl, rfl, g00, h_chart, h_square, hm⟩ := h
    have sc := sc_is_square
    have g0 := Gw.refl g00
    unfold m_is_square at hm
    refine ⟨_, (pss_cons (ps_asg (pv 1) (pg_tup rfl (pgs_cons (pg_name (i := 2) sc.nd rfl (Or.inl rfl)) (pgs_cons (pg_name (i := 3) sc.nd rfl (Or.inl rfl)) pgs_nil))))
      (pss_one (ps_ret (pe_and (pe_chain op_le op_lt pe_int (pv 2) (pe_callB call_len_seq (by rfl) G.len PySem.boot_len (pa_cons (pv 0) pa_nil))) (pe_one (pe_chain op_le op_lt pe_int (pv 3) (pe_callB call_len_str (by rfl) G.len PySem.boot_len (pa_cons (pe_ix ix_tup (pv 0) pe_int (fun _ _ => rfl)) pa_nil)))))))), ?_⟩
    refine q_un2 (W := W0) (ew_var (v := v_square) rfl h_square) g0.ok hm fun a1_row_column v_row v_column W1 g1 h_row h_column hm => ?_
    have h_chart := PyI.st g1.st h_chart
    have h_square := PyI.st g1.st h_square
    have g0 := g0.trans g1
    first | refine norm_st (σ' := [some v_chart, some v_square, some v_row, some v_column]) rfl ?_ | skip
    refine st_ret (W := W1) (ew_andV (ew_chain (C := fun i j => decide (i ≤ j)) (C' := fun i j => decide (i < j)) ew_int (ew_var (v := v_row) rfl h_row) (ew_lenT (ew_var (v := v_chart) rfl h_chart))) (ew_chain (C := fun i j => decide (i ≤ j)) (C' := fun i j => decide (i < j)) ew_int (ew_var (v := v_column) rfl h_column) (ew_lenS (ew_ixT (ew_var (v := v_chart) rfl h_chart) ew_int)))) g0.ok hm fun r2 v_ret W2 g2 hp hm => ?_
    exact hm v_ret W2 (g0.trans g2) rfl hp
abbrev s_is_land : Stmt := top 4
abbrev N_is_land : List Str := ["chart", "square"]
abbrev P_is_land : List Str := ["chart", "square"]
theorem sc_is_land : FnScope N_is_land P_is_land (defScope s_is_land) := ⟨rfl, rfl, rfl, by decide +kernel, rfl, by decide +kernel, by decide +kernel⟩
def m_is_land (a_chart : (List Str)) (a_square : Sq) : WP Bool := (WP.and (WP.b2 (WP.pure a_chart) (WP.pure a_square) m_is_square) (WP.eq (WP.ixS (WP.ix (WP.pure a_chart) (WP.fst (WP.pure a_square))) (WP.snd (WP.pure a_square))) (WP.pure ("x" : Str)))).bind fun r1 => (WP.pure r1)
def sp_is_land : Sp := fun vs H Q _ => ∃ (W : Wo) (a_chart : (List Str)) (a_square : Sq) (v_chart v_square : V), vs = [v_chart, v_square] ∧ W.H = H ∧ Good ef0 W ∧ Rp W a_chart v_chart ∧ Rp W a_square v_square ∧ (m_is_land a_chart a_square).run W.n fun n r => ∀ v W', Gw ef0 W W' → W'.n = n → (sI (e := ef0) (α := Bool)).post W W' r v → Q v W'.H
theorem ev_is_land {e : Ef} {σ : L2.St} {W : Wo} {E : XK} {t0 t1 : TE} {w0 : WP (List Str)} {w1 : WP Sq} (h0 : EvW e t0 σ W sI w0) (h1 : EvW e t1 σ W sI w1) : EvW e (tCall sp_is_land [] E (tCons t0 (tCons t1 tNil))) σ W (sI (α := Bool)) (WP.b2 w0 w1 m_is_land) := ew_call2N h0 h1 fun W2 b0 b1 x0 x1 g2 r0 r1 Q q E => by
  exact ⟨W2, b0, b1, x0, x1, rfl, rfl, g2.z, r0, r1, WP.mono _ (fun n c h v W3 g3 hn p => h v W3 (Gw.up g2 g3) hn p) q⟩
theorem ok_is_land (F : At K mg "is_land" s_is_land P_is_land) (G : Glb mg) (H_is_square : Has P w K mg base "is_square" 1 P_is_square sp_is_square) : Has P w K mg base "is_land" 2 P_is_land sp_is_land := by
  refine Has.of F sc_is_land (fun vs H Q E h => ?_) (fun f cdv A outer s H0 vs Q E hr h => ?_)
  · obtain ⟨W0, a_chart, a_square, v_chart, v_square, rfl, _⟩ := h
    rfl
  · obtain ⟨W0, a_chart, a_square, v_chart, v_square, rfl, rfl, g00, h_chart, h_square, hm⟩ := h
    have sc := sc_is_land
    have g0 := Gw.refl g00
    unfold m_is_land at hm
    refine ⟨_, (pss_one (ps_ret (pe_and (pe_user H_is_square (hr.mono (by decide)) rfl (pa_cons (pv 0) (pa_cons (pv 1) pa_nil))) (pe_one (pe_cmpR op_eq (pe_ix ix_str (pe_ix ix_tup (pv 0) (pe_ix ix_tup (pv 1) pe_int (fun _ _ => rfl)) (fun _ _ => rfl)) (pe_ix ix_tup (pv 1) pe_int (fun _ _ => rfl)) (fun _ _ => rfl)) (pe_glob (v := .str "x") rfl G.c_LAND.choose_spec ⟨_, rfl⟩) (nomark _)))))), ?_⟩
    refine st_ret (W := W0) (ew_andV (ev_is_square (ew_var (v := v_chart) rfl h_chart) (ew_var (v := v_square) rfl h_square)) (ew_eq (ew_ixS (ew_ixT (ew_var (v := v_chart) rfl h_chart) (ew_fst (ew_var (v := v_square) rfl h_square))) (ew_snd (ew_var (v := v_square) rfl h_square))) ew_str)) g0.ok hm fun r1 v_ret W1 g1 hp hm => ?_
    exact hm v_ret W1 (g0.trans g1) rfl hp
abbrev s_squares_of : Stmt := top 5
abbrev N_squares_of : List Str := ["chart", "row", "column"]
abbrev P_squares_of : List Str := ["chart"]
theorem sc_squares_of : FnScope N_squares_of P_squares_of (defScope s_squares_of) := ⟨rfl, rfl, rfl, by decide +kernel, rfl, by decide +kernel, by decide +kernel⟩
def m_squares_of (a_chart : (List Str)) : WP (List Sq) := (WP.lc2 (WP.range1 (WP.len (WP.pure a_chart))) (fun c1 => (WP.pure true)) (fun c1 => (WP.range1 (WP.lenS (WP.ix (WP.pure a_chart) (WP.pure (0 : Int)))))) (fun c1 d1 => (WP.pure true)) (fun c1 d1 => (WP.pair (WP.pure c1) (WP.pure d1)))).bind fun r1 => (WP.pure r1)
def sp_squares_of : Sp := fun vs H Q _ => ∃ (W : Wo) (a_chart : (List Str)) (v_chart : V), vs = [v_chart] ∧ W.H = H ∧ Good ef0 W ∧ Rp W a_chart v_chart ∧ (m_squares_of a_chart).run W.n fun n r => ∀ v W', Gw ef0 W W' → W'.n = n → (sN (e := ef0) (kL Sq)).post W W' r v → Q v W'.H
theorem ev_squares_of {e : Ef} {σ : L2.St} {W : Wo} {E : XK} {t0 : TE} {w0 : WP (List Str)} (h0 : EvW e t0 σ W sI w0) : EvW e (tCall sp_squares_of [] E (tCons t0 tNil)) σ W (sN (kL Sq)) (WP.b1 w0 m_squares_of) := ew_call1N h0 fun W2 b0 x0 g2 r0 Q q E => by
  exact ⟨W2, b0, x0, rfl, rfl, g2.z, r0, WP.mono _ (fun n c h v W3 g3 hn p => h v W3 (Gw.up g2 g3) hn (sN_up g2 p)) q⟩
theorem ok_squares_of (F : At K mg "squares_of" s_squares_of P_squares_of) (G : Glb mg)  : Has P w K mg base "squares_of" 1 P_squares_of sp_squares_of := by
  refine Has.of F sc_squares_of (fun vs H Q E h => ?_) (fun f cdv A outer s H0 vs Q E hr h => ?_)
  · obtain ⟨W0, a_chart, v_chart, rfl, _⟩ := h
    rfl
  · obtain ⟨W0, a_chart, v_chart, rfl, rfl, g00, h_chart, hm⟩ := h
    have sc := sc_squares_of
    have g0 := Gw.refl g00
    unfold m_squares_of at hm
    refine ⟨_, (pss_one (ps_ret (pe_lc2 (own := [("row", 1), ("column", 2)]) (vs1 := [2]) (g := gName 1) (g1 := gName 2) (tt := tYes) (tt1 := tYes) rfl sc.nd (pi_range1 rfl G.range (pa_cons (pe_callB call_len_seq (by rfl) G.len PySem.boot_len (pa_cons (pv 0) pa_nil)) pa_nil)) (blkOk_by (N := N_squares_of) (sc := defScope s_squares_of) (by decide +kernel)) (by decide) (fun _ _ _ _ _ => (pg_name (i := 1) sc.nd rfl (Or.inl rfl))) (fun _ _ _ _ _ => pts_nil) (fun _ _ _ _ _ => (pi_range1 rfl G.range (pa_cons (pe_callB call_len_str (by rfl) G.len PySem.boot_len (pa_cons (pe_ix (ix_tupK (K := K) rfl) (pv 0) pe_int (fun _ _ => rfl)) pa_nil)) pa_nil))) (fun _ _ _ _ _ => (pg_name (i := 2) sc.nd rfl (Or.inl rfl))) (fun _ _ _ _ _ => pts_nil) (fun _ _ _ _ _ => (pe_tup (pa_cons (pv 1) (pa_cons (pv 2) pa_nil))))))), ?_⟩
    refine st_ret (W := W0) (ew_lc2 (src_R (ew_lenT (ew_var (v := v_chart) rfl h_chart))) takes_N (fun _ _ _ h => by obtain ⟨v_row, ec, h_row⟩ := h; subst ec; rfl) (fun c1 Wc s2 gc h => by obtain ⟨v_row, ec, h_row⟩ := h; subst ec; have h_chart := PyI.st gc.st h_chart; exact et_yes) (fun c1 Wc s2 gc h => by obtain ⟨v_row, ec, h_row⟩ := h; subst ec;  have h_chart := PyI.st gc.st h_chart; exact (src_R (ew_lenS (ew_ixT (ew_var (v := v_chart) rfl h_chart) ew_int)))) (fun s2 => takes_N) (fun s2 _ _ _ h => by obtain ⟨v, ec, _⟩ := h; subst ec; exact wipe1) (fun c1 Wc s2 d1 Wd s3 gc h gd sd h2 => by obtain ⟨v_row, ec, h_row⟩ := h; subst ec; obtain ⟨v_column, ed, h_column⟩ := h2; subst ed; have h_row := PyI.st sd h_row; have h_chart := PyI.st gd.st h_chart; exact et_yes) (fun c1 Wc s2 d1 Wd s3 gc h gd sd h2 => by obtain ⟨v_row, ec, h_row⟩ := h; subst ec; obtain ⟨v_column, ed, h_column⟩ := h2; subst ed; have h_row := PyI.st sd h_row; have h_chart := PyI.st gd.st h_chart; exact (ew_pair (ew_var (v := v_row) rfl h_row) (ew_var (v := v_column) rfl h_column)))) g0.ok hm fun r1 v_ret W1 g1 hp hm => ?_
    exact hm v_ret W1 (g0.trans g1) rfl ((sN (kL Sq)).back g0 hp)
abbrev s_margin_squares : Stmt := top 6
abbrev N_margin_squares : List Str := ["chart", "found", "row", "column"]
abbrev P_margin_squares : List Str := ["chart"]
theorem sc_margin_squares : FnScope N_margin_squares P_margin_squares (defScope s_margin_squares) := ⟨rfl, rfl, rfl, by decide +kernel, rfl, by decide +kernel, by decide +kernel⟩
def m_margin_squares (a_chart : (List Str)) : WP (List Sq) := (WP.row (WP.pure ([] : List Sq))).bind fun a1_found => (WP.range2 (WP.neg (WP.pure (1 : Int))) (WP.add (WP.len (WP.pure a_chart)) (WP.pure (1 : Int)))).bind fun xs2 => WP.after (WP.loop (γ := (List Sq)) (fun c2 (y2 : (List Sq)) => (WP.range2 (WP.neg (WP.pure (1 : Int))) (WP.add (WP.lenS (WP.ix (WP.pure a_chart) (WP.pure (0 : Int)))) (WP.pure (1 : Int)))).bind fun xs3 => WP.after (WP.loop (γ := (List Sq)) (fun c3 (y3 : (List Sq)) => ((WP.not (WP.b2 (WP.pure a_chart) (WP.pair (WP.pure c2) (WP.pure c3)) m_is_square)).bind fun b => WP.cond b (((WP.pair (WP.pure c2) (WP.pure c3)).bind fun a => WP.req (y3.length < 100000) (y3 ++ [a])).bind fun a5_found => (WP.pure a5_found)) ((WP.pure y3))).bind fun (y4 : (List Sq)) => (WP.pure (.nx y4))) xs3 y2) (fun (z3 : (List Sq)) => (WP.pure (.nx z3))) (fun r => (WP.pure (.rt r)))) xs2 a1_found) (fun (z2 : (List Sq)) => (WP.pure z2)) (fun r => (WP.pure r))
def sp_margin_squares : Sp := fun vs H Q _ => ∃ (W : Wo) (a_chart : (List Str)) (v_chart : V), vs = [v_chart] ∧ W.H = H ∧ Good ef0 W ∧ Rp W a_chart v_chart ∧ (m_margin_squares a_chart).run W.n fun n r => ∀ v W', Gw ef0 W W' → W'.n = n → (sN (e := ef0) (kL Sq)).post W W' r v → Q v W'.H
theorem ev_margin_squares {e : Ef} {σ : L2.St} {W : Wo} {E : XK} {t0 : TE} {w0 : WP (List Str)} (h0 : EvW e t0 σ W sI w0) : EvW e (tCall sp_margin_squares [] E (tCons t0 tNil)) σ W (sN (kL Sq)) (WP.b1 w0 m_margin_squares) := ew_call1N h0 fun W2 b0 x0 g2 r0 Q q E => by
  exact ⟨W2, b0, x0, rfl, rfl, g2.z, r0, WP.mono _ (fun n c h v W3 g3 hn p => h v W3 (Gw.up g2 g3) hn (sN_up g2 p)) q⟩
theorem ok_margin_squares (F : At K mg "margin_squares" s_margin_squares P_margin_squares) (G : Glb mg) (H_is_square : Has P w K mg base "is_square" 1 P_is_square sp_is_square) : Has P w K mg base "margin_squares" 2 P_margin_squares sp_margin_squares := by
  refine Has.of F sc_margin_squares (fun vs H Q E h => ?_) (fun f cdv A outer s H0 vs Q E hr h => ?_)
  · obtain ⟨W0, a_chart, v_chart, rfl, _⟩ := h
    rfl
  · obtain ⟨W0, a_chart, v_chart, rfl, rfl, g00, h_chart, hm⟩ := h
    have sc := sc_margin_squares
    have g0 := Gw.refl g00
    unfold m_margin_squares at hm
    refine ⟨_, (pss_cons (ps_set (i := 1) sc.nd rfl (Or.inl rfl) (pe_lst pa_nil))
      (pss_cons (ps_for PassesOwn.never rfl (pi_range2 rfl G.range (pa_cons (pe_un un_neg pe_int) (pa_cons (pe_op op_add (pe_callB call_len_seq (by rfl) G.len PySem.boot_len (pa_cons (pv 0) pa_nil)) pe_int) pa_nil))) (pg_name (i := 2) sc.nd rfl (Or.inl rfl))
      (pss_one (ps_for PassesOwn.never rfl (pi_range2 rfl G.range (pa_cons (pe_un un_neg pe_int) (pa_cons (pe_op op_add (pe_callB call_len_str (by rfl) G.len PySem.boot_len (pa_cons (pe_ix ix_tup (pv 0) pe_int (fun _ _ => rfl)) pa_nil)) pe_int) pa_nil))) (pg_name (i := 3) sc.nd rfl (Or.inl rfl))
      (pss_one (ps_if (pt_not (pt_val (pe_user H_is_square (hr.mono (by decide)) rfl (pa_cons (pv 0) (pa_cons (pe_tup (pa_cons (pv 2) (pa_cons (pv 3) pa_nil))) pa_nil))))) (pss_one (ps_expr (pe_bm PySem.F.plainAttrs_list PySem.F.slot_list_append PySem.F.type_list_append mt_append (pv 1) (pa_cons (pe_tup (pa_cons (pv 2) (pa_cons (pv 3) pa_nil))) pa_nil)))) pss_nil)))))
      (pss_one (ps_ret (pv 1))))), ?_⟩
    refine q_asg (W := W0) (ew_lst (eas_nil (α := Sq))) g0.ok hm fun a1_found v_found W1 g1 ⟨fp_found, ho0_found, hf_found⟩ hm => ?_
    have hz_found : ∀ a ∈ fp_found, W0.H a = none := fun a m => g0.live a (hf_found a m).1
    have h_chart := PyI.st g1.st h_chart
    have g0 := g0.trans g1
    have ho_found : Var (kL Sq) W0 W1 fp_found a1_found v_found := ⟨ho0_found, hz_found, fun b m => (hf_found b m).2.2⟩
    refine q_forR2 (W := W1) (ew_neg ew_int) (ew_add (ew_lenT (ew_var (v := v_chart) rfl h_chart)) ew_int) g0.ok hm fun W2 g2 => ?_
    have h_chart := PyI.st g2.st h_chart
    have ho_found := ho_found.go g00 g2
    have g0 := g0.trans g2
    refine ⟨fun y σ' W' => ∃ (v_found : V) (fp_found : List Addr) (o_row : Option V) (o_column : Option V), σ' = [some v_chart, some v_found, o_row, o_column] ∧ Gw ef0 W0 W' ∧ St W2 W' ∧ Var (kL Sq) W0 W' fp_found y v_found, ⟨v_found, fp_found, _, _, rfl, g0, (St.refl _), ho_found⟩, fun c2 y2 σi s2 Wi2 R2 nx2 ht hI hm kn2 kb2 kr2 => ?_, fun z2 σi Wi2 hI hm => ?_⟩
    ·
      obtain ⟨v_found, fp_found, o_row, o_column, rfl, g0, sl2, ho_found⟩ := hI
      have h_chart := PyI.st sl2 h_chart
      obtain ⟨v_row, rfl, h_row⟩ := ht
      refine st_forR2 (W := Wi2) (ew_neg ew_int) (ew_add (ew_lenS (ew_ixT (ew_var (v := v_chart) rfl h_chart) ew_int)) ew_int) g0.ok hm fun W3 g3 => ?_
      have h_chart := PyI.st g3.st h_chart
      have ho_found := ho_found.go g00 g3
      have h_row := PyI.st g3.st h_row
      have sl2 := sl2.trans g3.st
      have g0 := g0.trans g3
      refine ⟨fun y σ' W' => ∃ (v_found : V) (fp_found : List Addr) (o_column : Option V), σ' = [some v_chart, some v_found, some v_row, o_column] ∧ Gw ef0 W0 W' ∧ St W3 W' ∧ Var (kL Sq) W0 W' fp_found y v_found, ⟨v_found, fp_found, _, rfl, g0, (St.refl _), ho_found⟩, fun c3 y3 σi s2 Wi3 R3 nx3 ht hI hm kn3 kb3 kr3 => ?_, fun z3 σi Wi3 hI hm => ?_⟩
      ·
        obtain ⟨v_found, fp_found, o_column, rfl, g0, sl3, ho_found⟩ := hI
        have h_chart := PyI.st sl3 h_chart
        have h_row := PyI.st sl3 h_row
        have sl2 := sl2.trans sl3
        obtain ⟨v_column, rfl, h_column⟩ := ht
        refine st_join (W := Wi3) (s := (List Sq)) (fun y σ' W' => ∃ (v_found : V) (fp_found : List Addr), σ' = [some v_chart, some v_found, some v_row, some v_column] ∧ Gw ef0 W0 W' ∧ St Wi3 W' ∧ Var (kL Sq) W0 W' fp_found y v_found) (et_not (et_B (ev_is_square (ew_var (v := v_chart) rfl h_chart) (ew_pair (ew_var (v := v_row) rfl h_row) (ew_var (v := v_column) rfl h_column))))) g0.ok hm (fun y4 σj Wj4 hI hm => ?_) (fun W4 R4 g4 hm kj => ?_) (fun W4 R4 g4 hm kj => ?_)
        ·
          obtain ⟨v_found, fp_found, rfl, g0, sj4, ho_found⟩ := hI
          have h_chart := PyI.st sj4 h_chart
          have h_row := PyI.st sj4 h_row
          have h_column := PyI.st sj4 h_column
          have sl2 := sl2.trans sj4
          have sl3 := sl3.trans sj4
          exact kn3 y4 _ Wj4 ⟨v_found, fp_found, _, rfl, g0, sl3, ho_found⟩ hm
        ·
          have h_chart := PyI.st g4.st h_chart
          have ho_found := ho_found.go g00 g4
          have h_row := PyI.st g4.st h_row
          have h_column := PyI.st g4.st h_column
          have sl2 := sl2.trans g4.st
          have sl3 := sl3.trans g4.st
          have g0 := g0.trans g4
          have sj4 := g4.st
          refine st_app (W := W4) g00 g0 rfl ho_found (ew_pair (ew_var (v := v_row) rfl h_row) (ew_var (v := v_column) rfl h_column)) hm fun a5_found W5_ W5 l_found el_found g5 s g02 kk ff ho_found hm => ?_
          have h_chart := PyI.st g5.st h_chart
          have h_row := PyI.st g5.st h_row
          have h_column := PyI.st g5.st h_column
          have sl2 := sl2.trans g5.st
          have sl3 := sl3.trans g5.st
          have sj4 := sj4.trans g5.st
          have g0 := g0.trans g5
          have h_chart := PyI.st s h_chart
          have h_row := PyI.st s h_row
          have h_column := PyI.st s h_column
          have sl2 := sl2.trans s
          have sl3 := sl3.trans s
          have sj4 := sj4.trans s
          have g0 := g02
          exact kj a5_found _ W5 ⟨v_found, fp_found, rfl, g0, sj4, ho_found⟩ hm
        ·
          have h_chart := PyI.st g4.st h_chart
          have ho_found := ho_found.go g00 g4
          have h_row := PyI.st g4.st h_row
          have h_column := PyI.st g4.st h_column
          have sl2 := sl2.trans g4.st
          have sl3 := sl3.trans g4.st
          have g0 := g0.trans g4
          have sj4 := g4.st
          refine st_next ?_
          exact kj y3 _ W4 ⟨v_found, fp_found, rfl, g0, sj4, ho_found⟩ hm
      ·
        obtain ⟨v_found, fp_found, o_column, rfl, g0, sl3, ho_found⟩ := hI
        have h_chart := PyI.st sl3 h_chart
        have h_row := PyI.st sl3 h_row
        have sl2 := sl2.trans sl3
        exact kn2 z3 _ Wi3 ⟨v_found, fp_found, _, _, rfl, g0, sl2, ho_found⟩ hm
    ·
      obtain ⟨v_found, fp_found, o_row, o_column, rfl, g0, sl2, ho_found⟩ := hI
      have h_chart := PyI.st sl2 h_chart
      exact ⟨_, rfl, hm _ Wi2 g0 rfl ⟨fp_found, ho_found.own, fun b m => ⟨ho_found.fr b m, Var.nS g00 ho_found b m, ho_found.nF b m⟩⟩⟩
abbrev s_side_neighbours : Stmt := top 7
abbrev N_side_neighbours : List Str := ["square", "row", "column"]
abbrev P_side_neighbours : List Str := ["square"]
theorem sc_side_neighbours : FnScope N_side_neighbours P_side_neighbours (defScope s_side_neighbours) := ⟨rfl, rfl, rfl, by decide +kernel, rfl, by decide +kernel, by decide +kernel⟩
def m_side_neighbours (a_square : Sq) : WP (List Sq) := (WP.pure a_square).bind fun a1_row_column => (WP.row (WP.consE (WP.pair (WP.sub (WP.pure a1_row_column.1) (WP.pure (1 : Int))) (WP.pure a1_row_column.2)) (WP.consE (WP.pair (WP.pure a1_row_column.1) (WP.sub (WP.pure a1_row_column.2) (WP.pure (1 : Int)))) (WP.consE (WP.pair (WP.pure a1_row_column.1) (WP.add (WP.pure a1_row_column.2) (WP.pure (1 : Int)))) (WP.consE (WP.pair (WP.add (WP.pure a1_row_column.1) (WP.pure (1 : Int))) (WP.pure a1_row_column.2)) (WP.pure ([] : List Sq))))))).bind fun r2 => (WP.pure r2)
def sp_side_neighbours : Sp := fun vs H Q _ => ∃ (W : Wo) (a_square : Sq) (v_square : V), vs = [v_square] ∧ W.H = H ∧ Good ef0 W ∧ Rp W a_square v_square ∧ (m_side_neighbours a_square).run W.n fun n r => ∀ v W', Gw ef0 W W' → W'.n = n → (sN (e := ef0) (kL Sq)).post W W' r v → Q v W'.H
theorem ev_side_neighbours {e : Ef} {σ : L2.St} {W : Wo} {E : XK} {t0 : TE} {w0 : WP Sq} (h0 : EvW e t0 σ W sI w0) : EvW e (tCall sp_side_neighbours [] E (tCons t0 tNil)) σ W (sN (kL Sq)) (WP.b1 w0 m_side_neighbours) := ew_call1N h0 fun W2 b0 x0 g2 r0 Q q E => by
  exact ⟨W2, b0, x0, rfl, rfl, g2.z, r0, WP.mono _ (fun n c h v W3 g3 hn p => h v W3 (Gw.up g2 g3) hn (sN_up g2 p)) q⟩
theorem ok_side_neighbours (F : At K mg "side_neighbours" s_side_neighbours P_side_neighbours) (G : Glb mg)  : Has P w K mg base "side_neighbours" 1 P_side_neighbours sp_side_neighbours := by
  refine Has.of F sc_side_neighbours (fun vs H Q E h => ?_) (fun f cdv A outer s H0 vs Q E hr h => ?_)
  · obtain ⟨W0, a_square, v_square, rfl, _⟩ := h
    rfl
  · obtain ⟨W0, a_square, v_square, rfl, rfl, g00, h_square, hm⟩ := h
    have sc := sc_side_neighbours
    have g0 := Gw.refl g00
    unfold m_side_neighbours at hm
    refine ⟨_, (pss_cons (ps_asg (pv 0) (pg_tup rfl (pgs_cons (pg_name (i := 1) sc.nd rfl (Or.inl rfl)) (pgs_cons (pg_name (i := 2) sc.nd rfl (Or.inl rfl)) pgs_nil))))
      (pss_one (ps_ret (pe_lst (pa_cons (pe_tup (pa_cons (pe_op op_sub (pv 1) pe_int) (pa_cons (pv 2) pa_nil))) (pa_cons (pe_tup (pa_cons (pv 1) (pa_cons (pe_op op_sub (pv 2) pe_int) pa_nil))) (pa_cons (pe_tup (pa_cons (pv 1) (pa_cons (pe_op op_add (pv 2) pe_int) pa_nil))) (pa_cons (pe_tup (pa_cons (pe_op op_add (pv 1) pe_int) (pa_cons (pv 2) pa_nil))) pa_nil)))))))), ?_⟩
    refine q_un2 (W := W0) (ew_var (v := v_square) rfl h_square) g0.ok hm fun a1_row_column v_row v_column W1 g1 h_row h_column hm => ?_
    have h_square := PyI.st g1.st h_square
    have g0 := g0.trans g1
    first | refine norm_st (σ' := [some v_square, some v_row, some v_column]) rfl ?_ | skip
    refine st_ret (W := W1) (ew_lst (eas_cons (ew_pair (ew_sub (ew_var (v := v_row) rfl h_row) ew_int) (ew_var (v := v_column) rfl h_column)) (eas_cons (ew_pair (ew_var (v := v_row) rfl h_row) (ew_sub (ew_var (v := v_column) rfl h_column) ew_int)) (eas_cons (ew_pair (ew_var (v := v_row) rfl h_row) (ew_add (ew_var (v := v_column) rfl h_column) ew_int)) (eas_cons (ew_pair (ew_add (ew_var (v := v_row) rfl h_row) ew_int) (ew_var (v := v_column) rfl h_column)) (eas_nil (α := Sq))))))) g0.ok hm fun r2 v_ret W2 g2 hp hm => ?_
    exact hm v_ret W2 (g0.trans g2) rfl ((sN (kL Sq)).back g0 hp)
abbrev s_neighbours : Stmt := top 8
abbrev N_neighbours : List Str := ["square", "row", "column", "found", "down", "right"]
abbrev P_neighbours : List Str := ["square"]
theorem sc_neighbours : FnScope N_neighbours P_neighbours (defScope s_neighbours) := ⟨rfl, rfl, rfl, by decide +kernel, rfl, by decide +kernel, by decide +kernel⟩
def m_neighbours (a_square : Sq) : WP (List Sq) := (WP.pure a_square).bind fun a1_row_column => (WP.row (WP.pure ([] : List Sq))).bind fun a2_found => (WP.row (WP.consE (WP.neg (WP.pure (1 : Int))) (WP.consE (WP.pure (0 : Int)) (WP.consE (WP.pure (1 : Int)) (WP.pure []))))).bind fun xs3 => WP.after (WP.loop (γ := (List Sq)) (fun c3 (y3 : (List Sq)) => (WP.row (WP.consE (WP.neg (WP.pure (1 : Int))) (WP.consE (WP.pure (0 : Int)) (WP.consE (WP.pure (1 : Int)) (WP.pure []))))).bind fun xs4 => WP.after (WP.loop (γ := (List Sq)) (fun c4 (y4 : (List Sq)) => ((WP.or (WP.ne (WP.pure c3) (WP.pure (0 : Int))) (WP.ne (WP.pure c4) (WP.pure (0 : Int)))).bind fun b => WP.cond b (((WP.pair (WP.add (WP.pure a1_row_column.1) (WP.pure c3)) (WP.add (WP.pure a1_row_column.2) (WP.pure c4))).bind fun a => WP.req (y4.length < 100000) (y4 ++ [a])).bind fun a6_found => (WP.pure a6_found)) ((WP.pure y4))).bind fun (y5 : (List Sq)) => (WP.pure (.nx y5))) xs4 y3) (fun (z4 : (List Sq)) => (WP.pure (.nx z4))) (fun r => (WP.pure (.rt r)))) xs3 a2_found) (fun (z3 : (List Sq)) => (WP.pure z3)) (fun r => (WP.pure r))
def sp_neighbours : Sp := fun vs H Q _ => ∃ (W : Wo) (a_square : Sq) (v_square : V), vs = [v_square] ∧ W.H = H ∧ Good ef0 W ∧ Rp W a_square v_square ∧ (m_neighbours a_square).run W.n fun n r => ∀ v W', Gw ef0 W W' → W'.n = n → (sN (e := ef0) (kL Sq)).post W W' r v → Q v W'.H
theorem ev_neighbours {e : Ef} {σ : L2.St} {W : Wo} {E : XK} {t0 : TE} {w0 : WP Sq} (h0 : EvW e t0 σ W sI w0) : EvW e (tCall sp_neighbours [] E (tCons t0 tNil)) σ W (sN (kL Sq)) (WP.b1 w0 m_neighbours) := ew_call1N h0 fun W2 b0 x0 g2 r0 Q q E => by
  exact ⟨W2, b0, x0, rfl, rfl, g2.z, r0, WP.mono _ (fun n c h v W3 g3 hn p => h v W3 (Gw.up g2 g3) hn (sN_up g2 p)) q⟩
theorem ok_neighbours (F : At K mg "neighbours" s_neighbours P_neighbours) (G : Glb mg)  : Has P w K mg base "neighbours" 1 P_neighbours sp_neighbours := by
  refine Has.of F sc_neighbours (fun vs H Q E h => ?_) (fun f cdv A outer s H0 vs Q E hr h => ?_)
  · obtain ⟨W0, a_square, v_square, rfl, _⟩ := h
    rfl
  · obtain ⟨W0, a_square, v_square, rfl, rfl, g00, h_square, hm⟩ := h
    have sc := sc_neighbours
    have g0 := Gw.refl g00
    unfold m_neighbours at hm
    refine ⟨_, (pss_cons (ps_asg (pv 0) (pg_tup rfl (pgs_cons (pg_name (i := 1) sc.nd rfl (Or.inl rfl)) (pgs_cons (pg_name (i := 2) sc.nd rfl (Or.inl rfl)) pgs_nil))))
      (pss_cons (ps_set (i := 3) sc.nd rfl (Or.inl rfl) (pe_lst pa_nil))
      (pss_cons (ps_for PassesOwn.never rfl (pi_tup (pe_tup (pa_cons (pe_un un_neg pe_int) (pa_cons pe_int (pa_cons pe_int pa_nil))))) (pg_name (i := 4) sc.nd rfl (Or.inl rfl))
      (pss_one (ps_for PassesOwn.never rfl (pi_tup (pe_tup (pa_cons (pe_un un_neg pe_int) (pa_cons pe_int (pa_cons pe_int pa_nil))))) (pg_name (i := 5) sc.nd rfl (Or.inl rfl))
      (pss_one (ps_if (PW.pt (pw_or (pt_cmpR op_ne (pv 4) pe_int (nomark _)) (pw_or1 (pt_cmpR op_ne (pv 5) pe_int (nomark _))))) (pss_one (ps_expr (pe_bm PySem.F.plainAttrs_list PySem.F.slot_list_append PySem.F.type_list_append mt_append (pv 3) (pa_cons (pe_tup (pa_cons (pe_op op_add (pv 1) (pv 4)) (pa_cons (pe_op op_add (pv 2) (pv 5)) pa_nil))) pa_nil)))) pss_nil)))))
      (pss_one (ps_ret (pv 3)))))), ?_⟩
    refine q_un2 (W := W0) (ew_var (v := v_square) rfl h_square) g0.ok hm fun a1_row_column v_row v_column W1 g1 h_row h_column hm => ?_
    have h_square := PyI.st g1.st h_square
    have g0 := g0.trans g1
    first | refine norm_st (σ' := [some v_square, some v_row, some v_column, none, none, none]) rfl ?_ | skip
    refine q_asg (W := W1) (ew_lst (eas_nil (α := Sq))) g0.ok hm fun a2_found v_found W2 g2 ⟨fp_found, ho0_found, hf_found⟩ hm => ?_
    have hz_found : ∀ a ∈ fp_found, W0.H a = none := fun a m => g0.live a (hf_found a m).1
    have h_square := PyI.st g2.st h_square
    have h_row := PyI.st g2.st h_row
    have h_column := PyI.st g2.st h_column
    have g0 := g0.trans g2
    have ho_found : Var (kL Sq) W0 W2 fp_found a2_found v_found := ⟨ho0_found, hz_found, fun b m => (hf_found b m).2.2⟩
    refine q_forT (W := W2) tk_N (ew_tup (eas_cons (ew_neg ew_int) (eas_cons ew_int (eas_cons ew_int eas_nil)))) g0.ok hm fun xs3 W3 g3 => ?_
    have h_square := PyI.st g3.st h_square
    have h_row := PyI.st g3.st h_row
    have h_column := PyI.st g3.st h_column
    have ho_found := ho_found.go g00 g3
    have g0 := g0.trans g3
    refine ⟨fun y σ' W' => ∃ (v_found : V) (fp_found : List Addr) (o_down : Option V) (o_right : Option V), σ' = [some v_square, some v_row, some v_column, some v_found, o_down, o_right] ∧ Gw ef0 W0 W' ∧ St W3 W' ∧ Var (kL Sq) W0 W' fp_found y v_found, ⟨v_found, fp_found, _, _, rfl, g0, (St.refl _), ho_found⟩, fun _ _ _ hI => ?_, fun c3 y3 σi s2 Wi3 R3 nx3 ht hI hm kn3 kb3 kr3 => ?_, fun z3 σi Wi3 hI hm => ?_⟩
    · obtain ⟨v_found, fp_found, o_down, o_right, rfl, g0, sl3, ho_found⟩ := hI
      exact sl3
    ·
      obtain ⟨v_found, fp_found, o_down, o_right, rfl, g0, sl3, ho_found⟩ := hI
      have h_square := PyI.st sl3 h_square
      have h_row := PyI.st sl3 h_row
      have h_column := PyI.st sl3 h_column
      obtain ⟨v_down, rfl, h_down⟩ := ht
      refine st_forT (W := Wi3) tk_N (ew_tup (eas_cons (ew_neg ew_int) (eas_cons ew_int (eas_cons ew_int eas_nil)))) g0.ok hm fun xs4 W4 g4 => ?_
      have h_square := PyI.st g4.st h_square
      have h_row := PyI.st g4.st h_row
      have h_column := PyI.st g4.st h_column
      have ho_found := ho_found.go g00 g4
      have h_down := PyI.st g4.st h_down
      have sl3 := sl3.trans g4.st
      have g0 := g0.trans g4
      refine ⟨fun y σ' W' => ∃ (v_found : V) (fp_found : List Addr) (o_right : Option V), σ' = [some v_square, some v_row, some v_column, some v_found, some v_down, o_right] ∧ Gw ef0 W0 W' ∧ St W4 W' ∧ Var (kL Sq) W0 W' fp_found y v_found, ⟨v_found, fp_found, _, rfl, g0, (St.refl _), ho_found⟩, fun _ _ _ hI => ?_, fun c4 y4 σi s2 Wi4 R4 nx4 ht hI hm kn4 kb4 kr4 => ?_, fun z4 σi Wi4 hI hm => ?_⟩
      · obtain ⟨v_found, fp_found, o_right, rfl, g0, sl4, ho_found⟩ := hI
        exact sl4
      ·
        obtain ⟨v_found, fp_found, o_right, rfl, g0, sl4, ho_found⟩ := hI
        have h_square := PyI.st sl4 h_square
        have h_row := PyI.st sl4 h_row
        have h_column := PyI.st sl4 h_column
        have h_down := PyI.st sl4 h_down
        have sl3 := sl3.trans sl4
        obtain ⟨v_right, rfl, h_right⟩ := ht
        refine st_join (W := Wi4) (s := (List Sq)) (fun y σ' W' => ∃ (v_found : V) (fp_found : List Addr), σ' = [some v_square, some v_row, some v_column, some v_found, some v_down, some v_right] ∧ Gw ef0 W0 W' ∧ St Wi4 W' ∧ Var (kL Sq) W0 W' fp_found y v_found) (et_or (et_t (ew_ne (ew_var (v := v_down) rfl h_down) ew_int)) (et_t (ew_ne (ew_var (v := v_right) rfl h_right) ew_int))) g0.ok hm (fun y5 σj Wj5 hI hm => ?_) (fun W5 R5 g5 hm kj => ?_) (fun W5 R5 g5 hm kj => ?_)
        ·
          obtain ⟨v_found, fp_found, rfl, g0, sj5, ho_found⟩ := hI
          have h_square := PyI.st sj5 h_square
          have h_row := PyI.st sj5 h_row
          have h_column := PyI.st sj5 h_column
          have h_down := PyI.st sj5 h_down
          have h_right := PyI.st sj5 h_right
          have sl3 := sl3.trans sj5
          have sl4 := sl4.trans sj5
          exact kn4 y5 _ Wj5 ⟨v_found, fp_found, _, rfl, g0, sl4, ho_found⟩ hm
        ·
          have h_square := PyI.st g5.st h_square
          have h_row := PyI.st g5.st h_row
          have h_column := PyI.st g5.st h_column
          have ho_found := ho_found.go g00 g5
          have h_down := PyI.st g5.st h_down
          have h_right := PyI.st g5.st h_right
          have sl3 := sl3.trans g5.st
          have sl4 := sl4.trans g5.st
          have g0 := g0.trans g5
          have sj5 := g5.st
          refine st_app (W := W5) g00 g0 rfl ho_found (ew_pair (ew_add (ew_var (v := v_row) rfl h_row) (ew_var (v := v_down) rfl h_down)) (ew_add (ew_var (v := v_column) rfl h_column) (ew_var (v := v_right) rfl h_right))) hm fun a6_found W6_ W6 l_found el_found g6 s g02 kk ff ho_found hm => ?_
          have h_square := PyI.st g6.st h_square
          have h_row := PyI.st g6.st h_row
          have h_column := PyI.st g6.st h_column
          have h_down := PyI.st g6.st h_down
          have h_right := PyI.st g6.st h_right
          have sl3 := sl3.trans g6.st
          have sl4 := sl4.trans g6.st
          have sj5 := sj5.trans g6.st
          have g0 := g0.trans g6
          have h_square := PyI.st s h_square
          have h_row := PyI.st s h_row
          have h_column := PyI.st s h_column
          have h_down := PyI.st s h_down
          have h_right := PyI.st s h_right
          have sl3 := sl3.trans s
          have sl4 := sl4.trans s
          have sj5 := sj5.trans s
          have g0 := g02
          exact kj a6_found _ W6 ⟨v_found, fp_found, rfl, g0, sj5, ho_found⟩ hm
        ·
          have h_square := PyI.st g5.st h_square
          have h_row := PyI.st g5.st h_row
          have h_column := PyI.st g5.st h_column
          have ho_found := ho_found.go g00 g5
          have h_down := PyI.st g5.st h_down
          have h_right := PyI.st g5.st h_right
          have sl3 := sl3.trans g5.st
          have sl4 := sl4.trans g5.st
          have g0 := g0.trans g5
          have sj5 := g5.st
          refine st_next ?_
          exact kj y4 _ W5 ⟨v_found, fp_found, rfl, g0, sj5, ho_found⟩ hm
      ·
        obtain ⟨v_found, fp_found, o_right, rfl, g0, sl4, ho_found⟩ := hI
        have h_square := PyI.st sl4 h_square
        have h_row := PyI.st sl4 h_row
        have h_column := PyI.st sl4 h_column
        have h_down := PyI.st sl4 h_down
        have sl3 := sl3.trans sl4
        exact kn3 z4 _ Wi4 ⟨v_found, fp_found, _, _, rfl, g0, sl3, ho_found⟩ hm
    ·
      obtain ⟨v_found, fp_found, o_down, o_right, rfl, g0, sl3, ho_found⟩ := hI
      have h_square := PyI.st sl3 h_square
      have h_row := PyI.st sl3 h_row
      have h_column := PyI.st sl3 h_column
      exact ⟨_, rfl, hm _ Wi3 g0 rfl ⟨fp_found, ho_found.own, fun b m => ⟨ho_found.fr b m, Var.nS g00 ho_found b m, ho_found.nF b m⟩⟩⟩
abbrev s_is_near : Stmt := top 10
abbrev N_is_near : List Str := ["chart", "square", "row", "column"]
abbrev P_is_near : List Str := ["chart", "square"]
theorem sc_is_near : FnScope N_is_near P_is_near (defScope s_is_near) := ⟨rfl, rfl, rfl, by decide +kernel, rfl, by decide +kernel, by decide +kernel⟩
def m_is_near (a_chart : (List Str)) (a_square : Sq) : WP Bool := (WP.pure a_square).bind fun a1_row_column => (WP.and (WP.chain (fun i j => decide (i ≤ j)) (fun i j => decide (i ≤ j)) (WP.neg (WP.pure (1 : Int))) (WP.pure a1_row_column.1) (WP.len (WP.pure a_chart))) (WP.chain (fun i j => decide (i ≤ j)) (fun i j => decide (i ≤ j)) (WP.neg (WP.pure (1 : Int))) (WP.pure a1_row_column.2) (WP.lenS (WP.ix (WP.pure a_chart) (WP.pure (0 : Int)))))).bind fun r2 => (WP.pure r2)
def sp_is_near : Sp := fun vs H Q _ => ∃ (W : Wo) (a_chart : (List Str)) (a_square : Sq) (v_chart v_square : V), vs = [v_chart, v_square] ∧ W.H = H ∧ Good ef0 W ∧ Rp W a_chart v_chart ∧ Rp W a_square v_square ∧ (m_is_near a_chart a_square).run W.n fun n r => ∀ v W', Gw ef0 W W' → W'.n = n → (sI (e := ef0) (α := Bool)).post W W' r v → Q v W'.H
theorem ev_is_near {e : Ef} {σ : L2.St} {W : Wo} {E : XK} {t0 t1 : TE} {w0 : WP (List Str)} {w1 : WP Sq} (h0 : EvW e t0 σ W sI w0) (h1 : EvW e t1 σ W sI w1) : EvW e (tCall sp_is_near [] E (tCons t0 (tCons t1 tNil))) σ W (sI (α := Bool)) (WP.b2 w0 w1 m_is_near) := ew_call2N h0 h1 fun W2 b0 b1 x0 x1 g2 r0 r1 Q q E => by
  exact ⟨W2, b0, b1, x0, x1, rfl, rfl, g2.z, r0, r1, WP.mono _ (fun n c h v W3 g3 hn p => h v W3 (Gw.up g2 g3) hn p) q⟩
theorem ok_is_near (F : At K mg "is_near" s_is_near P_is_near) (G : Glb mg)  : Has P w K mg base "is_near" 1 P_is_near sp_is_near := by
  refine Has.of F sc_is_near (fun vs H Q E h => ?_) (fun f cdv A outer s H0 vs Q E hr h => ?_)
  · obtain ⟨W0, a_chart, a_square, v_chart, v_square, rfl, _⟩ := h
    rfl
  · obtain ⟨W0, a_chart, a_square, v_chart, v_square, rfl, rfl, g00, h_chart, h_square, hm⟩ := h
    have sc := sc_is_near
    have g0 := Gw.refl g00
    unfold m_is_near at hm
    refine ⟨_, (pss_cons (ps_asg (pv 1) (pg_tup rfl (pgs_cons (pg_name (i := 2) sc.nd rfl (Or.inl rfl)) (pgs_cons (pg_name (i := 3) sc.nd rfl (Or.inl rfl)) pgs_nil))))
      (pss_one (ps_ret (pe_and (pe_chain op_le op_le (pe_un un_neg pe_int) (pv 2) (pe_callB call_len_seq (by rfl) G.len PySem.boot_len (pa_cons (pv 0) pa_nil))) (pe_one (pe_chain op_le op_le (pe_un un_neg pe_int) (pv 3) (pe_callB call_len_str (by rfl) G.len PySem.boot_len (pa_cons (pe_ix ix_tup (pv 0) pe_int (fun _ _ => rfl)) pa_nil)))))))), ?_⟩
    refine q_un2 (W := W0) (ew_var (v := v_square) rfl h_square) g0.ok hm fun a1_row_column v_row v_column W1 g1 h_row h_column hm => ?_
    have h_chart := PyI.st g1.st h_chart
    have h_square := PyI.st g1.st h_square
    have g0 := g0.trans g1
    first | refine norm_st (σ' := [some v_chart, some v_square, some v_row, some v_column]) rfl ?_ | skip
    refine st_ret (W := W1) (ew_andV (ew_chain (C := fun i j => decide (i ≤ j)) (C' := fun i j => decide (i ≤ j)) (ew_neg ew_int) (ew_var (v := v_row) rfl h_row) (ew_lenT (ew_var (v := v_chart) rfl h_chart))) (ew_chain (C := fun i j => decide (i ≤ j)) (C' := fun i j => decide (i ≤ j)) (ew_neg ew_int) (ew_var (v := v_column) rfl h_column) (ew_lenS (ew_ixT (ew_var (v := v_chart) rfl h_chart) ew_int)))) g0.ok hm fun r2 v_ret W2 g2 hp hm => ?_
    exact hm v_ret W2 (g0.trans g2) rfl hp
abbrev s_is_near_water : Stmt := top 11
abbrev N_is_near_water : List Str := ["chart", "square"]
abbrev P_is_near_water : List Str := ["chart", "square"]
theorem sc_is_near_water : FnScope N_is_near_water P_is_near_water (defScope s_is_near_water) := ⟨rfl, rfl, rfl, by decide +kernel, rfl, by decide +kernel, by decide +kernel⟩
def m_is_near_water (a_chart : (List Str)) (a_square : Sq) : WP Bool := (WP.and (WP.b2 (WP.pure a_chart) (WP.pure a_square) m_is_near) (WP.not (WP.b2 (WP.pure a_chart) (WP.pure a_square) m_is_land))).bind fun r1 => (WP.pure r1)
def sp_is_near_water : Sp := fun vs H Q _ => ∃ (W : Wo) (a_chart : (List Str)) (a_square : Sq) (v_chart v_square : V), vs = [v_chart, v_square] ∧ W.H = H ∧ Good ef0 W ∧ Rp W a_chart v_chart ∧ Rp W a_square v_square ∧ (m_is_near_water a_chart a_square).run W.n fun n r => ∀ v W', Gw ef0 W W' → W'.n = n → (sI (e := ef0) (α := Bool)).post W W' r v → Q v W'.H
theorem ev_is_near_water {e : Ef} {σ : L2.St} {W : Wo} {E : XK} {t0 t1 : TE} {w0 : WP (List Str)} {w1 : WP Sq} (h0 : EvW e t0 σ W sI w0) (h1 : EvW e t1 σ W sI w1) : EvW e (tCall sp_is_near_water [] E (tCons t0 (tCons t1 tNil))) σ W (sI (α := Bool)) (WP.b2 w0 w1 m_is_near_water) := ew_call2N h0 h1 fun W2 b0 b1 x0 x1 g2 r0 r1 Q q E => by
  exact ⟨W2, b0, b1, x0, x1, rfl, rfl, g2.z, r0, r1, WP.mono _ (fun n c h v W3 g3 hn p => h v W3 (Gw.up g2 g3) hn p) q⟩
theorem ok_is_near_water (F : At K mg "is_near_water" s_is_near_water P_is_near_water) (G : Glb mg) (H_is_land : Has P w K mg base "is_land" 2 P_is_land sp_is_land) (H_is_near : Has P w K mg base "is_near" 1 P_is_near sp_is_near) : Has P w K mg base "is_near_water" 3 P_is_near_water sp_is_near_water := by
  refine Has.of F sc_is_near_water (fun vs H Q E h => ?_) (fun f cdv A outer s H0 vs Q E hr h => ?_)
  · obtain ⟨W0, a_chart, a_square, v_chart, v_square, rfl, _⟩ := h
    rfl
  · obtain ⟨W0, a_chart, a_square, v_chart, v_square, rfl, rfl, g00, h_chart, h_square, hm⟩ := h
    have sc := sc_is_near_water
    have g0 := Gw.refl g00
    unfold m_is_near_water at hm
    refine ⟨_, (pss_one (ps_ret (pe_and (pe_user H_is_near (hr.mono (by decide)) rfl (pa_cons (pv 0) (pa_cons (pv 1) pa_nil))) (pe_one (pe_not (pe_user H_is_land (hr.mono (by decide)) rfl (pa_cons (pv 0) (pa_cons (pv 1) pa_nil)))))))), ?_⟩
    refine st_ret (W := W0) (ew_andV (ev_is_near (ew_var (v := v_chart) rfl h_chart) (ew_var (v := v_square) rfl h_square)) (ew_notV (ev_is_land (ew_var (v := v_chart) rfl h_chart) (ew_var (v := v_square) rfl h_square)))) g0.ok hm fun r1 v_ret W1 g1 hp hm => ?_
    exact hm v_ret W1 (g0.trans g1) rfl hp
abbrev s_water_squares : Stmt := top 12
abbrev N_water_squares : List Str := ["chart", "square"]
abbrev P_water_squares : List Str := ["chart"]
theorem sc_water_squares : FnScope N_water_squares P_water_squares (defScope s_water_squares) := ⟨rfl, rfl, rfl, by decide +kernel, rfl, by decide +kernel, by decide +kernel⟩
def m_water_squares (a_chart : (List Str)) : WP (List Sq) := (WP.sortQ (WP.cat (WP.lc (WP.b1 (WP.pure a_chart) m_squares_of) (fun c1 => (WP.not (WP.b2 (WP.pure a_chart) (WP.pure c1) m_is_land))) (fun c1 => (WP.pure c1))) (WP.b1 (WP.pure a_chart) m_margin_squares))).bind fun r1 => (WP.pure r1)
def sp_water_squares : Sp := fun vs H Q _ => ∃ (W : Wo) (a_chart : (List Str)) (v_chart : V), vs = [v_chart] ∧ W.H = H ∧ Good ef0 W ∧ Rp W a_chart v_chart ∧ (m_water_squares a_chart).run W.n fun n r => ∀ v W', Gw ef0 W W' → W'.n = n → (sN (e := ef0) (kL Sq)).post W W' r v → Q v W'.H
theorem ev_water_squares {e : Ef} {σ : L2.St} {W : Wo} {E : XK} {t0 : TE} {w0 : WP (List Str)} (h0 : EvW e t0 σ W sI w0) : EvW e (tCall sp_water_squares [] E (tCons t0 tNil)) σ W (sN (kL Sq)) (WP.b1 w0 m_water_squares) := ew_call1N h0 fun W2 b0 x0 g2 r0 Q q E => by
  exact ⟨W2, b0, x0, rfl, rfl, g2.z, r0, WP.mono _ (fun n c h v W3 g3 hn p => h v W3 (Gw.up g2 g3) hn (sN_up g2 p)) q⟩
theorem ok_water_squares (F : At K mg "water_squares" s_water_squares P_water_squares) (G : Glb mg) (H_is_land : Has P w K mg base "is_land" 2 P_is_land sp_is_land) (H_margin_squares : Has P w K mg base "margin_squares" 2 P_margin_squares sp_margin_squares) (H_squares_of : Has P w K mg base "squares_of" 1 P_squares_of sp_squares_of) : Has P w K mg base "water_squares" 3 P_water_squares sp_water_squares := by
  refine Has.of F sc_water_squares (fun vs H Q E h => ?_) (fun f cdv A outer s H0 vs Q E hr h => ?_)
  · obtain ⟨W0, a_chart, v_chart, rfl, _⟩ := h
    rfl
  · obtain ⟨W0, a_chart, v_chart, rfl, rfl, g00, h_chart, hm⟩ := h
    have sc := sc_water_squares
    have g0 := Gw.refl g00
    unfold m_water_squares at hm
    refine ⟨_, (pss_one (ps_ret (pe_callB (cr_sortQ rfl) (by rfl) G.sorted (by decide +kernel) (pa_cons (pe_op op_cat (pe_lc (own := [("square", 1)]) (g := gName 1) rfl sc.nd (pi_list (pe_user H_squares_of (hr.mono (by decide)) rfl (pa_cons (pv 0) pa_nil))) (blkOk_by (N := N_water_squares) (sc := defScope s_water_squares) (by decide +kernel)) (fun _ _ _ _ _ => (pg_name (i := 1) sc.nd rfl (Or.inl rfl))) (fun _ _ _ _ _ => (pts_one (pt_not (pt_val (pe_user H_is_land (hr.mono (by decide)) rfl (pa_cons (pv 0) (pa_cons (pv 1) pa_nil))))))) (fun _ _ _ _ _ => (pv 1))) (pe_user H_margin_squares (hr.mono (by decide)) rfl (pa_cons (pv 0) pa_nil))) pa_nil)))), ?_⟩
    refine st_ret (W := W0) (ew_sortQ (ew_rd (ew_cat (ew_rd (ew_lcL (ew_rd (ev_squares_of (ew_var (v := v_chart) rfl h_chart))) takes_N (fun _ _ _ h => by obtain ⟨v_square, ec, h_square⟩ := h; subst ec; rfl) (fun c1 Wc1 s2 gc1 h => by obtain ⟨v_square, ec, h_square⟩ := h; subst ec; have h_chart := PyI.st gc1.st h_chart; exact (et_not (et_B (ev_is_land (ew_var (v := v_chart) rfl h_chart) (ew_var (v := v_square) rfl h_square))))) (fun c1 Wc1 s2 gc1 h => by obtain ⟨v_square, ec, h_square⟩ := h; subst ec; have h_chart := PyI.st gc1.st h_chart; exact (ew_var (v := v_square) rfl h_square)))) (ew_rd (ev_margin_squares (ew_var (v := v_chart) rfl h_chart)))))) g0.ok hm fun r1 v_ret W1 g1 hp hm => ?_
    exact hm v_ret W1 (g0.trans g1) rfl ((sN (kL Sq)).back g0 hp)
abbrev s_water_steps : Stmt := top 13
abbrev N_water_steps : List Str := ["chart", "square", "other"]
abbrev P_water_steps : List Str := ["chart", "square"]
theorem sc_water_steps : FnScope N_water_steps P_water_steps (defScope s_water_steps) := ⟨rfl, rfl, rfl, by decide +kernel, rfl, by decide +kernel, by decide +kernel⟩
def m_water_steps (a_chart : (List Str)) (a_square : Sq) : WP (List Sq) := (WP.lc (WP.b1 (WP.pure a_square) m_neighbours) (fun c1 => (WP.b2 (WP.pure a_chart) (WP.pure c1) m_is_near_water)) (fun c1 => (WP.pure c1))).bind fun r1 => (WP.pure r1)
def sp_water_steps : Sp := fun vs H Q _ => ∃ (W : Wo) (a_chart : (List Str)) (a_square : Sq) (v_chart v_square : V), vs = [v_chart, v_square] ∧ W.H = H ∧ Good ef0 W ∧ Rp W a_chart v_chart ∧ Rp W a_square v_square ∧ (m_water_steps a_chart a_square).run W.n fun n r => ∀ v W', Gw ef0 W W' → W'.n = n → (sN (e := ef0) (kL Sq)).post W W' r v → Q v W'.H
theorem ev_water_steps {e : Ef} {σ : L2.St} {W : Wo} {E : XK} {t0 t1 : TE} {w0 : WP (List Str)} {w1 : WP Sq} (h0 : EvW e t0 σ W sI w0) (h1 : EvW e t1 σ W sI w1) : EvW e (tCall sp_water_steps [] E (tCons t0 (tCons t1 tNil))) σ W (sN (kL Sq)) (WP.b2 w0 w1 m_water_steps) := ew_call2N h0 h1 fun W2 b0 b1 x0 x1 g2 r0 r1 Q q E => by
  exact ⟨W2, b0, b1, x0, x1, rfl, rfl, g2.z, r0, r1, WP.mono _ (fun n c h v W3 g3 hn p => h v W3 (Gw.up g2 g3) hn (sN_up g2 p)) q⟩
theorem ok_water_steps (F : At K mg "water_steps" s_water_steps P_water_steps) (G : Glb mg) (H_is_near_water : Has P w K mg base "is_near_water" 3 P_is_near_water sp_is_near_water) (H_neighbours : Has P w K mg base "neighbours" 1 P_neighbours sp_neighbours) : Has P w K mg base "water_steps" 4 P_water_steps sp_water_steps := by
  refine Has.of F sc_water_steps (fun vs H Q E h => ?_) (fun f cdv A outer s H0 vs Q E hr h => ?_)
  · obtain ⟨W0, a_chart, a_square, v_chart, v_square, rfl, _⟩ := h
    rfl
  · obtain ⟨W0, a_chart, a_square, v_chart, v_square, rfl, rfl, g00, h_chart, h_square, hm⟩ := h
    have sc := sc_water_steps
    have g0 := Gw.refl g00
    unfold m_water_steps at hm
    refine ⟨_, (pss_one (ps_ret (pe_lc (own := [("other", 2)]) (g := gName 2) rfl sc.nd (pi_list (pe_user H_neighbours (hr.mono (by decide)) rfl (pa_cons (pv 1) pa_nil))) (blkOk_by (N := N_water_steps) (sc := defScope s_water_steps) (by decide +kernel)) (fun _ _ _ _ _ => (pg_name (i := 2) sc.nd rfl (Or.inl rfl))) (fun _ _ _ _ _ => (pts_one (pt_val (pe_user H_is_near_water (hr.mono (by decide)) rfl (pa_cons (pv 0) (pa_cons (pv 2) pa_nil)))))) (fun _ _ _ _ _ => (pv 2))))), ?_⟩
    refine st_ret (W := W0) (ew_lcL (ew_rd (ev_neighbours (ew_var (v := v_square) rfl h_square))) takes_N (fun _ _ _ h => by obtain ⟨v_other, ec, h_other⟩ := h; subst ec; rfl) (fun c1 Wc1 s2 gc1 h => by obtain ⟨v_other, ec, h_other⟩ := h; subst ec; have h_chart := PyI.st gc1.st h_chart; have h_square := PyI.st gc1.st h_square; exact (et_B (ev_is_near_water (ew_var (v := v_chart) rfl h_chart) (ew_var (v := v_other) rfl h_other)))) (fun c1 Wc1 s2 gc1 h => by obtain ⟨v_other, ec, h_other⟩ := h; subst ec; have h_chart := PyI.st gc1.st h_chart; have h_square := PyI.st gc1.st h_square; exact (ew_var (v := v_other) rfl h_other))) g0.ok hm fun r1 v_ret W1 g1 hp hm => ?_
    exact hm v_ret W1 (g0.trans g1) rfl ((sN (kL Sq)).back g0 hp)
abbrev s_met_from : Stmt := top 14
abbrev N_met_from : List Str := ["chart", "start", "steps", "before", "queue", "at", "square"]
abbrev P_met_from : List Str := ["chart", "start", "steps"]
theorem sc_met_from : FnScope N_met_from P_met_from (defScope s_met_from) := ⟨rfl, rfl, rfl, by decide +kernel, rfl, by decide +kernel, by decide +kernel⟩
def m_met_from (a_chart : (List Str)) (a_start : Sq) (a_steps : ((List Str) → Sq → WP (List Sq))) : WP (List (Sq × (Option Sq))) := (WP.b2 (WP.pure a_start) (WP.pure (none : (Option Sq))) fun x b => WP.pure [(x, b)]).bind fun a1_before => (WP.row (WP.consE (WP.pure a_start) (WP.pure ([] : List Sq)))).bind fun a2_queue => (WP.pure (0 : Int)).bind fun a3_at => WP.after (WP.whilst (γ := (List (Sq × (Option Sq)))) (fun (y4 : (List (Sq × (Option Sq))) × (List Sq) × Int) => (WP.lt (WP.pure y4.2.2) (WP.len (WP.pure y4.2.1)))) (fun (y4 : (List (Sq × (Option Sq))) × (List Sq) × Int) => (WP.b2 (WP.pure a_chart) (WP.ix (WP.pure y4.2.1) (WP.pure y4.2.2)) a_steps).bind fun xs5 => WP.after (WP.loop (γ := (List (Sq × (Option Sq)))) (fun c5 (y5 : (List (Sq × (Option Sq))) × (List Sq)) => ((WP.not (WP.din (WP.pure c5) (WP.pure y5.1))).bind fun b => WP.cond b ((WP.b2 (WP.some' (WP.ix (WP.pure y5.2) (WP.pure y4.2.2))) (WP.pure c5) fun b q => WP.req (y5.1.length < 100000) (putQ y5.1 q b)).bind fun a7_before => ((WP.pure c5).bind fun a => WP.req (y5.2.length < 100000) (y5.2 ++ [a])).bind fun a8_queue => (WP.pure (a7_before, a8_queue))) ((WP.pure (y5.1, y5.2)))).bind fun (y6 : (List (Sq × (Option Sq))) × (List Sq)) => (WP.pure (.nx (y6.1, y6.2)))) xs5 (y4.1, y4.2.1)) (fun (z5 : (List (Sq × (Option Sq))) × (List Sq)) => ((WP.pure (1 : Int)).bind fun b => WP.pure (y4.2.2 + b)).bind fun a9_at => (WP.pure (.nx (z5.1, z5.2, a9_at)))) (fun r => (WP.pure (.rt r)))) (a1_before, a2_queue, a3_at)) (fun (z4 : (List (Sq × (Option Sq))) × (List Sq) × Int) => (WP.pure z4.1)) (fun r => (WP.pure r))
def sp_met_from (P : Program) (w : World) (K : PySem.W.Frag) (mg : Str → Option Value) (base : Heap) : Sp := fun vs H Q _ => ∃ (W : Wo) (a_chart : (List Str)) (a_start : Sq) (a_steps : ((List Str) → Sq → WP (List Sq))) (f_steps : Addr) (v_chart v_start : V), vs = [v_chart, v_start, .ref f_steps] ∧ W.H = H ∧ Good ef0 W ∧ Rp W a_chart v_chart ∧ Rp W a_start v_start ∧ CalAt P w K mg base 4 f_steps (spFn2 (sN (e := ef0) (kL Sq)) a_steps) ∧ (m_met_from a_chart a_start a_steps).run W.n fun n r => ∀ v W', Gw ef0 W W' → W'.n = n → (sN (e := ef0) (kD (Option Sq))).post W W' r v → Q v W'.H
theorem ev_met_from {e : Ef} {f_steps : Addr} {n_steps : ((List Str) → Sq → WP (List Sq))} {σ : L2.St} {W : Wo} {E : XK} {t0 t1 t2 : TE} {w0 : WP (List Str)} {w1 : WP Sq} {w2 : WP ((List Str) → Sq → WP (List Sq))} (h0 : EvW e t0 σ W sI w0) (h1 : EvW e t1 σ W sI w1) (h2 : EvW e t2 σ W (sFn f_steps n_steps) w2) (hc_steps : CalAt P w K mg base 4 f_steps (spFn2 (sN (e := ef0) (kL Sq)) n_steps)) : EvW e (tCall (sp_met_from P w K mg base) [] E (tCons t0 (tCons t1 (tCons t2 tNil)))) σ W (sN (kD (Option Sq))) (WP.b3 w0 w1 w2 m_met_from) := ew_call3N h0 h1 h2 fun W2 b0 b1 b2 x0 x1 x2 g2 r0 r1 r2 Q q E => by
  obtain ⟨e1, e2⟩ := r2; subst e1; subst e2
  exact ⟨W2, b0, b1, b2, f_steps, x0, x1, rfl, rfl, g2.z, r0, r1, hc_steps, WP.mono _ (fun n c h v W3 g3 hn p => h v W3 (Gw.up g2 g3) hn (sN_up g2 p)) q⟩
theorem ok_met_from (F : At K mg "met_from" s_met_from P_met_from) (G : Glb mg)  : Has P w K mg base "met_from" 5 P_met_from (sp_met_from P w K mg base) := by
  refine Has.of F sc_met_from (fun vs H Q E h => ?_) (fun f cdv A outer s H0 vs Q E hr h => ?_)
  · obtain ⟨W0, a_chart, a_start, a_steps, f_steps, v_chart, v_start, rfl, _⟩ := h
    rfl
  · obtain ⟨W0, a_chart, a_start, a_steps, f_steps, v_chart, v_start, rfl, rfl, g00, h_chart, h_start, hc_steps, hm⟩ := h
    have sc := sc_met_from
    have g0 := Gw.refl g00
    obtain ⟨fd_steps, ps_steps, F_steps, hk_steps, hb_steps⟩ := hc_steps.ex
    unfold m_met_from at hm
    refine ⟨_, (pss_cons (ps_set (i := 3) sc.nd rfl (Or.inl rfl) (pe_disp1T (hu_of hr) (pv 1) pe_non))
      (pss_cons (ps_set (i := 4) sc.nd rfl (Or.inl rfl) (pe_lst (pa_cons (pv 1) pa_nil)))
      (pss_cons (ps_set (i := 5) sc.nd rfl (Or.inl rfl) pe_int)
      (pss_cons (ps_while PassesOwn.never (pt_cmpR op_lt (pv 5) (pe_callB call_len_seq (by rfl) G.len PySem.boot_len (pa_cons (pv 4) pa_nil)) (nomark _))
      (pss_cons (ps_for PassesOwn.never rfl (pi_list (pe_callL (i := 2) (E := E0) F_steps (hr.mono (by decide)) rfl (by first | exact Or.inl rfl | exact Or.inr (Or.inl rfl) | exact Or.inr (Or.inr rfl)) hk_steps hb_steps .nil pass0 (pa_cons (pv 0) (pa_cons (pe_ix ix_list (pv 4) (pv 5) (fun _ _ => rfl)) pa_nil)))) (pg_name (i := 6) sc.nd rfl (Or.inl rfl))
      (pss_one (ps_if (pt_cmp (pc_dnotin (hu_of hr) (pv 6) (pv 3))) (pss_cons (ps_dput (hu_of hr) (pv 3) (pv 6) (pe_ix ix_list (pv 4) (pv 5) (fun _ _ => rfl)) rfl)
      (pss_one (ps_expr (pe_bm PySem.F.plainAttrs_list PySem.F.slot_list_append PySem.F.type_list_append mt_append (pv 4) (pa_cons (pv 6) pa_nil))))) pss_nil)))
      (pss_one (ps_aug (i := 5) sc.nd rfl (Or.inl rfl) pe_int ip_add))))
      (pss_one (ps_ret (pv 3))))))), ?_⟩
    refine q_asg (W := W0) (ew_disp1 (ew_var (v := v_start) rfl h_start) (ew_nonO (α := Sq))) g0.ok hm fun a1_before v_before W1 g1 ⟨fp_before, ho0_before, hf_before⟩ hm => ?_
    have hz_before : ∀ a ∈ fp_before, W0.H a = none := fun a m => g0.live a (hf_before a m).1
    have h_chart := PyI.st g1.st h_chart
    have h_start := PyI.st g1.st h_start
    have g0 := g0.trans g1
    have ho_before : Var (kD (Option Sq)) W0 W1 fp_before a1_before v_before := ⟨ho0_before, hz_before, fun b m => (hf_before b m).2.2⟩
    refine q_asg (W := W1) (ew_lst (eas_cons (ew_var (v := v_start) rfl h_start) (eas_nil (α := Sq)))) g0.ok hm fun a2_queue v_queue W2 g2 ⟨fp_queue, ho0_queue, hf_queue⟩ hm => ?_
    have dj_before_queue : ∀ b ∈ fp_before, b ∉ fp_queue := fun b m z => (kD (Option Sq)).live ho_before.own b m (hf_queue b z).1
    have hz_queue : ∀ a ∈ fp_queue, W0.H a = none := fun a m => g0.live a (hf_queue a m).1
    have h_chart := PyI.st g2.st h_chart
    have h_start := PyI.st g2.st h_start
    have ho_before := ho_before.go g00 g2
    have g0 := g0.trans g2
    have ho_queue : Var (kL Sq) W0 W2 fp_queue a2_queue v_queue := ⟨ho0_queue, hz_queue, fun b m => (hf_queue b m).2.2⟩
    first | refine norm_st (σ' := [some v_chart, some v_start, some (.ref f_steps), some v_before, some v_queue, none, none]) rfl ?_ | skip
    refine q_asg (W := W2) ew_int g0.ok hm fun a3_at v_at W3 g3 h_at hm => ?_
    have h_chart := PyI.st g3.st h_chart
    have h_start := PyI.st g3.st h_start
    have ho_before := ho_before.go g00 g3
    have ho_queue := ho_queue.go g00 g3
    have g0 := g0.trans g3
    refine q_while (W := W3) g0.ok hm (fun y σ' W' => ∃ (v_at : V) (v_before : V) (fp_before : List Addr) (v_queue : V) (fp_queue : List Addr) (o_square : Option V), σ' = [some v_chart, some v_start, some (.ref f_steps), some v_before, some v_queue, some v_at, o_square] ∧ Gw ef0 W0 W' ∧ St W3 W' ∧ Var (kD (Option Sq)) W0 W' fp_before y.1 v_before ∧ Var (kL Sq) W0 W' fp_queue y.2.1 v_queue ∧ Rp W' y.2.2 v_at ∧ (∀ b ∈ fp_before, b ∉ fp_queue)) ⟨v_at, v_before, fp_before, v_queue, fp_queue, _, rfl, g0, (St.refl _), ho_before, ho_queue, h_at, dj_before_queue⟩ (fun y4 σi Wi4 hI => ?_) (fun z4 σi Wi4 hI hm => ?_)
    ·
      obtain ⟨v_at, v_before, fp_before, v_queue, fp_queue, o_square, rfl, g0, sl4, ho_before, ho_queue, h_at, dj_before_queue⟩ := hI
      have h_chart := PyI.st sl4 h_chart
      have h_start := PyI.st sl4 h_start
      refine ⟨g0.ok, (et_t (ew_lt (ew_var (v := v_at) rfl h_at) (ew_lenL (ew_varR (v := v_queue) rfl (Var.nS g00 ho_queue) ho_queue.own)))), fun W4 g4 => ?_⟩
      have h_chart := PyI.st g4.st h_chart
      have h_start := PyI.st g4.st h_start
      have ho_before := ho_before.go g00 g4
      have ho_queue := ho_queue.go g00 g4
      have h_at := PyI.st g4.st h_at
      have sl4 := sl4.trans g4.st
      have g0 := g0.trans g4
      refine ⟨fun R4 nx4 hm kn4 kb4 kr4 => ?_, ⟨v_at, v_before, fp_before, v_queue, fp_queue, _, rfl, g0, sl4, ho_before, ho_queue, h_at, dj_before_queue⟩⟩
      refine q_forN (W := W4) tk_N (ew_callL rfl (ev_fn2N (ew_var (v := v_chart) rfl h_chart) (ew_ixL (ew_varR (v := v_queue) rfl (Var.nS g00 ho_queue) ho_queue.own) (ew_var (v := v_at) rfl h_at)))) g0.ok hm fun xs5 p_it5 vs_it5 W5 g5 hn_it5 hF_it5 hp_it5 hr_it5 => ?_
      have dj_it5_before : ∀ b ∈ [p_it5], b ∉ fp_before := fun b m z => by cases mem_one m; exact (kD (Option Sq)).live ho_before.own _ z hn_it5
      have dj_it5_queue : ∀ b ∈ [p_it5], b ∉ fp_queue := fun b m z => by cases mem_one m; exact (kL Sq).live ho_queue.own _ z hn_it5
      have nS_it5 : ¬ ef0.S p_it5 := fun z => g0.ok.S _ z hn_it5
      have h_chart := PyI.st g5.st h_chart
      have h_start := PyI.st g5.st h_start
      have ho_before := ho_before.go g00 g5
      have ho_queue := ho_queue.go g00 g5
      have h_at := PyI.st g5.st h_at
      have sl4 := sl4.trans g5.st
      have g0 := g0.trans g5
      refine ⟨fun y σ' W' => ∃ (v_before : V) (fp_before : List Addr) (v_queue : V) (fp_queue : List Addr) (o_square : Option V), σ' = [some v_chart, some v_start, some (.ref f_steps), some v_before, some v_queue, some v_at, o_square] ∧ Gw ef0 W0 W' ∧ St W5 W' ∧ Var (kD (Option Sq)) W0 W' fp_before y.1 v_before ∧ Var (kL Sq) W0 W' fp_queue y.2 v_queue ∧ W'.H p_it5 = some (.lst vs_it5) ∧ (∀ b ∈ fp_before, b ∉ fp_queue) ∧ (∀ b ∈ [p_it5], b ∉ fp_before) ∧ (∀ b ∈ [p_it5], b ∉ fp_queue), ⟨v_before, fp_before, v_queue, fp_queue, _, rfl, g0, (St.refl _), ho_before, ho_queue, hp_it5, dj_before_queue, dj_it5_before, dj_it5_queue⟩, fun _ _ _ hI => ?_, fun c5 y5 σi s2 Wi5 R5 nx5 ht hI hm kn5 kb5 kr5 => ?_, fun z5 σi Wi5 hI hm => ?_⟩
      · obtain ⟨v_before, fp_before, v_queue, fp_queue, o_square, rfl, g0, sl5, ho_before, ho_queue, hp_it5, dj_before_queue, dj_it5_before, dj_it5_queue⟩ := hI
        exact ⟨sl5, hp_it5⟩
      ·
        obtain ⟨v_before, fp_before, v_queue, fp_queue, o_square, rfl, g0, sl5, ho_before, ho_queue, hp_it5, dj_before_queue, dj_it5_before, dj_it5_queue⟩ := hI
        have h_chart := PyI.st sl5 h_chart
        have h_start := PyI.st sl5 h_start
        have h_at := PyI.st sl5 h_at
        have sl4 := sl4.trans sl5
        obtain ⟨v_square, rfl, h_square⟩ := ht
        refine st_join (W := Wi5) (s := (List (Sq × (Option Sq))) × (List Sq)) (fun y σ' W' => ∃ (v_before : V) (fp_before : List Addr) (v_queue : V) (fp_queue : List Addr), σ' = [some v_chart, some v_start, some (.ref f_steps), some v_before, some v_queue, some v_at, some v_square] ∧ Gw ef0 W0 W' ∧ St Wi5 W' ∧ Var (kD (Option Sq)) W0 W' fp_before y.1 v_before ∧ Var (kL Sq) W0 W' fp_queue y.2 v_queue ∧ W'.H p_it5 = some (.lst vs_it5) ∧ (∀ b ∈ fp_before, b ∉ fp_queue) ∧ (∀ b ∈ [p_it5], b ∉ fp_before) ∧ (∀ b ∈ [p_it5], b ∉ fp_queue)) (et_B (ew_dnotin (ew_var (v := v_square) rfl h_square) (ew_dr (ew_varR (v := v_before) rfl (Var.nS g00 ho_before) ho_before.own)))) g0.ok hm (fun y6 σj Wj6 hI hm => ?_) (fun W6 R6 g6 hm kj => ?_) (fun W6 R6 g6 hm kj => ?_)
        ·
          obtain ⟨v_before, fp_before, v_queue, fp_queue, rfl, g0, sj6, ho_before, ho_queue, hp_it5, dj_before_queue, dj_it5_before, dj_it5_queue⟩ := hI
          have h_chart := PyI.st sj6 h_chart
          have h_start := PyI.st sj6 h_start
          have h_at := PyI.st sj6 h_at
          have h_square := PyI.st sj6 h_square
          have sl4 := sl4.trans sj6
          have sl5 := sl5.trans sj6
          exact kn5 (y6.1, y6.2) _ Wj6 ⟨v_before, fp_before, v_queue, fp_queue, _, rfl, g0, sl5, ho_before, ho_queue, hp_it5, dj_before_queue, dj_it5_before, dj_it5_queue⟩ hm
        ·
          have h_chart := PyI.st g6.st h_chart
          have h_start := PyI.st g6.st h_start
          have ho_before := ho_before.go g00 g6
          have ho_queue := ho_queue.go g00 g6
          have h_at := PyI.st g6.st h_at
          have h_square := PyI.st g6.st h_square
          have sl4 := sl4.trans g6.st
          have sl5 := sl5.trans g6.st
          have hp_it5 := g6.keep _ _ hp_it5 nS_it5
          have g0 := g0.trans g6
          have sj6 := g6.st
          refine q_dput (W := W6) g00 g0 rfl ho_before (ew_some' (ew_ixL (ew_varR (v := v_queue) rfl (Var.nS g00 ho_queue) ho_queue.own) (ew_var (v := v_at) rfl h_at))) (ew_var (v := v_square) rfl h_square) hm fun a7_before W7_ W7 l_before el_before g7 s g02 kk ff ho_before hm => ?_
          have h_chart := PyI.st g7.st h_chart
          have h_start := PyI.st g7.st h_start
          have ho_queue := ho_queue.go g00 g7
          have h_at := PyI.st g7.st h_at
          have h_square := PyI.st g7.st h_square
          have sl4 := sl4.trans g7.st
          have sl5 := sl5.trans g7.st
          have sj6 := sj6.trans g7.st
          have hp_it5 := g7.keep _ _ hp_it5 nS_it5
          have g0 := g0.trans g7
          have h_chart := PyI.st s h_chart
          have h_start := PyI.st s h_start
          have ho_queue := ho_queue.kept s kk ff (fun b m z => dj_before_queue b z m)
          have h_at := PyI.st s h_at
          have h_square := PyI.st s h_square
          have sl4 := sl4.trans s
          have sl5 := sl5.trans s
          have sj6 := sj6.trans s
          have hp_it5 := kk [p_it5] _ Kp.refl dj_it5_before _ (List.mem_singleton.mpr rfl) _ hp_it5
          have g0 := g02
          first | refine norm_st (σ' := [some v_chart, some v_start, some (.ref f_steps), some v_before, some v_queue, some v_at, some v_square]) rfl ?_ | skip
          refine st_app (W := W7) g00 g0 rfl ho_queue (ew_var (v := v_square) rfl h_square) hm fun a8_queue W8_ W8 l_queue el_queue g8 s g02 kk ff ho_queue hm => ?_
          have h_chart := PyI.st g8.st h_chart
          have h_start := PyI.st g8.st h_start
          have ho_before := ho_before.go g00 g8
          have h_at := PyI.st g8.st h_at
          have h_square := PyI.st g8.st h_square
          have sl4 := sl4.trans g8.st
          have sl5 := sl5.trans g8.st
          have sj6 := sj6.trans g8.st
          have hp_it5 := g8.keep _ _ hp_it5 nS_it5
          have g0 := g0.trans g8
          have h_chart := PyI.st s h_chart
          have h_start := PyI.st s h_start
          have ho_before := ho_before.kept s kk ff dj_before_queue
          have h_at := PyI.st s h_at
          have h_square := PyI.st s h_square
          have sl4 := sl4.trans s
          have sl5 := sl5.trans s
          have sj6 := sj6.trans s
          have hp_it5 := kk [p_it5] _ Kp.refl dj_it5_queue _ (List.mem_singleton.mpr rfl) _ hp_it5
          have g0 := g02
          exact kj (a7_before, a8_queue) _ W8 ⟨v_before, fp_before, v_queue, fp_queue, rfl, g0, sj6, ho_before, ho_queue, hp_it5, dj_before_queue, dj_it5_before, dj_it5_queue⟩ hm
        ·
          have h_chart := PyI.st g6.st h_chart
          have h_start := PyI.st g6.st h_start
          have ho_before := ho_before.go g00 g6
          have ho_queue := ho_queue.go g00 g6
          have h_at := PyI.st g6.st h_at
          have h_square := PyI.st g6.st h_square
          have sl4 := sl4.trans g6.st
          have sl5 := sl5.trans g6.st
          have hp_it5 := g6.keep _ _ hp_it5 nS_it5
          have g0 := g0.trans g6
          have sj6 := g6.st
          refine st_next ?_
          exact kj (y5.1, y5.2) _ W6 ⟨v_before, fp_before, v_queue, fp_queue, rfl, g0, sj6, ho_before, ho_queue, hp_it5, dj_before_queue, dj_it5_before, dj_it5_queue⟩ hm
      ·
        obtain ⟨v_before, fp_before, v_queue, fp_queue, o_square, rfl, g0, sl5, ho_before, ho_queue, hp_it5, dj_before_queue, dj_it5_before, dj_it5_queue⟩ := hI
        have h_chart := PyI.st sl5 h_chart
        have h_start := PyI.st sl5 h_start
        have h_at := PyI.st sl5 h_at
        have sl4 := sl4.trans sl5
        refine st_aug (W := Wi5) (h0 := fun a b => a + b) rfl h_at ew_int g0.ok hm fun a9_at v_at W9 g9 h_at hm => ?_
        have h_chart := PyI.st g9.st h_chart
        have h_start := PyI.st g9.st h_start
        have ho_before := ho_before.go g00 g9
        have ho_queue := ho_queue.go g00 g9
        have sl4 := sl4.trans g9.st
        have g0 := g0.trans g9
        exact kn4 (z5.1, z5.2, a9_at) _ W9 ⟨v_at, v_before, fp_before, v_queue, fp_queue, _, rfl, g0, sl4, ho_before, ho_queue, h_at, dj_before_queue⟩ hm
    ·
      obtain ⟨v_at, v_before, fp_before, v_queue, fp_queue, o_square, rfl, g0, sl4, ho_before, ho_queue, h_at, dj_before_queue⟩ := hI
      have h_chart := PyI.st sl4 h_chart
      have h_start := PyI.st sl4 h_start
      exact ⟨_, rfl, hm _ Wi4 g0 rfl ⟨fp_before, ho_before.own, fun b m => ⟨ho_before.fr b m, Var.nS g00 ho_before b m, ho_before.nF b m⟩⟩⟩
abbrev s_regions_of : Stmt := top 15
abbrev N_regions_of : List Str := ["chart", "squares", "steps", "known", "found", "square", "region", "member"]
abbrev P_regions_of : List Str := ["chart", "squares", "steps"]
theorem sc_regions_of : FnScope N_regions_of P_regions_of (defScope s_regions_of) := ⟨rfl, rfl, rfl, by decide +kernel, rfl, by decide +kernel, by decide +kernel⟩
def m_regions_of (a_chart : (List Str)) (a_squares : (List Sq)) (a_steps : ((List Str) → Sq → WP (List Sq))) : WP (List (List Sq)) := (WP.pure ([] : (List (Sq × Bool)))).bind fun a1_known => (WP.row (WP.pure ([] : List (List Sq)))).bind fun a2_found => WP.after (WP.loop (γ := (List (List Sq))) (fun c3 (y3 : (List (Sq × Bool)) × (List (List Sq))) => ((WP.not (WP.din (WP.pure c3) (WP.pure y3.1))).bind fun b => WP.cond b ((WP.sortQ (WP.keys (WP.b3 (WP.pure a_chart) (WP.pure c3) (WP.pure a_steps) m_met_from))).bind fun a5_region => WP.after (WP.loop (γ := (List (List Sq))) (fun c6 (y6 : (List (Sq × Bool))) => (WP.b2 (WP.pure true) (WP.pure c6) fun b q => WP.req (y6.length < 100000) (putQ y6 q b)).bind fun a7_known => (WP.pure (.nx a7_known))) a5_region y3.1) (fun (z6 : (List (Sq × Bool))) => (((WP.pure a5_region).bind fun xs => WP.pure (α := List _) xs).bind fun a => WP.req (y3.2.length < 100000) (y3.2 ++ [a])).bind fun a8_found => (WP.pure (z6, a8_found))) (fun r => (WP.none (b := r)))) ((WP.pure (y3.1, y3.2)))).bind fun (y4 : (List (Sq × Bool)) × (List (List Sq))) => (WP.pure (.nx (y4.1, y4.2)))) a_squares (a1_known, a2_found)) (fun (z3 : (List (Sq × Bool)) × (List (List Sq))) => (WP.pure z3.2)) (fun r => (WP.pure r))
def sp_regions_of (P : Program) (w : World) (K : PySem.W.Frag) (mg : Str → Option Value) (base : Heap) : Sp := fun vs H Q _ => ∃ (W : Wo) (a_chart : (List Str)) (a_squares : (List Sq)) (a_steps : ((List Str) → Sq → WP (List Sq))) (f_steps : Addr) (v_chart v_squares : V) (fp_squares : List Addr), vs = [v_chart, v_squares, .ref f_steps] ∧ W.H = H ∧ Good ef0 W ∧ Rp W a_chart v_chart ∧ (kL Sq).own W fp_squares a_squares v_squares ∧ (∀ a ∈ fp_squares, ¬ ef0.S a) ∧ CalAt P w K mg base 4 f_steps (spFn2 (sN (e := ef0) (kL Sq)) a_steps) ∧ (m_regions_of a_chart a_squares a_steps).run W.n fun n r => ∀ v W', Gw ef0 W W' → W'.n = n → (sN (e := ef0) (kL (List Sq))).post W W' r v → Q v W'.H
theorem ev_regions_of {e : Ef} {f_steps : Addr} {n_steps : ((List Str) → Sq → WP (List Sq))} {σ : L2.St} {W : Wo} {E : XK} {t0 t1 t2 : TE} {w0 : WP (List Str)} {w1 : WP (List Sq)} {w2 : WP ((List Str) → Sq → WP (List Sq))} (h0 : EvW e t0 σ W sI w0) (h1 : EvW e t1 σ W (sR (kL Sq)) w1) (h2 : EvW e t2 σ W (sFn f_steps n_steps) w2) (hc_steps : CalAt P w K mg base 4 f_steps (spFn2 (sN (e := ef0) (kL Sq)) n_steps)) : EvW e (tCall (sp_regions_of P w K mg base) [] E (tCons t0 (tCons t1 (tCons t2 tNil)))) σ W (sN (kL (List Sq))) (WP.b3 w0 w1 w2 m_regions_of) := ew_call3N h0 h1 h2 fun W2 b0 b1 b2 x0 x1 x2 g2 r0 ⟨fp1, r1, s1⟩ r2 Q q E => by
  obtain ⟨e1, e2⟩ := r2; subst e1; subst e2
  exact ⟨W2, b0, b1, b2, f_steps, x0, x1, fp1, rfl, rfl, g2.z, r0, r1, fun _ _ z => z, hc_steps, WP.mono _ (fun n c h v W3 g3 hn p => h v W3 (Gw.up g2 g3) hn (sN_up g2 p)) q⟩
theorem ok_regions_of (F : At K mg "regions_of" s_regions_of P_regions_of) (G : Glb mg) (H_met_from : Has P w K mg base "met_from" 5 P_met_from (sp_met_from P w K mg base)) : Has P w K mg base "regions_of" 6 P_regions_of (sp_regions_of P w K mg base) := by
  refine Has.of F sc_regions_of (fun vs H Q E h => ?_) (fun f cdv A outer s H0 vs Q E hr h => ?_)
  · obtain ⟨W0, a_chart, a_squares, a_steps, f_steps, v_chart, v_squares, fp_squares, rfl, _⟩ := h
    rfl
  · obtain ⟨W0, a_chart, a_squares, a_steps, f_steps, v_chart, v_squares, fp_squares, rfl, rfl, g00, h_chart, hb_squares, hS_squares, hc_steps, hm⟩ := h
    have sc := sc_regions_of
    have g0 := Gw.refl g00
    obtain ⟨fd_steps, ps_steps, F_steps, hk_steps, hb_steps⟩ := hc_steps.ex
    have hl_squares := (kL Sq).live hb_squares
    have hb0_squares := hb_squares
    unfold m_regions_of at hm
    refine ⟨_, (pss_cons (ps_set (i := 3) sc.nd rfl (Or.inl rfl) pe_dnewT)
      (pss_cons (ps_set (i := 4) sc.nd rfl (Or.inl rfl) (pe_lst pa_nil))
      (pss_cons (ps_for PassesOwn.never rfl (pi_list (pv 1)) (pg_name (i := 5) sc.nd rfl (Or.inl rfl))
      (pss_one (ps_if (pt_cmp (pc_dnotin (hu_of hr) (pv 5) (pv 3))) (pss_cons (ps_set (i := 6) sc.nd rfl (Or.inl rfl) (pe_callB (cr_sortQ rfl) (by rfl) G.sorted (by decide +kernel) (pa_cons (pe_callTy (call_list_dT rfl) (by rfl) G.list (by decide +kernel) (pa_cons (pe_user H_met_from (hr.mono (by decide)) rfl (pa_cons (pv 0) (pa_cons (pv 5) (pa_cons (pv 2) pa_nil)))) pa_nil)) pa_nil)))
      (pss_cons (ps_for PassesOwn.never rfl (pi_list (pv 6)) (pg_name (i := 7) sc.nd rfl (Or.inl rfl))
      (pss_one (ps_dput (hu_of hr) (pv 3) (pv 7) pe_bl rfl)))
      (pss_one (ps_expr (pe_bm PySem.F.plainAttrs_list PySem.F.slot_list_append PySem.F.type_list_append mt_append (pv 4) (pa_cons (pe_callTy call_tuple_of (by rfl) G.tuple (by decide +kernel) (pa_cons (pv 6) pa_nil)) pa_nil)))))) pss_nil)))
      (pss_one (ps_ret (pv 4)))))), ?_⟩
    refine q_asg (W := W0) (ew_dnew (β := Bool)) g0.ok hm fun a1_known v_known W1 g1 ⟨fp_known, ho0_known, hf_known⟩ hm => ?_
    have hz_known : ∀ a ∈ fp_known, W0.H a = none := fun a m => g0.live a (hf_known a m).1
    have h_chart := PyI.st g1.st h_chart
    have hb_squares := Kd.go g1 hS_squares hb_squares
    have g0 := g0.trans g1
    have ho_known : Var (kD Bool) W0 W1 fp_known a1_known v_known := ⟨ho0_known, hz_known, fun b m => (hf_known b m).2.2⟩
    first | refine norm_st (σ' := [some v_chart, some v_squares, some (.ref f_steps), some v_known, none, none, none, none]) rfl ?_ | skip
    refine q_asg (W := W1) (ew_lst (eas_nil (α := (List Sq)))) g0.ok hm fun a2_found v_found W2 g2 ⟨fp_found, ho0_found, hf_found⟩ hm => ?_
    have dj_known_found : ∀ b ∈ fp_known, b ∉ fp_found := fun b m z => (kD Bool).live ho_known.own b m (hf_found b z).1
    have hz_found : ∀ a ∈ fp_found, W0.H a = none := fun a m => g0.live a (hf_found a m).1
    have h_chart := PyI.st g2.st h_chart
    have hb_squares := Kd.go g2 hS_squares hb_squares
    have ho_known := ho_known.go g00 g2
    have g0 := g0.trans g2
    have ho_found : Var (kL (List Sq)) W0 W2 fp_found a2_found v_found := ⟨ho0_found, hz_found, fun b m => (hf_found b m).2.2⟩
    obtain ⟨p_it3, vs_it3, ef_it3, ev_it3, hp_it3, hr_it3⟩ := own_list hb_squares
    have nS_it3 := hS_squares p_it3 (by rw [ef_it3]; exact List.mem_singleton.mpr rfl)
    have dj_it3_known : ∀ b ∈ [p_it3], b ∉ fp_known := fun b m z => hl_squares b (by rw [ef_it3]; exact m) (ho_known.fr b z)
    have dj_it3_found : ∀ b ∈ [p_it3], b ∉ fp_found := fun b m z => hl_squares b (by rw [ef_it3]; exact m) (ho_found.fr b z)
    refine q_forV (W := W2) tk_N (by rw [← ev_it3]; rfl) hp_it3 hr_it3 hm (fun y σ' W' => ∃ (v_known : V) (fp_known : List Addr) (v_found : V) (fp_found : List Addr) (o_square : Option V) (o_region : Option V) (o_member : Option V), σ' = [some v_chart, some v_squares, some (.ref f_steps), some v_known, some v_found, o_square, o_region, o_member] ∧ Gw ef0 W0 W' ∧ St W2 W' ∧ Var (kD Bool) W0 W' fp_known y.1 v_known ∧ Var (kL (List Sq)) W0 W' fp_found y.2 v_found ∧ W'.H p_it3 = some (.lst vs_it3) ∧ (∀ b ∈ [p_it3], b ∉ fp_found) ∧ (∀ b ∈ [p_it3], b ∉ fp_known) ∧ (∀ b ∈ fp_known, b ∉ fp_found)) ⟨v_known, fp_known, v_found, fp_found, _, _, _, rfl, g0, (St.refl _), ho_known, ho_found, hp_it3, dj_it3_found, dj_it3_known, dj_known_found⟩ (fun _ _ _ hI => ?_) (fun c3 y3 σi s2 Wi3 R3 nx3 ht hI hm kn3 kb3 kr3 => ?_) (fun z3 σi Wi3 hI hm => ?_)
    · obtain ⟨v_known, fp_known, v_found, fp_found, o_square, o_region, o_member, rfl, g0, sl3, ho_known, ho_found, hp_it3, dj_it3_found, dj_it3_known, dj_known_found⟩ := hI
      exact ⟨sl3, hp_it3⟩
    ·
      obtain ⟨v_known, fp_known, v_found, fp_found, o_square, o_region, o_member, rfl, g0, sl3, ho_known, ho_found, hp_it3, dj_it3_found, dj_it3_known, dj_known_found⟩ := hI
      have h_chart := PyI.st sl3 h_chart
      have hb_squares := Kd.go g0 hS_squares hb0_squares
      obtain ⟨v_square, rfl, h_square⟩ := ht
      refine st_join (W := Wi3) (s := (List (Sq × Bool)) × (List (List Sq))) (fun y σ' W' => ∃ (v_known : V) (fp_known : List Addr) (v_found : V) (fp_found : List Addr) (o_region : Option V) (o_member : Option V), σ' = [some v_chart, some v_squares, some (.ref f_steps), some v_known, some v_found, some v_square, o_region, o_member] ∧ Gw ef0 W0 W' ∧ St Wi3 W' ∧ Var (kD Bool) W0 W' fp_known y.1 v_known ∧ Var (kL (List Sq)) W0 W' fp_found y.2 v_found ∧ W'.H p_it3 = some (.lst vs_it3) ∧ (∀ b ∈ [p_it3], b ∉ fp_found) ∧ (∀ b ∈ [p_it3], b ∉ fp_known) ∧ (∀ b ∈ fp_known, b ∉ fp_found)) (et_B (ew_dnotin (ew_var (v := v_square) rfl h_square) (ew_dr (ew_varR (v := v_known) rfl (Var.nS g00 ho_known) ho_known.own)))) g0.ok hm (fun y4 σj Wj4 hI hm => ?_) (fun W4 R4 g4 hm kj => ?_) (fun W4 R4 g4 hm kj => ?_)
      ·
        obtain ⟨v_known, fp_known, v_found, fp_found, o_region, o_member, rfl, g0, sj4, ho_known, ho_found, hp_it3, dj_it3_found, dj_it3_known, dj_known_found⟩ := hI
        have h_chart := PyI.st sj4 h_chart
        have hb_squares := Kd.go g0 hS_squares hb0_squares
        have h_square := PyI.st sj4 h_square
        have sl3 := sl3.trans sj4
        exact kn3 (y4.1, y4.2) _ Wj4 ⟨v_known, fp_known, v_found, fp_found, _, _, _, rfl, g0, sl3, ho_known, ho_found, hp_it3, dj_it3_found, dj_it3_known, dj_known_found⟩ hm
      ·
        have h_chart := PyI.st g4.st h_chart
        have hb_squares := Kd.go g4 hS_squares hb_squares
        have ho_known := ho_known.go g00 g4
        have ho_found := ho_found.go g00 g4
        have h_square := PyI.st g4.st h_square
        have sl3 := sl3.trans g4.st
        have hp_it3 := g4.keep _ _ hp_it3 nS_it3
        have g0 := g0.trans g4
        have sj4 := g4.st
        refine q_asg (W := W4) (ew_sortQ (ew_rd (ew_keys (ew_dr (ew_rd (ev_met_from (ew_var (v := v_chart) rfl h_chart) (ew_var (v := v_square) rfl h_square) (ew_fnV rfl) hc_steps)))))) g0.ok hm fun a5_region v_region W5 g5 ⟨fp_region, ho0_region, hf_region⟩ hm => ?_
        have dj_known_region : ∀ b ∈ fp_known, b ∉ fp_region := fun b m z => (kD Bool).live ho_known.own b m (hf_region b z).1
        have dj_found_region : ∀ b ∈ fp_found, b ∉ fp_region := fun b m z => (kL (List Sq)).live ho_found.own b m (hf_region b z).1
        have dj_it3_region : ∀ b ∈ [p_it3], b ∉ fp_region := fun b m z => by cases mem_one m; exact absurd (hf_region _ z).1 (some_ne hp_it3)
        have hz_region : ∀ a ∈ fp_region, W0.H a = none := fun a m => g0.live a (hf_region a m).1
        have h_chart := PyI.st g5.st h_chart
        have hb_squares := Kd.go g5 hS_squares hb_squares
        have ho_known := ho_known.go g00 g5
        have ho_found := ho_found.go g00 g5
        have h_square := PyI.st g5.st h_square
        have sl3 := sl3.trans g5.st
        have sj4 := sj4.trans g5.st
        have hp_it3 := g5.keep _ _ hp_it3 nS_it3
        have g0 := g0.trans g5
        have ho_region : Var (kL Sq) W0 W5 fp_region a5_region v_region := ⟨ho0_region, hz_region, fun b m => (hf_region b m).2.2⟩
        first | refine norm_st (σ' := [some v_chart, some v_squares, some (.ref f_steps), some v_known, some v_found, some v_square, some v_region, o_member]) rfl ?_ | skip
        obtain ⟨p_it6, vs_it6, ef_it6, ev_it6, hp_it6, hr_it6⟩ := own_list ho_region.own
        have nS_it6 := (Var.nS g00 ho_region) p_it6 (by rw [ef_it6]; exact List.mem_singleton.mpr rfl)
        have dj_it6_known : ∀ b ∈ [p_it6], b ∉ fp_known := by rw [← ef_it6]; exact (fun b m z => dj_known_region b z m)
        have dj_it6_found : ∀ b ∈ [p_it6], b ∉ fp_found := by rw [← ef_it6]; exact (fun b m z => dj_found_region b z m)
        refine q_forV (W := W5) tk_N (by rw [← ev_it6]; rfl) hp_it6 hr_it6 hm (fun y σ' W' => ∃ (v_known : V) (fp_known : List Addr) (o_member : Option V), σ' = [some v_chart, some v_squares, some (.ref f_steps), some v_known, some v_found, some v_square, some v_region, o_member] ∧ Gw ef0 W0 W' ∧ St W5 W' ∧ Var (kD Bool) W0 W' fp_known y v_known ∧ Var (kL (List Sq)) W0 W' fp_found y3.2 v_found ∧ Var (kL Sq) W0 W' fp_region a5_region v_region ∧ W'.H p_it3 = some (.lst vs_it3) ∧ W'.H p_it6 = some (.lst vs_it6) ∧ (∀ b ∈ [p_it3], b ∉ fp_known) ∧ (∀ b ∈ [p_it6], b ∉ fp_known) ∧ (∀ b ∈ fp_known, b ∉ fp_found) ∧ (∀ b ∈ fp_known, b ∉ fp_region)) ⟨v_known, fp_known, _, rfl, g0, (St.refl _), ho_known, ho_found, ho_region, hp_it3, hp_it6, dj_it3_known, dj_it6_known, dj_known_found, dj_known_region⟩ (fun _ _ _ hI => ?_) (fun c6 y6 σi s2 Wi6 R6 nx6 ht hI hm kn6 kb6 kr6 => ?_) (fun z6 σi Wi6 hI hm => ?_)
        · obtain ⟨v_known, fp_known, o_member, rfl, g0, sl6, ho_known, ho_found, ho_region, hp_it3, hp_it6, dj_it3_known, dj_it6_known, dj_known_found, dj_known_region⟩ := hI
          exact ⟨sl6, hp_it6⟩
        ·
          obtain ⟨v_known, fp_known, o_member, rfl, g0, sl6, ho_known, ho_found, ho_region, hp_it3, hp_it6, dj_it3_known, dj_it6_known, dj_known_found, dj_known_region⟩ := hI
          have h_chart := PyI.st sl6 h_chart
          have hb_squares := Kd.go g0 hS_squares hb0_squares
          have h_square := PyI.st sl6 h_square
          have sl3 := sl3.trans sl6
          have sj4 := sj4.trans sl6
          obtain ⟨v_member, rfl, h_member⟩ := ht
          refine st_dput (W := Wi6) g00 g0 rfl ho_known ew_bl (ew_var (v := v_member) rfl h_member) hm fun a7_known W7_ W7 l_known el_known g7 s g02 kk ff ho_known hm => ?_
          have h_chart := PyI.st g7.st h_chart
          have hb_squares := Kd.go g7 hS_squares hb_squares
          have ho_found := ho_found.go g00 g7
          have h_square := PyI.st g7.st h_square
          have ho_region := ho_region.go g00 g7
          have h_member := PyI.st g7.st h_member
          have sl3 := sl3.trans g7.st
          have sj4 := sj4.trans g7.st
          have sl6 := sl6.trans g7.st
          have hp_it3 := g7.keep _ _ hp_it3 nS_it3
          have hp_it6 := g7.keep _ _ hp_it6 nS_it6
          have g0 := g0.trans g7
          have h_chart := PyI.st s h_chart
          have hb_squares := Kd.st _ s (kk fp_squares _ Kp.refl fun b m z => hl_squares b m (ho_known.fr b z)) hb_squares
          have ho_found := ho_found.kept s kk ff (fun b m z => dj_known_found b z m)
          have h_square := PyI.st s h_square
          have ho_region := ho_region.kept s kk ff (fun b m z => dj_known_region b z m)
          have h_member := PyI.st s h_member
          have sl3 := sl3.trans s
          have sj4 := sj4.trans s
          have sl6 := sl6.trans s
          have hp_it3 := kk [p_it3] _ Kp.refl dj_it3_known _ (List.mem_singleton.mpr rfl) _ hp_it3
          have hp_it6 := kk [p_it6] _ Kp.refl dj_it6_known _ (List.mem_singleton.mpr rfl) _ hp_it6
          have g0 := g02
          exact kn6 a7_known _ W7 ⟨v_known, fp_known, _, rfl, g0, sl6, ho_known, ho_found, ho_region, hp_it3, hp_it6, dj_it3_known, dj_it6_known, dj_known_found, dj_known_region⟩ hm
        ·
          obtain ⟨v_known, fp_known, o_member, rfl, g0, sl6, ho_known, ho_found, ho_region, hp_it3, hp_it6, dj_it3_known, dj_it6_known, dj_known_found, dj_known_region⟩ := hI
          have h_chart := PyI.st sl6 h_chart
          have hb_squares := Kd.go g0 hS_squares hb0_squares
          have h_square := PyI.st sl6 h_square
          have sl3 := sl3.trans sl6
          have sj4 := sj4.trans sl6
          refine st_app (W := Wi6) g00 g0 rfl ho_found (ew_tuple (ew_varR (v := v_region) rfl (Var.nS g00 ho_region) ho_region.own)) hm fun a8_found W8_ W8 l_found el_found g8 s g02 kk ff ho_found hm => ?_
          have h_chart := PyI.st g8.st h_chart
          have hb_squares := Kd.go g8 hS_squares hb_squares
          have ho_known := ho_known.go g00 g8
          have h_square := PyI.st g8.st h_square
          have ho_region := ho_region.go g00 g8
          have sl3 := sl3.trans g8.st
          have sj4 := sj4.trans g8.st
          have hp_it3 := g8.keep _ _ hp_it3 nS_it3
          have g0 := g0.trans g8
          have h_chart := PyI.st s h_chart
          have hb_squares := Kd.st _ s (kk fp_squares _ Kp.refl fun b m z => hl_squares b m (ho_found.fr b z)) hb_squares
          have ho_known := ho_known.kept s kk ff dj_known_found
          have h_square := PyI.st s h_square
          have ho_region := ho_region.kept s kk ff (fun b m z => dj_found_region b z m)
          have sl3 := sl3.trans s
          have sj4 := sj4.trans s
          have hp_it3 := kk [p_it3] _ Kp.refl dj_it3_found _ (List.mem_singleton.mpr rfl) _ hp_it3
          have g0 := g02
          exact kj (z6, a8_found) _ W8 ⟨v_known, fp_known, v_found, fp_found, _, _, rfl, g0, sj4, ho_known, ho_found, hp_it3, dj_it3_found, dj_it3_known, dj_known_found⟩ hm
      ·
        have h_chart := PyI.st g4.st h_chart
        have hb_squares := Kd.go g4 hS_squares hb_squares
        have ho_known := ho_known.go g00 g4
        have ho_found := ho_found.go g00 g4
        have h_square := PyI.st g4.st h_square
        have sl3 := sl3.trans g4.st
        have hp_it3 := g4.keep _ _ hp_it3 nS_it3
        have g0 := g0.trans g4
        have sj4 := g4.st
        refine st_next ?_
        exact kj (y3.1, y3.2) _ W4 ⟨v_known, fp_known, v_found, fp_found, _, _, rfl, g0, sj4, ho_known, ho_found, hp_it3, dj_it3_found, dj_it3_known, dj_known_found⟩ hm
    ·
      obtain ⟨v_known, fp_known, v_found, fp_found, o_square, o_region, o_member, rfl, g0, sl3, ho_known, ho_found, hp_it3, dj_it3_found, dj_it3_known, dj_known_found⟩ := hI
      have h_chart := PyI.st sl3 h_chart
      have hb_squares := Kd.go g0 hS_squares hb0_squares
      exact ⟨_, rfl, hm _ Wi3 g0 rfl ⟨fp_found, ho_found.own, fun b m => ⟨ho_found.fr b m, Var.nS g00 ho_found b m, ho_found.nF b m⟩⟩⟩
abbrev s_waters : Stmt := top 16
abbrev N_waters : List Str := ["chart"]
abbrev P_waters : List Str := ["chart"]
theorem sc_waters : FnScope N_waters P_waters (defScope s_waters) := ⟨rfl, rfl, rfl, by decide +kernel, rfl, by decide +kernel, by decide +kernel⟩
def m_waters (a_chart : (List Str)) : WP (List (List Sq)) := (WP.b3 (WP.pure a_chart) (WP.b1 (WP.pure a_chart) m_water_squares) (WP.pure m_water_steps) m_regions_of).bind fun r1 => (WP.pure r1)
def sp_waters : Sp := fun vs H Q _ => ∃ (W : Wo) (a_chart : (List Str)) (v_chart : V), vs = [v_chart] ∧ W.H = H ∧ Good ef0 W ∧ Rp W a_chart v_chart ∧ (m_waters a_chart).run W.n fun n r => ∀ v W', Gw ef0 W W' → W'.n = n → (sN (e := ef0) (kL (List Sq))).post W W' r v → Q v W'.H
theorem ev_waters {e : Ef} {σ : L2.St} {W : Wo} {E : XK} {t0 : TE} {w0 : WP (List Str)} (h0 : EvW e t0 σ W sI w0) : EvW e (tCall sp_waters [] E (tCons t0 tNil)) σ W (sN (kL (List Sq))) (WP.b1 w0 m_waters) := ew_call1N h0 fun W2 b0 x0 g2 r0 Q q E => by
  exact ⟨W2, b0, x0, rfl, rfl, g2.z, r0, WP.mono _ (fun n c h v W3 g3 hn p => h v W3 (Gw.up g2 g3) hn (sN_up g2 p)) q⟩
theorem ok_waters (F : At K mg "waters" s_waters P_waters) (G : Glb mg) (H_regions_of : Has P w K mg base "regions_of" 6 P_regions_of (sp_regions_of P w K mg base)) (H_water_squares : Has P w K mg base "water_squares" 3 P_water_squares sp_water_squares) (H_water_steps : Has P w K mg base "water_steps" 4 P_water_steps sp_water_steps) : Has P w K mg base "waters" 7 P_waters sp_waters := by
  refine Has.of F sc_waters (fun vs H Q E h => ?_) (fun f cdv A outer s H0 vs Q E hr h => ?_)
  · obtain ⟨W0, a_chart, v_chart, rfl, _⟩ := h
    rfl
  · obtain ⟨W0, a_chart, v_chart, rfl, rfl, g00, h_chart, hm⟩ := h
    have sc := sc_waters
    have g0 := Gw.refl g00
    obtain ⟨f_water_steps, fd_water_steps, hm_water_steps, hk_water_steps, hb_water_steps, hF_water_steps⟩ := id H_water_steps
    unfold m_waters at hm
    refine ⟨_, (pss_one (ps_ret (pe_user H_regions_of (hr.mono (by decide)) rfl (pa_cons (pv 0) (pa_cons (pe_user H_water_squares (hr.mono (by decide)) rfl (pa_cons (pv 0) pa_nil)) (pa_cons (pe_glob (v := .ref f_water_steps) rfl hm_water_steps rfl) pa_nil)))))), ?_⟩
    refine st_ret (W := W0) (ev_regions_of (ew_var (v := v_chart) rfl h_chart) (ew_rd (ev_water_squares (ew_var (v := v_chart) rfl h_chart))) ew_fn ⟨⟨fd_water_steps, _, hF_water_steps.mono (by decide), hk_water_steps, hb_water_steps⟩⟩) g0.ok hm fun r1 v_ret W1 g1 hp hm => ?_
    exact hm v_ret W1 (g0.trans g1) rfl ((sN (kL (List Sq))).back g0 hp)
abbrev s_lakes : Stmt := top 17
abbrev N_lakes : List Str := ["chart"]
abbrev P_lakes : List Str := ["chart"]
theorem sc_lakes : FnScope N_lakes P_lakes (defScope s_lakes) := ⟨rfl, rfl, rfl, by decide +kernel, rfl, by decide +kernel, by decide +kernel⟩
def m_lakes (a_chart : (List Str)) : WP (List (List Sq)) := (WP.cut (WP.b1 (WP.pure a_chart) m_waters) ((WP.pure (1 : Int)).bind fun x => WP.pure (some x)) (WP.pure none)).bind fun r1 => (WP.pure r1)
def sp_lakes : Sp := fun vs H Q _ => ∃ (W : Wo) (a_chart : (List Str)) (v_chart : V), vs = [v_chart] ∧ W.H = H ∧ Good ef0 W ∧ Rp W a_chart v_chart ∧ (m_lakes a_chart).run W.n fun n r => ∀ v W', Gw ef0 W W' → W'.n = n → (sN (e := ef0) (kL (List Sq))).post W W' r v → Q v W'.H
theorem ev_lakes {e : Ef} {σ : L2.St} {W : Wo} {E : XK} {t0 : TE} {w0 : WP (List Str)} (h0 : EvW e t0 σ W sI w0) : EvW e (tCall sp_lakes [] E (tCons t0 tNil)) σ W (sN (kL (List Sq))) (WP.b1 w0 m_lakes) := ew_call1N h0 fun W2 b0 x0 g2 r0 Q q E => by
  exact ⟨W2, b0, x0, rfl, rfl, g2.z, r0, WP.mono _ (fun n c h v W3 g3 hn p => h v W3 (Gw.up g2 g3) hn (sN_up g2 p)) q⟩
theorem ok_lakes (F : At K mg "lakes" s_lakes P_lakes) (G : Glb mg) (H_waters : Has P w K mg base "waters" 7 P_waters sp_waters) : Has P w K mg base "lakes" 8 P_lakes sp_lakes := by
  refine Has.of F sc_lakes (fun vs H Q E h => ?_) (fun f cdv A outer s H0 vs Q E hr h => ?_)
  · obtain ⟨W0, a_chart, v_chart, rfl, _⟩ := h
    rfl
  · obtain ⟨W0, a_chart, v_chart, rfl, rfl, g00, h_chart, hm⟩ := h
    have sc := sc_lakes
    have g0 := Gw.refl g00
    unfold m_lakes at hm
    refine ⟨_, (pss_one (ps_ret (pe_slice sl_list (pe_user H_waters (hr.mono (by decide)) rfl (pa_cons (pv 0) pa_nil)) (po_some pe_int) po_none))), ?_⟩
    refine st_ret (W := W0) (ew_slL (ew_rd (ev_waters (ew_var (v := v_chart) rfl h_chart))) (eo_some ew_int) eo_none) g0.ok hm fun r1 v_ret W1 g1 hp hm => ?_
    exact hm v_ret W1 (g0.trans g1) rfl ((sN (kL (List Sq))).back g0 hp)
abbrev s_drains : Stmt := top 18
abbrev N_drains : List Str := ["chart", "square"]
abbrev P_drains : List Str := ["chart", "square"]
theorem sc_drains : FnScope N_drains P_drains (defScope s_drains) := ⟨rfl, rfl, rfl, by decide +kernel, rfl, by decide +kernel, by decide +kernel⟩
def m_drains (a_chart : (List Str)) (a_square : Sq) : WP Bool := (WP.din (WP.pair (WP.neg (WP.pure (1 : Int))) (WP.neg (WP.pure (1 : Int)))) (WP.b3 (WP.pure a_chart) (WP.pure a_square) (WP.pure m_water_steps) m_met_from)).bind fun r1 => (WP.pure r1)
def sp_drains : Sp := fun vs H Q _ => ∃ (W : Wo) (a_chart : (List Str)) (a_square : Sq) (v_chart v_square : V), vs = [v_chart, v_square] ∧ W.H = H ∧ Good ef0 W ∧ Rp W a_chart v_chart ∧ Rp W a_square v_square ∧ (m_drains a_chart a_square).run W.n fun n r => ∀ v W', Gw ef0 W W' → W'.n = n → (sI (e := ef0) (α := Bool)).post W W' r v → Q v W'.H
theorem ev_drains {e : Ef} {σ : L2.St} {W : Wo} {E : XK} {t0 t1 : TE} {w0 : WP (List Str)} {w1 : WP Sq} (h0 : EvW e t0 σ W sI w0) (h1 : EvW e t1 σ W sI w1) : EvW e (tCall sp_drains [] E (tCons t0 (tCons t1 tNil))) σ W (sI (α := Bool)) (WP.b2 w0 w1 m_drains) := ew_call2N h0 h1 fun W2 b0 b1 x0 x1 g2 r0 r1 Q q E => by
  exact ⟨W2, b0, b1, x0, x1, rfl, rfl, g2.z, r0, r1, WP.mono _ (fun n c h v W3 g3 hn p => h v W3 (Gw.up g2 g3) hn p) q⟩
theorem ok_drains (F : At K mg "drains" s_drains P_drains) (G : Glb mg) (H_met_from : Has P w K mg base "met_from" 5 P_met_from (sp_met_from P w K mg base)) (H_water_steps : Has P w K mg base "water_steps" 4 P_water_steps sp_water_steps) : Has P w K mg base "drains" 6 P_drains sp_drains := by
  refine Has.of F sc_drains (fun vs H Q E h => ?_) (fun f cdv A outer s H0 vs Q E hr h => ?_)
  · obtain ⟨W0, a_chart, a_square, v_chart, v_square, rfl, _⟩ := h
    rfl
  · obtain ⟨W0, a_chart, a_square, v_chart, v_square, rfl, rfl, g00, h_chart, h_square, hm⟩ := h
    have sc := sc_drains
    have g0 := Gw.refl g00
    obtain ⟨f_water_steps, fd_water_steps, hm_water_steps, hk_water_steps, hb_water_steps, hF_water_steps⟩ := id H_water_steps
    unfold m_drains at hm
    refine ⟨_, (pss_one (ps_ret (pe_cmp (pc_din (hu_of hr) (pe_tup (pa_cons (pe_un un_neg pe_int) (pa_cons (pe_un un_neg pe_int) pa_nil))) (pe_user H_met_from (hr.mono (by decide)) rfl (pa_cons (pv 0) (pa_cons (pv 1) (pa_cons (pe_glob (v := .ref f_water_steps) rfl hm_water_steps rfl) pa_nil)))))))), ?_⟩
    refine st_ret (W := W0) (ew_din (ew_pair (ew_neg ew_int) (ew_neg ew_int)) (ew_dr (ew_rd (ev_met_from (ew_var (v := v_chart) rfl h_chart) (ew_var (v := v_square) rfl h_square) ew_fn ⟨⟨fd_water_steps, _, hF_water_steps.mono (by decide), hk_water_steps, hb_water_steps⟩⟩)))) g0.ok hm fun r1 v_ret W1 g1 hp hm => ?_
    exact hm v_ret W1 (g0.trans g1) rfl hp
abbrev s_above : Stmt := top 20
abbrev N_above : List Str := ["square"]
abbrev P_above : List Str := ["square"]
theorem sc_above : FnScope N_above P_above (defScope s_above) := ⟨rfl, rfl, rfl, by decide +kernel, rfl, by decide +kernel, by decide +kernel⟩
def m_above (a_square : Sq) : WP Sq := (WP.pair (WP.sub (WP.fst (WP.pure a_square)) (WP.pure (1 : Int))) (WP.snd (WP.pure a_square))).bind fun r1 => (WP.pure r1)
def sp_above : Sp := fun vs H Q _ => ∃ (W : Wo) (a_square : Sq) (v_square : V), vs = [v_square] ∧ W.H = H ∧ Good ef0 W ∧ Rp W a_square v_square ∧ (m_above a_square).run W.n fun n r => ∀ v W', Gw ef0 W W' → W'.n = n → (sI (e := ef0) (α := Sq)).post W W' r v → Q v W'.H
theorem ev_above {e : Ef} {σ : L2.St} {W : Wo} {E : XK} {t0 : TE} {w0 : WP Sq} (h0 : EvW e t0 σ W sI w0) : EvW e (tCall sp_above [] E (tCons t0 tNil)) σ W (sI (α := Sq)) (WP.b1 w0 m_above) := ew_call1N h0 fun W2 b0 x0 g2 r0 Q q E => by
  exact ⟨W2, b0, x0, rfl, rfl, g2.z, r0, WP.mono _ (fun n c h v W3 g3 hn p => h v W3 (Gw.up g2 g3) hn p) q⟩
theorem ok_above (F : At K mg "above" s_above P_above) (G : Glb mg)  : Has P w K mg base "above" 1 P_above sp_above := by
  refine Has.of F sc_above (fun vs H Q E h => ?_) (fun f cdv A outer s H0 vs Q E hr h => ?_)
  · obtain ⟨W0, a_square, v_square, rfl, _⟩ := h
    rfl
  · obtain ⟨W0, a_square, v_square, rfl, rfl, g00, h_square, hm⟩ := h
    have sc := sc_above
    have g0 := Gw.refl g00
    unfold m_above at hm
    refine ⟨_, (pss_one (ps_ret (pe_tup (pa_cons (pe_op op_sub (pe_ix ix_tup (pv 0) pe_int (fun _ _ => rfl)) pe_int) (pa_cons (pe_ix ix_tup (pv 0) pe_int (fun _ _ => rfl)) pa_nil))))), ?_⟩
    refine st_ret (W := W0) (ew_pair (ew_sub (ew_fst (ew_var (v := v_square) rfl h_square)) ew_int) (ew_snd (ew_var (v := v_square) rfl h_square))) g0.ok hm fun r1 v_ret W1 g1 hp hm => ?_
    exact hm v_ret W1 (g0.trans g1) rfl hp
abbrev s_next_shore : Stmt := top 21
abbrev N_next_shore : List Str := ["chart", "shore", "land", "water", "down", "right", "beyond_land", "beyond_water"]
abbrev P_next_shore : List Str := ["chart", "shore"]
theorem sc_next_shore : FnScope N_next_shore P_next_shore (defScope s_next_shore) := ⟨rfl, rfl, rfl, by decide +kernel, rfl, by decide +kernel, by decide +kernel⟩
def m_next_shore (a_chart : (List Str)) (a_shore : (Sq × Sq)) : WP (Sq × Sq) := (WP.pure a_shore).bind fun a1_land_water => (WP.sub (WP.snd (WP.pure a1_land_water.2)) (WP.snd (WP.pure a1_land_water.1))).bind fun a2_down => (WP.sub (WP.fst (WP.pure a1_land_water.1)) (WP.fst (WP.pure a1_land_water.2))).bind fun a3_right => (WP.pair (WP.add (WP.fst (WP.pure a1_land_water.1)) (WP.pure a2_down)) (WP.add (WP.snd (WP.pure a1_land_water.1)) (WP.pure a3_right))).bind fun a4_beyond_land => (WP.pair (WP.add (WP.fst (WP.pure a1_land_water.2)) (WP.pure a2_down)) (WP.add (WP.snd (WP.pure a1_land_water.2)) (WP.pure a3_right))).bind fun a5_beyond_water => (WP.not (WP.b2 (WP.pure a_chart) (WP.pure a4_beyond_land) m_is_land)).bind fun b => WP.cond b ((WP.pair (WP.pure a1_land_water.1) (WP.pure a4_beyond_land)).bind fun r7 => (WP.pure r7)) ((WP.not (WP.b2 (WP.pure a_chart) (WP.pure a5_beyond_water) m_is_land)).bind fun b => WP.cond b ((WP.pair (WP.pure a4_beyond_land) (WP.pure a5_beyond_water)).bind fun r9 => (WP.pure r9)) ((WP.pair (WP.pure a5_beyond_water) (WP.pure a1_land_water.2)).bind fun r10 => (WP.pure r10)))
def sp_next_shore : Sp := fun vs H Q _ => ∃ (W : Wo) (a_chart : (List Str)) (a_shore : (Sq × Sq)) (v_chart v_shore : V), vs = [v_chart, v_shore] ∧ W.H = H ∧ Good ef0 W ∧ Rp W a_chart v_chart ∧ Rp W a_shore v_shore ∧ (m_next_shore a_chart a_shore).run W.n fun n r => ∀ v W', Gw ef0 W W' → W'.n = n → (sI (e := ef0) (α := (Sq × Sq))).post W W' r v → Q v W'.H
theorem ev_next_shore {e : Ef} {σ : L2.St} {W : Wo} {E : XK} {t0 t1 : TE} {w0 : WP (List Str)} {w1 : WP (Sq × Sq)} (h0 : EvW e t0 σ W sI w0) (h1 : EvW e t1 σ W sI w1) : EvW e (tCall sp_next_shore [] E (tCons t0 (tCons t1 tNil))) σ W (sI (α := (Sq × Sq))) (WP.b2 w0 w1 m_next_shore) := ew_call2N h0 h1 fun W2 b0 b1 x0 x1 g2 r0 r1 Q q E => by
  exact ⟨W2, b0, b1, x0, x1, rfl, rfl, g2.z, r0, r1, WP.mono _ (fun n c h v W3 g3 hn p => h v W3 (Gw.up g2 g3) hn p) q⟩
theorem ok_next_shore (F : At K mg "next_shore" s_next_shore P_next_shore) (G : Glb mg) (H_is_land : Has P w K mg base "is_land" 2 P_is_land sp_is_land) : Has P w K mg base "next_shore" 3 P_next_shore sp_next_shore := by
  refine Has.of F sc_next_shore (fun vs H Q E h => ?_) (fun f cdv A outer s H0 vs Q E hr h => ?_)
  · obtain ⟨W0, a_chart, a_shore, v_chart, v_shore, rfl, _⟩ := h
    rfl
  · obtain ⟨W0, a_chart, a_shore, v_chart, v_shore, rfl, rfl, g00, h_chart, h_shore, hm⟩ := h
    have sc := sc_next_shore
    have g0 := Gw.refl g00
    unfold m_next_shore at hm
    refine ⟨_, (pss_cons (ps_asg (pv 1) (pg_tup rfl (pgs_cons (pg_name (i := 2) sc.nd rfl (Or.inl rfl)) (pgs_cons (pg_name (i := 3) sc.nd rfl (Or.inl rfl)) pgs_nil))))
      (pss_cons (ps_set (i := 4) sc.nd rfl (Or.inl rfl) (pe_op op_sub (pe_ix ix_tup (pv 3) pe_int (fun _ _ => rfl)) (pe_ix ix_tup (pv 2) pe_int (fun _ _ => rfl))))
      (pss_cons (ps_set (i := 5) sc.nd rfl (Or.inl rfl) (pe_op op_sub (pe_ix ix_tup (pv 2) pe_int (fun _ _ => rfl)) (pe_ix ix_tup (pv 3) pe_int (fun _ _ => rfl))))
      (pss_cons (ps_set (i := 6) sc.nd rfl (Or.inl rfl) (pe_tup (pa_cons (pe_op op_add (pe_ix ix_tup (pv 2) pe_int (fun _ _ => rfl)) (pv 4)) (pa_cons (pe_op op_add (pe_ix ix_tup (pv 2) pe_int (fun _ _ => rfl)) (pv 5)) pa_nil))))
      (pss_cons (ps_set (i := 7) sc.nd rfl (Or.inl rfl) (pe_tup (pa_cons (pe_op op_add (pe_ix ix_tup (pv 3) pe_int (fun _ _ => rfl)) (pv 4)) (pa_cons (pe_op op_add (pe_ix ix_tup (pv 3) pe_int (fun _ _ => rfl)) (pv 5)) pa_nil))))
      (pss_cons (ps_if (pt_not (pt_val (pe_user H_is_land (hr.mono (by decide)) rfl (pa_cons (pv 0) (pa_cons (pv 6) pa_nil))))) (pss_one (ps_ret (pe_tup (pa_cons (pv 2) (pa_cons (pv 6) pa_nil))))) pss_nil)
      (pss_cons (ps_if (pt_not (pt_val (pe_user H_is_land (hr.mono (by decide)) rfl (pa_cons (pv 0) (pa_cons (pv 7) pa_nil))))) (pss_one (ps_ret (pe_tup (pa_cons (pv 6) (pa_cons (pv 7) pa_nil))))) pss_nil)
      (pss_one (ps_ret (pe_tup (pa_cons (pv 7) (pa_cons (pv 3) pa_nil)))))))))))), ?_⟩
    refine q_un2 (W := W0) (ew_var (v := v_shore) rfl h_shore) g0.ok hm fun a1_land_water v_land v_water W1 g1 h_land h_water hm => ?_
    have h_chart := PyI.st g1.st h_chart
    have h_shore := PyI.st g1.st h_shore
    have g0 := g0.trans g1
    first | refine norm_st (σ' := [some v_chart, some v_shore, some v_land, some v_water, none, none, none, none]) rfl ?_ | skip
    refine q_asg (W := W1) (ew_sub (ew_snd (ew_var (v := v_water) rfl h_water)) (ew_snd (ew_var (v := v_land) rfl h_land))) g0.ok hm fun a2_down v_down W2 g2 h_down hm => ?_
    have h_chart := PyI.st g2.st h_chart
    have h_shore := PyI.st g2.st h_shore
    have h_land := PyI.st g2.st h_land
    have h_water := PyI.st g2.st h_water
    have g0 := g0.trans g2
    refine q_asg (W := W2) (ew_sub (ew_fst (ew_var (v := v_land) rfl h_land)) (ew_fst (ew_var (v := v_water) rfl h_water))) g0.ok hm fun a3_right v_right W3 g3 h_right hm => ?_
    have h_chart := PyI.st g3.st h_chart
    have h_shore := PyI.st g3.st h_shore
    have h_land := PyI.st g3.st h_land
    have h_water := PyI.st g3.st h_water
    have h_down := PyI.st g3.st h_down
    have g0 := g0.trans g3
    first | refine norm_st (σ' := [some v_chart, some v_shore, some v_land, some v_water, some v_down, some v_right, none, none]) rfl ?_ | skip
    refine q_asg (W := W3) (ew_pair (ew_add (ew_fst (ew_var (v := v_land) rfl h_land)) (ew_var (v := v_down) rfl h_down)) (ew_add (ew_snd (ew_var (v := v_land) rfl h_land)) (ew_var (v := v_right) rfl h_right))) g0.ok hm fun a4_beyond_land v_beyond_land W4 g4 h_beyond_land hm => ?_
    have h_chart := PyI.st g4.st h_chart
    have h_shore := PyI.st g4.st h_shore
    have h_land := PyI.st g4.st h_land
    have h_water := PyI.st g4.st h_water
    have h_down := PyI.st g4.st h_down
    have h_right := PyI.st g4.st h_right
    have g0 := g0.trans g4
    refine q_asg (W := W4) (ew_pair (ew_add (ew_fst (ew_var (v := v_water) rfl h_water)) (ew_var (v := v_down) rfl h_down)) (ew_add (ew_snd (ew_var (v := v_water) rfl h_water)) (ew_var (v := v_right) rfl h_right))) g0.ok hm fun a5_beyond_water v_beyond_water W5 g5 h_beyond_water hm => ?_
    have h_chart := PyI.st g5.st h_chart
    have h_shore := PyI.st g5.st h_shore
    have h_land := PyI.st g5.st h_land
    have h_water := PyI.st g5.st h_water
    have h_down := PyI.st g5.st h_down
    have h_right := PyI.st g5.st h_right
    have h_beyond_land := PyI.st g5.st h_beyond_land
    have g0 := g0.trans g5
    first | refine norm_st (σ' := [some v_chart, some v_shore, some v_land, some v_water, some v_down, some v_right, some v_beyond_land, some v_beyond_water]) rfl ?_ | skip
    refine q_if (W := W5) (et_not (et_B (ev_is_land (ew_var (v := v_chart) rfl h_chart) (ew_var (v := v_beyond_land) rfl h_beyond_land)))) g0.ok hm (fun W6 g6 hm => ?_) (fun W6 g6 hm => ?_)
    ·
      have h_chart := PyI.st g6.st h_chart
      have h_shore := PyI.st g6.st h_shore
      have h_land := PyI.st g6.st h_land
      have h_water := PyI.st g6.st h_water
      have h_down := PyI.st g6.st h_down
      have h_right := PyI.st g6.st h_right
      have h_beyond_land := PyI.st g6.st h_beyond_land
      have h_beyond_water := PyI.st g6.st h_beyond_water
      have g0 := g0.trans g6
      refine st_ret (W := W6) (ew_pair (ew_var (v := v_land) rfl h_land) (ew_var (v := v_beyond_land) rfl h_beyond_land)) g0.ok hm fun r7 v_ret W7 g7 hp hm => ?_
      exact hm v_ret W7 (g0.trans g7) rfl hp
    ·
      have h_chart := PyI.st g6.st h_chart
      have h_shore := PyI.st g6.st h_shore
      have h_land := PyI.st g6.st h_land
      have h_water := PyI.st g6.st h_water
      have h_down := PyI.st g6.st h_down
      have h_right := PyI.st g6.st h_right
      have h_beyond_land := PyI.st g6.st h_beyond_land
      have h_beyond_water := PyI.st g6.st h_beyond_water
      have g0 := g0.trans g6
      refine st_next ?_
      refine q_if (W := W6) (et_not (et_B (ev_is_land (ew_var (v := v_chart) rfl h_chart) (ew_var (v := v_beyond_water) rfl h_beyond_water)))) g0.ok hm (fun W8 g8 hm => ?_) (fun W8 g8 hm => ?_)
      ·
        have h_chart := PyI.st g8.st h_chart
        have h_shore := PyI.st g8.st h_shore
        have h_land := PyI.st g8.st h_land
        have h_water := PyI.st g8.st h_water
        have h_down := PyI.st g8.st h_down
        have h_right := PyI.st g8.st h_right
        have h_beyond_land := PyI.st g8.st h_beyond_land
        have h_beyond_water := PyI.st g8.st h_beyond_water
        have g0 := g0.trans g8
        refine st_ret (W := W8) (ew_pair (ew_var (v := v_beyond_land) rfl h_beyond_land) (ew_var (v := v_beyond_water) rfl h_beyond_water)) g0.ok hm fun r9 v_ret W9 g9 hp hm => ?_
        exact hm v_ret W9 (g0.trans g9) rfl hp
      ·
        have h_chart := PyI.st g8.st h_chart
        have h_shore := PyI.st g8.st h_shore
        have h_land := PyI.st g8.st h_land
        have h_water := PyI.st g8.st h_water
        have h_down := PyI.st g8.st h_down
        have h_right := PyI.st g8.st h_right
        have h_beyond_land := PyI.st g8.st h_beyond_land
        have h_beyond_water := PyI.st g8.st h_beyond_water
        have g0 := g0.trans g8
        refine st_next ?_
        refine st_ret (W := W8) (ew_pair (ew_var (v := v_beyond_water) rfl h_beyond_water) (ew_var (v := v_water) rfl h_water)) g0.ok hm fun r10 v_ret W10 g10 hp hm => ?_
        exact hm v_ret W10 (g0.trans g10) rfl hp
abbrev s_shores_from : Stmt := top 22
abbrev N_shores_from : List Str := ["chart", "start", "found", "shore"]
abbrev P_shores_from : List Str := ["chart", "start"]
theorem sc_shores_from : FnScope N_shores_from P_shores_from (defScope s_shores_from) := ⟨rfl, rfl, rfl, by decide +kernel, rfl, by decide +kernel, by decide +kernel⟩
def m_shores_from (a_chart : (List Str)) (a_start : (Sq × Sq)) : WP (List (Sq × Sq)) := (WP.row (WP.consE (WP.pure a_start) (WP.pure ([] : List (Sq × Sq))))).bind fun a1_found => (WP.b2 (WP.pure a_chart) (WP.pure a_start) m_next_shore).bind fun a2_shore => WP.after (WP.whilst (γ := (List (Sq × Sq))) (fun (y3 : (List (Sq × Sq)) × (Sq × Sq)) => (WP.neD (WP.pure y3.2) (WP.pure a_start))) (fun (y3 : (List (Sq × Sq)) × (Sq × Sq)) => ((WP.pure y3.2).bind fun a => WP.req (y3.1.length < 100000) (y3.1 ++ [a])).bind fun a4_found => (WP.b2 (WP.pure a_chart) (WP.pure y3.2) m_next_shore).bind fun a5_shore => (WP.pure (.nx (a4_found, a5_shore)))) (a1_found, a2_shore)) (fun (z3 : (List (Sq × Sq)) × (Sq × Sq)) => (WP.pure z3.1)) (fun r => (WP.pure r))
def sp_shores_from : Sp := fun vs H Q _ => ∃ (W : Wo) (a_chart : (List Str)) (a_start : (Sq × Sq)) (v_chart v_start : V), vs = [v_chart, v_start] ∧ W.H = H ∧ Good ef0 W ∧ Rp W a_chart v_chart ∧ Rp W a_start v_start ∧ (m_shores_from a_chart a_start).run W.n fun n r => ∀ v W', Gw ef0 W W' → W'.n = n → (sN (e := ef0) (kL (Sq × Sq))).post W W' r v → Q v W'.H
theorem ev_shores_from {e : Ef} {σ : L2.St} {W : Wo} {E : XK} {t0 t1 : TE} {w0 : WP (List Str)} {w1 : WP (Sq × Sq)} (h0 : EvW e t0 σ W sI w0) (h1 : EvW e t1 σ W sI w1) : EvW e (tCall sp_shores_from [] E (tCons t0 (tCons t1 tNil))) σ W (sN (kL (Sq × Sq))) (WP.b2 w0 w1 m_shores_from) := ew_call2N h0 h1 fun W2 b0 b1 x0 x1 g2 r0 r1 Q q E => by
  exact ⟨W2, b0, b1, x0, x1, rfl, rfl, g2.z, r0, r1, WP.mono _ (fun n c h v W3 g3 hn p => h v W3 (Gw.up g2 g3) hn (sN_up g2 p)) q⟩
theorem ok_shores_from (F : At K mg "shores_from" s_shores_from P_shores_from) (G : Glb mg) (H_next_shore : Has P w K mg base "next_shore" 3 P_next_shore sp_next_shore) : Has P w K mg base "shores_from" 4 P_shores_from sp_shores_from := by
  refine Has.of F sc_shores_from (fun vs H Q E h => ?_) (fun f cdv A outer s H0 vs Q E hr h => ?_)
  · obtain ⟨W0, a_chart, a_start, v_chart, v_start, rfl, _⟩ := h
    rfl
  · obtain ⟨W0, a_chart, a_start, v_chart, v_start, rfl, rfl, g00, h_chart, h_start, hm⟩ := h
    have sc := sc_shores_from
    have g0 := Gw.refl g00
    unfold m_shores_from at hm
    refine ⟨_, (pss_cons (ps_set (i := 2) sc.nd rfl (Or.inl rfl) (pe_lst (pa_cons (pv 1) pa_nil)))
      (pss_cons (ps_set (i := 3) sc.nd rfl (Or.inl rfl) (pe_user H_next_shore (hr.mono (by decide)) rfl (pa_cons (pv 0) (pa_cons (pv 1) pa_nil))))
      (pss_cons (ps_while PassesOwn.never (pt_cmpR (op_neD hr.units) (pv 3) (pv 1) (nomark _))
      (pss_cons (ps_expr (pe_bm PySem.F.plainAttrs_list PySem.F.slot_list_append PySem.F.type_list_append mt_append (pv 2) (pa_cons (pv 3) pa_nil)))
      (pss_one (ps_set (i := 3) sc.nd rfl (Or.inl rfl) (pe_user H_next_shore (hr.mono (by decide)) rfl (pa_cons (pv 0) (pa_cons (pv 3) pa_nil)))))))
      (pss_one (ps_ret (pv 2)))))), ?_⟩
    refine q_asg (W := W0) (ew_lst (eas_cons (ew_var (v := v_start) rfl h_start) (eas_nil (α := (Sq × Sq))))) g0.ok hm fun a1_found v_found W1 g1 ⟨fp_found, ho0_found, hf_found⟩ hm => ?_
    have hz_found : ∀ a ∈ fp_found, W0.H a = none := fun a m => g0.live a (hf_found a m).1
    have h_chart := PyI.st g1.st h_chart
    have h_start := PyI.st g1.st h_start
    have g0 := g0.trans g1
    have ho_found : Var (kL (Sq × Sq)) W0 W1 fp_found a1_found v_found := ⟨ho0_found, hz_found, fun b m => (hf_found b m).2.2⟩
    refine q_asg (W := W1) (ev_next_shore (ew_var (v := v_chart) rfl h_chart) (ew_var (v := v_start) rfl h_start)) g0.ok hm fun a2_shore v_shore W2 g2 h_shore hm => ?_
    have h_chart := PyI.st g2.st h_chart
    have h_start := PyI.st g2.st h_start
    have ho_found := ho_found.go g00 g2
    have g0 := g0.trans g2
    first | refine norm_st (σ' := [some v_chart, some v_start, some v_found, some v_shore]) rfl ?_ | skip
    refine q_while (W := W2) g0.ok hm (fun y σ' W' => ∃ (v_shore : V) (v_found : V) (fp_found : List Addr), σ' = [some v_chart, some v_start, some v_found, some v_shore] ∧ Gw ef0 W0 W' ∧ St W2 W' ∧ Var (kL (Sq × Sq)) W0 W' fp_found y.1 v_found ∧ Rp W' y.2 v_shore) ⟨v_shore, v_found, fp_found, rfl, g0, (St.refl _), ho_found, h_shore⟩ (fun y3 σi Wi3 hI => ?_) (fun z3 σi Wi3 hI hm => ?_)
    ·
      obtain ⟨v_shore, v_found, fp_found, rfl, g0, sl3, ho_found, h_shore⟩ := hI
      have h_chart := PyI.st sl3 h_chart
      have h_start := PyI.st sl3 h_start
      refine ⟨g0.ok, (et_t (ew_neD (ew_var (v := v_shore) rfl h_shore) (ew_var (v := v_start) rfl h_start))), fun W3 g3 => ?_⟩
      have h_chart := PyI.st g3.st h_chart
      have h_start := PyI.st g3.st h_start
      have ho_found := ho_found.go g00 g3
      have h_shore := PyI.st g3.st h_shore
      have sl3 := sl3.trans g3.st
      have g0 := g0.trans g3
      refine ⟨fun R3 nx3 hm kn3 kb3 kr3 => ?_, ⟨v_shore, v_found, fp_found, rfl, g0, sl3, ho_found, h_shore⟩⟩
      refine q_app (W := W3) g00 g0 rfl ho_found (ew_var (v := v_shore) rfl h_shore) hm fun a4_found W4_ W4 l_found el_found g4 s g02 kk ff ho_found hm => ?_
      have h_chart := PyI.st g4.st h_chart
      have h_start := PyI.st g4.st h_start
      have h_shore := PyI.st g4.st h_shore
      have sl3 := sl3.trans g4.st
      have g0 := g0.trans g4
      have h_chart := PyI.st s h_chart
      have h_start := PyI.st s h_start
      have h_shore := PyI.st s h_shore
      have sl3 := sl3.trans s
      have g0 := g02
      refine st_asg (W := W4) (ev_next_shore (ew_var (v := v_chart) rfl h_chart) (ew_var (v := v_shore) rfl h_shore)) g0.ok hm fun a5_shore v_shore W5 g5 h_shore hm => ?_
      have h_chart := PyI.st g5.st h_chart
      have h_start := PyI.st g5.st h_start
      have ho_found := ho_found.go g00 g5
      have sl3 := sl3.trans g5.st
      have g0 := g0.trans g5
      exact kn3 (a4_found, a5_shore) _ W5 ⟨v_shore, v_found, fp_found, rfl, g0, sl3, ho_found, h_shore⟩ hm
    ·
      obtain ⟨v_shore, v_found, fp_found, rfl, g0, sl3, ho_found, h_shore⟩ := hI
      have h_chart := PyI.st sl3 h_chart
      have h_start := PyI.st sl3 h_start
      exact ⟨_, rfl, hm _ Wi3 g0 rfl ⟨fp_found, ho_found.own, fun b m => ⟨ho_found.fr b m, Var.nS g00 ho_found b m, ho_found.nF b m⟩⟩⟩
abbrev s_lake_shores : Stmt := top 23
abbrev N_lake_shores : List Str := ["chart", "lake"]
abbrev P_lake_shores : List Str := ["chart", "lake"]
theorem sc_lake_shores : FnScope N_lake_shores P_lake_shores (defScope s_lake_shores) := ⟨rfl, rfl, rfl, by decide +kernel, rfl, by decide +kernel, by decide +kernel⟩
def m_lake_shores (a_chart : (List Str)) (a_lake : (List Sq)) : WP (List (Sq × Sq)) := (WP.b2 (WP.pure a_chart) (WP.pair (WP.b1 (WP.ix (WP.pure a_lake) (WP.pure (0 : Int))) m_above) (WP.ix (WP.pure a_lake) (WP.pure (0 : Int)))) m_shores_from).bind fun r1 => (WP.pure r1)
def sp_lake_shores : Sp := fun vs H Q _ => ∃ (W : Wo) (a_chart : (List Str)) (a_lake : (List Sq)) (v_chart v_lake : V), vs = [v_chart, v_lake] ∧ W.H = H ∧ Good ef0 W ∧ Rp W a_chart v_chart ∧ Rp W a_lake v_lake ∧ (m_lake_shores a_chart a_lake).run W.n fun n r => ∀ v W', Gw ef0 W W' → W'.n = n → (sN (e := ef0) (kL (Sq × Sq))).post W W' r v → Q v W'.H
theorem ev_lake_shores {e : Ef} {σ : L2.St} {W : Wo} {E : XK} {t0 t1 : TE} {w0 : WP (List Str)} {w1 : WP (List Sq)} (h0 : EvW e t0 σ W sI w0) (h1 : EvW e t1 σ W sI w1) : EvW e (tCall sp_lake_shores [] E (tCons t0 (tCons t1 tNil))) σ W (sN (kL (Sq × Sq))) (WP.b2 w0 w1 m_lake_shores) := ew_call2N h0 h1 fun W2 b0 b1 x0 x1 g2 r0 r1 Q q E => by
  exact ⟨W2, b0, b1, x0, x1, rfl, rfl, g2.z, r0, r1, WP.mono _ (fun n c h v W3 g3 hn p => h v W3 (Gw.up g2 g3) hn (sN_up g2 p)) q⟩
theorem ok_lake_shores (F : At K mg "lake_shores" s_lake_shores P_lake_shores) (G : Glb mg) (H_above : Has P w K mg base "above" 1 P_above sp_above) (H_shores_from : Has P w K mg base "shores_from" 4 P_shores_from sp_shores_from) : Has P w K mg base "lake_shores" 5 P_lake_shores sp_lake_shores := by
  refine Has.of F sc_lake_shores (fun vs H Q E h => ?_) (fun f cdv A outer s H0 vs Q E hr h => ?_)
  · obtain ⟨W0, a_chart, a_lake, v_chart, v_lake, rfl, _⟩ := h
    rfl
  · obtain ⟨W0, a_chart, a_lake, v_chart, v_lake, rfl, rfl, g00, h_chart, h_lake, hm⟩ := h
    have sc := sc_lake_shores
    have g0 := Gw.refl g00
    unfold m_lake_shores at hm
    refine ⟨_, (pss_one (ps_ret (pe_user H_shores_from (hr.mono (by decide)) rfl (pa_cons (pv 0) (pa_cons (pe_tup (pa_cons (pe_user H_above (hr.mono (by decide)) rfl (pa_cons (pe_ix ix_tup (pv 1) pe_int (fun _ _ => rfl)) pa_nil)) (pa_cons (pe_ix ix_tup (pv 1) pe_int (fun _ _ => rfl)) pa_nil))) pa_nil))))), ?_⟩
    refine st_ret (W := W0) (ev_shores_from (ew_var (v := v_chart) rfl h_chart) (ew_pair (ev_above (ew_ixT (ew_var (v := v_lake) rfl h_lake) ew_int)) (ew_ixT (ew_var (v := v_lake) rfl h_lake) ew_int))) g0.ok hm fun r1 v_ret W1 g1 hp hm => ?_
    exact hm v_ret W1 (g0.trans g1) rfl ((sN (kL (Sq × Sq))).back g0 hp)
abbrev s_is_margin : Stmt := top 25
abbrev N_is_margin : List Str := ["chart", "square"]
abbrev P_is_margin : List Str := ["chart", "square"]
theorem sc_is_margin : FnScope N_is_margin P_is_margin (defScope s_is_margin) := ⟨rfl, rfl, rfl, by decide +kernel, rfl, by decide +kernel, by decide +kernel⟩
def m_is_margin (a_chart : (List Str)) (a_square : Sq) : WP Bool := (WP.and (WP.b2 (WP.pure a_chart) (WP.pure a_square) m_is_near) (WP.not (WP.b2 (WP.pure a_chart) (WP.pure a_square) m_is_square))).bind fun r1 => (WP.pure r1)
def sp_is_margin : Sp := fun vs H Q _ => ∃ (W : Wo) (a_chart : (List Str)) (a_square : Sq) (v_chart v_square : V), vs = [v_chart, v_square] ∧ W.H = H ∧ Good ef0 W ∧ Rp W a_chart v_chart ∧ Rp W a_square v_square ∧ (m_is_margin a_chart a_square).run W.n fun n r => ∀ v W', Gw ef0 W W' → W'.n = n → (sI (e := ef0) (α := Bool)).post W W' r v → Q v W'.H
theorem ev_is_margin {e : Ef} {σ : L2.St} {W : Wo} {E : XK} {t0 t1 : TE} {w0 : WP (List Str)} {w1 : WP Sq} (h0 : EvW e t0 σ W sI w0) (h1 : EvW e t1 σ W sI w1) : EvW e (tCall sp_is_margin [] E (tCons t0 (tCons t1 tNil))) σ W (sI (α := Bool)) (WP.b2 w0 w1 m_is_margin) := ew_call2N h0 h1 fun W2 b0 b1 x0 x1 g2 r0 r1 Q q E => by
  exact ⟨W2, b0, b1, x0, x1, rfl, rfl, g2.z, r0, r1, WP.mono _ (fun n c h v W3 g3 hn p => h v W3 (Gw.up g2 g3) hn p) q⟩
theorem ok_is_margin (F : At K mg "is_margin" s_is_margin P_is_margin) (G : Glb mg) (H_is_near : Has P w K mg base "is_near" 1 P_is_near sp_is_near) (H_is_square : Has P w K mg base "is_square" 1 P_is_square sp_is_square) : Has P w K mg base "is_margin" 2 P_is_margin sp_is_margin := by
  refine Has.of F sc_is_margin (fun vs H Q E h => ?_) (fun f cdv A outer s H0 vs Q E hr h => ?_)
  · obtain ⟨W0, a_chart, a_square, v_chart, v_square, rfl, _⟩ := h
    rfl
  · obtain ⟨W0, a_chart, a_square, v_chart, v_square, rfl, rfl, g00, h_chart, h_square, hm⟩ := h
    have sc := sc_is_margin
    have g0 := Gw.refl g00
    unfold m_is_margin at hm
    refine ⟨_, (pss_one (ps_ret (pe_and (pe_user H_is_near (hr.mono (by decide)) rfl (pa_cons (pv 0) (pa_cons (pv 1) pa_nil))) (pe_one (pe_not (pe_user H_is_square (hr.mono (by decide)) rfl (pa_cons (pv 0) (pa_cons (pv 1) pa_nil)))))))), ?_⟩
    refine st_ret (W := W0) (ew_andV (ev_is_near (ew_var (v := v_chart) rfl h_chart) (ew_var (v := v_square) rfl h_square)) (ew_notV (ev_is_square (ew_var (v := v_chart) rfl h_chart) (ew_var (v := v_square) rfl h_square)))) g0.ok hm fun r1 v_ret W1 g1 hp hm => ?_
    exact hm v_ret W1 (g0.trans g1) rfl hp
abbrev s_way_to : Stmt := top 26
abbrev N_way_to : List Str := ["before", "goal", "way"]
abbrev P_way_to : List Str := ["before", "goal"]
theorem sc_way_to : FnScope N_way_to P_way_to (defScope s_way_to) := ⟨rfl, rfl, rfl, by decide +kernel, rfl, by decide +kernel, by decide +kernel⟩
def m_way_to (a_before : (List (Sq × (Option Sq)))) (a_goal : Sq) : WP (List Sq) := (WP.row (WP.consE (WP.pure a_goal) (WP.pure ([] : List Sq)))).bind fun a1_way => WP.after (WP.whilst (γ := (List Sq)) (fun (y2 : (List Sq)) => (WP.notN (WP.dget (WP.pure a_before) (WP.ix (WP.pure y2) (WP.neg (WP.pure (1 : Int))))))) (fun (y2 : (List Sq)) => ((WP.the (WP.dget (WP.pure a_before) (WP.ix (WP.pure y2) (WP.neg (WP.pure (1 : Int)))))).bind fun a => WP.req (y2.length < 100000) (y2 ++ [a])).bind fun a3_way => (WP.pure (.nx a3_way))) a1_way) (fun (z2 : (List Sq)) => ((WP.pure z2).bind fun xs => WP.pure xs.reverse).bind fun r4 => (WP.pure r4)) (fun r => (WP.pure r))
def sp_way_to : Sp := fun vs H Q _ => ∃ (W : Wo) (a_before : (List (Sq × (Option Sq)))) (a_goal : Sq) (v_before v_goal : V) (fp_before : List Addr), vs = [v_before, v_goal] ∧ W.H = H ∧ Good ef0 W ∧ (kDr (Option Sq)).own W fp_before a_before v_before ∧ (∀ a ∈ fp_before, ¬ ef0.S a) ∧ Rp W a_goal v_goal ∧ (m_way_to a_before a_goal).run W.n fun n r => ∀ v W', Gw ef0 W W' → W'.n = n → (sN (e := ef0) (kL Sq)).post W W' r v → Q v W'.H
theorem ev_way_to {e : Ef} {σ : L2.St} {W : Wo} {E : XK} {t0 t1 : TE} {w0 : WP (List (Sq × (Option Sq)))} {w1 : WP Sq} (h0 : EvW e t0 σ W (sR (kDr (Option Sq))) w0) (h1 : EvW e t1 σ W sI w1) : EvW e (tCall sp_way_to [] E (tCons t0 (tCons t1 tNil))) σ W (sN (kL Sq)) (WP.b2 w0 w1 m_way_to) := ew_call2N h0 h1 fun W2 b0 b1 x0 x1 g2 ⟨fp0, r0, s0⟩ r1 Q q E => by
  exact ⟨W2, b0, b1, x0, x1, fp0, rfl, rfl, g2.z, r0, fun _ _ z => z, r1, WP.mono _ (fun n c h v W3 g3 hn p => h v W3 (Gw.up g2 g3) hn (sN_up g2 p)) q⟩
theorem ok_way_to (F : At K mg "way_to" s_way_to P_way_to) (G : Glb mg)  : Has P w K mg base "way_to" 1 P_way_to sp_way_to := by
  refine Has.of F sc_way_to (fun vs H Q E h => ?_) (fun f cdv A outer s H0 vs Q E hr h => ?_)
  · obtain ⟨W0, a_before, a_goal, v_before, v_goal, fp_before, rfl, _⟩ := h
    rfl
  · obtain ⟨W0, a_before, a_goal, v_before, v_goal, fp_before, rfl, rfl, g00, hb_before, hS_before, h_goal, hm⟩ := h
    have sc := sc_way_to
    have g0 := Gw.refl g00
    have hl_before := (kDr (Option Sq)).live hb_before
    have hb0_before := hb_before
    unfold m_way_to at hm
    refine ⟨_, (pss_cons (ps_set (i := 2) sc.nd rfl (Or.inl rfl) (pe_lst (pa_cons (pv 1) pa_nil)))
      (pss_cons (ps_while PassesOwn.never (pt_cmp (pc_notN (pe_dget (hu_of hr) (pv 0) (pe_ix ix_list (pv 2) (pe_un un_neg pe_int) (fun _ _ => rfl)) (fun _ _ => rfl))))
      (pss_one (ps_expr (pe_bm PySem.F.plainAttrs_list PySem.F.slot_list_append PySem.F.type_list_append mt_append (pv 2) (pa_cons (pe_dget (hu_of hr) (pv 0) (pe_ix ix_list (pv 2) (pe_un un_neg pe_int) (fun _ _ => rfl)) (fun _ _ => rfl)) pa_nil)))))
      (pss_one (ps_ret (pe_revL (pv 2)))))), ?_⟩
    refine q_asg (W := W0) (ew_lst (eas_cons (ew_var (v := v_goal) rfl h_goal) (eas_nil (α := Sq)))) g0.ok hm fun a1_way v_way W1 g1 ⟨fp_way, ho0_way, hf_way⟩ hm => ?_
    have hz_way : ∀ a ∈ fp_way, W0.H a = none := fun a m => g0.live a (hf_way a m).1
    have hb_before := Kd.go g1 hS_before hb_before
    have h_goal := PyI.st g1.st h_goal
    have g0 := g0.trans g1
    have ho_way : Var (kL Sq) W0 W1 fp_way a1_way v_way := ⟨ho0_way, hz_way, fun b m => (hf_way b m).2.2⟩
    first | refine norm_st (σ' := [some v_before, some v_goal, some v_way]) rfl ?_ | skip
    refine q_while (W := W1) g0.ok hm (fun y σ' W' => ∃ (v_way : V) (fp_way : List Addr), σ' = [some v_before, some v_goal, some v_way] ∧ Gw ef0 W0 W' ∧ St W1 W' ∧ Var (kL Sq) W0 W' fp_way y v_way) ⟨v_way, fp_way, rfl, g0, (St.refl _), ho_way⟩ (fun y2 σi Wi2 hI => ?_) (fun z2 σi Wi2 hI hm => ?_)
    ·
      obtain ⟨v_way, fp_way, rfl, g0, sl2, ho_way⟩ := hI
      have hb_before := Kd.go g0 hS_before hb0_before
      have h_goal := PyI.st sl2 h_goal
      refine ⟨g0.ok, (et_B (ew_notN (ew_dget (ew_varR rfl hS_before hb_before) (ew_ixL (ew_varR (v := v_way) rfl (Var.nS g00 ho_way) ho_way.own) (ew_neg ew_int))))), fun W2 g2 => ?_⟩
      have hb_before := Kd.go g2 hS_before hb_before
      have h_goal := PyI.st g2.st h_goal
      have ho_way := ho_way.go g00 g2
      have sl2 := sl2.trans g2.st
      have g0 := g0.trans g2
      refine ⟨fun R2 nx2 hm kn2 kb2 kr2 => ?_, ⟨v_way, fp_way, rfl, g0, sl2, ho_way⟩⟩
      refine st_app (W := W2) g00 g0 rfl ho_way (ew_the (ew_dget (ew_varR rfl hS_before hb_before) (ew_ixL (ew_varR (v := v_way) rfl (Var.nS g00 ho_way) ho_way.own) (ew_neg ew_int)))) hm fun a3_way W3_ W3 l_way el_way g3 s g02 kk ff ho_way hm => ?_
      have hb_before := Kd.go g3 hS_before hb_before
      have h_goal := PyI.st g3.st h_goal
      have sl2 := sl2.trans g3.st
      have g0 := g0.trans g3
      have hb_before := Kd.st _ s (kk fp_before _ Kp.refl fun b m z => hl_before b m (ho_way.fr b z)) hb_before
      have h_goal := PyI.st s h_goal
      have sl2 := sl2.trans s
      have g0 := g02
      exact kn2 a3_way _ W3 ⟨v_way, fp_way, rfl, g0, sl2, ho_way⟩ hm
    ·
      obtain ⟨v_way, fp_way, rfl, g0, sl2, ho_way⟩ := hI
      have hb_before := Kd.go g0 hS_before hb0_before
      have h_goal := PyI.st sl2 h_goal
      refine st_ret (W := Wi2) (ew_revL (ew_varR (v := v_way) rfl (Var.nS g00 ho_way) ho_way.own)) g0.ok hm fun r4 v_ret W4 g4 hp hm => ?_
      exact hm v_ret W4 (g0.trans g4) rfl ((sN (kL Sq)).back g0 hp)
abbrev s_water_way : Stmt := top 27
abbrev N_water_way : List Str := ["chart", "square", "before", "other"]
abbrev P_water_way : List Str := ["chart", "square"]
theorem sc_water_way : FnScope N_water_way P_water_way (defScope s_water_way) := ⟨rfl, rfl, rfl, by decide +kernel, rfl, by decide +kernel, by decide +kernel⟩
def m_water_way (a_chart : (List Str)) (a_square : Sq) : WP (Option (Ls Sq)) := (WP.b3 (WP.pure a_chart) (WP.pure a_square) (WP.pure m_water_steps) m_met_from).bind fun a1_before => (WP.pure (⟨a1_before⟩ : (Fd (Option Sq)))).bind fun a2_before => ((WP.pure a2_before).bind fun x => WP.pure (x.kvs.map (·.1))).bind fun xs3 => WP.after (WP.loop (γ := (Option (Ls Sq))) (fun c3 (y3 : Unit) => (WP.b2 (WP.pure a_chart) (WP.pure c3) m_is_margin).bind fun b => WP.cond b ((WP.some' ((WP.b2 ((WP.pure a2_before).bind fun x => WP.pure x.kvs) (WP.pure c3) m_way_to).bind fun xs => WP.pure (⟨xs⟩ : (Ls Sq)))).bind fun r5 => (WP.pure (.rt r5))) ((WP.pure (.nx ())))) xs3 ()) (fun (z3 : Unit) => (WP.pure (none : (Option (Ls Sq)))).bind fun r6 => (WP.pure r6)) (fun r => (WP.pure r))
def sp_water_way : Sp := fun vs H Q _ => ∃ (W : Wo) (a_chart : (List Str)) (a_square : Sq) (v_chart v_square : V), vs = [v_chart, v_square] ∧ W.H = H ∧ Good ef0 W ∧ Rp W a_chart v_chart ∧ Rp W a_square v_square ∧ (m_water_way a_chart a_square).run W.n fun n r => ∀ v W', Gw ef0 W W' → W'.n = n → (sI (e := ef0) (α := (Option (Ls Sq)))).post W W' r v → Q v W'.H
theorem ev_water_way {e : Ef} {σ : L2.St} {W : Wo} {E : XK} {t0 t1 : TE} {w0 : WP (List Str)} {w1 : WP Sq} (h0 : EvW e t0 σ W sI w0) (h1 : EvW e t1 σ W sI w1) : EvW e (tCall sp_water_way [] E (tCons t0 (tCons t1 tNil))) σ W (sI (α := (Option (Ls Sq)))) (WP.b2 w0 w1 m_water_way) := ew_call2N h0 h1 fun W2 b0 b1 x0 x1 g2 r0 r1 Q q E => by
  exact ⟨W2, b0, b1, x0, x1, rfl, rfl, g2.z, r0, r1, WP.mono _ (fun n c h v W3 g3 hn p => h v W3 (Gw.up g2 g3) hn p) q⟩
theorem ok_water_way (F : At K mg "water_way" s_water_way P_water_way) (G : Glb mg) (H_is_margin : Has P w K mg base "is_margin" 2 P_is_margin sp_is_margin) (H_met_from : Has P w K mg base "met_from" 5 P_met_from (sp_met_from P w K mg base)) (H_water_steps : Has P w K mg base "water_steps" 4 P_water_steps sp_water_steps) (H_way_to : Has P w K mg base "way_to" 1 P_way_to sp_way_to) : Has P w K mg base "water_way" 6 P_water_way sp_water_way := by
  refine Has.of F sc_water_way (fun vs H Q E h => ?_) (fun f cdv A outer s H0 vs Q E hr h => ?_)
  · obtain ⟨W0, a_chart, a_square, v_chart, v_square, rfl, _⟩ := h
    rfl
  · obtain ⟨W0, a_chart, a_square, v_chart, v_square, rfl, rfl, g00, h_chart, h_square, hm⟩ := h
    have sc := sc_water_way
    have g0 := Gw.refl g00
    obtain ⟨f_water_steps, fd_water_steps, hm_water_steps, hk_water_steps, hb_water_steps, hF_water_steps⟩ := id H_water_steps
    unfold m_water_way at hm
    refine ⟨_, (pss_cons (ps_set (i := 2) sc.nd rfl (Or.inl rfl) (pe_user H_met_from (hr.mono (by decide)) rfl (pa_cons (pv 0) (pa_cons (pv 1) (pa_cons (pe_glob (v := .ref f_water_steps) rfl hm_water_steps rfl) pa_nil)))))
      (pss_cons (ps_frz (ps_for PassesOwn.never rfl (pi_keys (pv 2)) (pg_name (i := 3) sc.nd rfl (Or.inl rfl))
      (pss_one (ps_if (pt_val (pe_user H_is_margin (hr.mono (by decide)) rfl (pa_cons (pv 0) (pa_cons (pv 3) pa_nil)))) (pss_one (ps_ret (pe_user H_way_to (hr.mono (by decide)) rfl (pa_cons (pv 2) (pa_cons (pv 3) pa_nil))))) pss_nil))))
      (pss_one (ps_ret pe_non)))), ?_⟩
    refine q_asg (W := W0) (ev_met_from (ew_var (v := v_chart) rfl h_chart) (ew_var (v := v_square) rfl h_square) ew_fn ⟨⟨fd_water_steps, _, hF_water_steps.mono (by decide), hk_water_steps, hb_water_steps⟩⟩) g0.ok hm fun a1_before v_before W1 g1 ⟨fp_before, ho0_before, hf_before⟩ hm => ?_
    have hz_before : ∀ a ∈ fp_before, W0.H a = none := fun a m => g0.live a (hf_before a m).1
    have h_chart := PyI.st g1.st h_chart
    have h_square := PyI.st g1.st h_square
    have g0 := g0.trans g1
    have ho_before : Var (kD (Option Sq)) W0 W1 fp_before a1_before v_before := ⟨ho0_before, hz_before, fun b m => (hf_before b m).2.2⟩
    refine q_frzd (W := W1) g00 g0 ho_before hm fun a2_before W2 s g02 kk kv h_before hm => ?_
    have h_chart := PyI.st s h_chart
    have h_square := PyI.st s h_square
    have g0 := g02
    refine q_for0 (W := W2) tk_N (src_K (ew_var (v := v_before) rfl h_before)) g0.ok hm fun xs3 W3 g3 => ?_
    have h_chart := PyI.st g3.st h_chart
    have h_square := PyI.st g3.st h_square
    have h_before := PyI.st g3.st h_before
    have g0 := g0.trans g3
    refine ⟨fun y σ' W' => ∃ (o_other : Option V), σ' = [some v_chart, some v_square, some v_before, o_other] ∧ Gw ef0 W0 W' ∧ St W3 W', ⟨_, rfl, g0, (St.refl _)⟩, fun _ _ _ hI => ?_, fun c3 y3 σi s2 Wi3 R3 nx3 ht hI hm kn3 kb3 kr3 => ?_, fun z3 σi Wi3 hI hm => ?_⟩
    · obtain ⟨o_other, rfl, g0, sl3⟩ := hI
      exact sl3
    ·
      obtain ⟨o_other, rfl, g0, sl3⟩ := hI
      have h_chart := PyI.st sl3 h_chart
      have h_square := PyI.st sl3 h_square
      have h_before := PyI.st sl3 h_before
      obtain ⟨v_other, rfl, h_other⟩ := ht
      refine st_if (W := Wi3) (et_B (ev_is_margin (ew_var (v := v_chart) rfl h_chart) (ew_var (v := v_other) rfl h_other))) g0.ok hm (fun W4 g4 hm => ?_) (fun W4 g4 hm => ?_)
      ·
        have h_chart := PyI.st g4.st h_chart
        have h_square := PyI.st g4.st h_square
        have h_before := PyI.st g4.st h_before
        have h_other := PyI.st g4.st h_other
        have sl3 := sl3.trans g4.st
        have g0 := g0.trans g4
        refine st_ret (W := W4) (ew_some' (ew_frz (ev_way_to (ew_fd (ew_var (v := v_before) rfl h_before)) (ew_var (v := v_other) rfl h_other)))) g0.ok hm fun r5 v_ret W5 g5 hp hm => ?_
        have hm := kr3 _ _ hm
        exact hm v_ret W5 (g0.trans g5) rfl hp
      ·
        have h_chart := PyI.st g4.st h_chart
        have h_square := PyI.st g4.st h_square
        have h_before := PyI.st g4.st h_before
        have h_other := PyI.st g4.st h_other
        have sl3 := sl3.trans g4.st
        have g0 := g0.trans g4
        refine st_next ?_
        exact kn3 () _ W4 ⟨_, rfl, g0, sl3⟩ hm
    ·
      obtain ⟨o_other, rfl, g0, sl3⟩ := hI
      have h_chart := PyI.st sl3 h_chart
      have h_square := PyI.st sl3 h_square
      have h_before := PyI.st sl3 h_before
      refine st_ret (W := Wi3) (ew_nonO (α := (Ls Sq))) g0.ok hm fun r6 v_ret W6 g6 hp hm => ?_
      exact hm v_ret W6 (g0.trans g6) rfl hp
abbrev s_without_repeats : Stmt := top 29
abbrev N_without_repeats : List Str := ["squares", "at"]
abbrev P_without_repeats : List Str := ["squares"]
theorem sc_without_repeats : FnScope N_without_repeats P_without_repeats (defScope s_without_repeats) := ⟨rfl, rfl, rfl, by decide +kernel, rfl, by decide +kernel, by decide +kernel⟩
def m_without_repeats (a_squares : (List Sq)) : WP (List Sq) := (WP.lc (WP.range1 (WP.len (WP.pure a_squares))) (fun c1 => (WP.neD (WP.ix (WP.pure a_squares) (WP.pure c1)) (WP.ix (WP.pure a_squares) (WP.sub (WP.pure c1) (WP.pure (1 : Int)))))) (fun c1 => (WP.ix (WP.pure a_squares) (WP.pure c1)))).bind fun r1 => (WP.pure r1)
def sp_without_repeats : Sp := fun vs H Q _ => ∃ (W : Wo) (a_squares : (List Sq)) (v_squares : V) (fp_squares : List Addr), vs = [v_squares] ∧ W.H = H ∧ Good ef0 W ∧ (kL Sq).own W fp_squares a_squares v_squares ∧ (∀ a ∈ fp_squares, ¬ ef0.S a) ∧ (m_without_repeats a_squares).run W.n fun n r => ∀ v W', Gw ef0 W W' → W'.n = n → (sN (e := ef0) (kL Sq)).post W W' r v → Q v W'.H
theorem ev_without_repeats {e : Ef} {σ : L2.St} {W : Wo} {E : XK} {t0 : TE} {w0 : WP (List Sq)} (h0 : EvW e t0 σ W (sR (kL Sq)) w0) : EvW e (tCall sp_without_repeats [] E (tCons t0 tNil)) σ W (sN (kL Sq)) (WP.b1 w0 m_without_repeats) := ew_call1N h0 fun W2 b0 x0 g2 ⟨fp0, r0, s0⟩ Q q E => by
  exact ⟨W2, b0, x0, fp0, rfl, rfl, g2.z, r0, fun _ _ z => z, WP.mono _ (fun n c h v W3 g3 hn p => h v W3 (Gw.up g2 g3) hn (sN_up g2 p)) q⟩
theorem ok_without_repeats (F : At K mg "without_repeats" s_without_repeats P_without_repeats) (G : Glb mg)  : Has P w K mg base "without_repeats" 1 P_without_repeats sp_without_repeats := by
  refine Has.of F sc_without_repeats (fun vs H Q E h => ?_) (fun f cdv A outer s H0 vs Q E hr h => ?_)
  · obtain ⟨W0, a_squares, v_squares, fp_squares, rfl, _⟩ := h
    rfl
  · obtain ⟨W0, a_squares, v_squares, fp_squares, rfl, rfl, g00, hb_squares, hS_squares, hm⟩ := h
    have sc := sc_without_repeats
    have g0 := Gw.refl g00
    have hl_squares := (kL Sq).live hb_squares
    have hb0_squares := hb_squares
    unfold m_without_repeats at hm
    refine ⟨_, (pss_one (ps_ret (pe_lc (own := [("at", 1)]) (g := gName 1) rfl sc.nd (pi_range1 rfl G.range (pa_cons (pe_callB call_len_seq (by rfl) G.len PySem.boot_len (pa_cons (pv 0) pa_nil)) pa_nil)) (blkOk_by (N := N_without_repeats) (sc := defScope s_without_repeats) (by decide +kernel)) (fun _ _ _ _ _ => (pg_name (i := 1) sc.nd rfl (Or.inl rfl))) (fun _ _ _ _ _ => (pts_one (pt_cmpR (op_neDK (K := K) rfl hr.units) (pe_ix (ix_listK (K := K) rfl) (pv 0) (pv 1) (fun _ _ => rfl)) (pe_ix (ix_listK (K := K) rfl) (pv 0) (pe_op op_sub (pv 1) pe_int) (fun _ _ => rfl)) (nomark _)))) (fun _ _ _ _ _ => (pe_ix (ix_listK (K := K) rfl) (pv 0) (pv 1) (fun _ _ => rfl)))))), ?_⟩
    refine st_ret (W := W0) (ew_lcR (ew_lenL (ew_varR rfl hS_squares hb_squares)) takes_N (fun _ _ _ h => by obtain ⟨v_at, ec, h_at⟩ := h; subst ec; rfl) (fun c1 Wc1 s2 gc1 h => by obtain ⟨v_at, ec, h_at⟩ := h; subst ec; have hb_squares := Kd.go gc1 hS_squares hb_squares; exact (et_t (ew_neD (ew_ixL (ew_varR rfl hS_squares hb_squares) (ew_var (v := v_at) rfl h_at)) (ew_ixL (ew_varR rfl hS_squares hb_squares) (ew_sub (ew_var (v := v_at) rfl h_at) ew_int))))) (fun c1 Wc1 s2 gc1 h => by obtain ⟨v_at, ec, h_at⟩ := h; subst ec; have hb_squares := Kd.go gc1 hS_squares hb_squares; exact (ew_ixL (ew_varR rfl hS_squares hb_squares) (ew_var (v := v_at) rfl h_at)))) g0.ok hm fun r1 v_ret W1 g1 hp hm => ?_
    exact hm v_ret W1 (g0.trans g1) rfl ((sN (kL Sq)).back g0 hp)
abbrev s_ring_holding : Stmt := top 30
abbrev N_ring_holding : List Str := ["chart", "lake", "shores", "squares", "at", "last", "last_water", "land", "water"]
abbrev P_ring_holding : List Str := ["chart", "lake"]
theorem sc_ring_holding : FnScope N_ring_holding P_ring_holding (defScope s_ring_holding) := ⟨rfl, rfl, rfl, by decide +kernel, rfl, by decide +kernel, by decide +kernel⟩
def m_ring_holding (a_chart : (List Str)) (a_lake : (List Sq)) : WP (List Sq) := (WP.b2 (WP.pure a_chart) (WP.pure a_lake) m_lake_shores).bind fun a1_shores => (WP.row (WP.pure ([] : List Sq))).bind fun a2_squares => (WP.range1 (WP.len (WP.pure a1_shores))).bind fun xs3 => WP.after (WP.loop (γ := (List Sq)) (fun c3 (y3 : (List Sq)) => (WP.ix (WP.pure a1_shores) (WP.sub (WP.pure c3) (WP.pure (1 : Int)))).bind fun a4_last_last_water => (WP.ix (WP.pure a1_shores) (WP.pure c3)).bind fun a5_land_water => ((WP.eqD (WP.pure a5_land_water.2) (WP.pure a4_last_last_water.2)).bind fun b => WP.cond b (((WP.pair (WP.sub (WP.add (WP.fst (WP.pure a4_last_last_water.1)) (WP.fst (WP.pure a5_land_water.1))) (WP.fst (WP.pure a5_land_water.2))) (WP.sub (WP.add (WP.snd (WP.pure a4_last_last_water.1)) (WP.snd (WP.pure a5_land_water.1))) (WP.snd (WP.pure a5_land_water.2)))).bind fun a => WP.req (y3.length < 100000) (y3 ++ [a])).bind fun a8_squares => (WP.pure a8_squares)) ((WP.pure y3))).bind fun (y6 : (List Sq)) => ((WP.pure a5_land_water.1).bind fun a => WP.req (y6.length < 100000) (y6 ++ [a])).bind fun a7_squares => (WP.pure (.nx a7_squares))) xs3 a2_squares) (fun (z3 : (List Sq)) => (WP.b1 (WP.pure z3) m_without_repeats).bind fun r9 => (WP.pure r9)) (fun r => (WP.pure r))
def sp_ring_holding : Sp := fun vs H Q _ => ∃ (W : Wo) (a_chart : (List Str)) (a_lake : (List Sq)) (v_chart v_lake : V), vs = [v_chart, v_lake] ∧ W.H = H ∧ Good ef0 W ∧ Rp W a_chart v_chart ∧ Rp W a_lake v_lake ∧ (m_ring_holding a_chart a_lake).run W.n fun n r => ∀ v W', Gw ef0 W W' → W'.n = n → (sN (e := ef0) (kL Sq)).post W W' r v → Q v W'.H
theorem ev_ring_holding {e : Ef} {σ : L2.St} {W : Wo} {E : XK} {t0 t1 : TE} {w0 : WP (List Str)} {w1 : WP (List Sq)} (h0 : EvW e t0 σ W sI w0) (h1 : EvW e t1 σ W sI w1) : EvW e (tCall sp_ring_holding [] E (tCons t0 (tCons t1 tNil))) σ W (sN (kL Sq)) (WP.b2 w0 w1 m_ring_holding) := ew_call2N h0 h1 fun W2 b0 b1 x0 x1 g2 r0 r1 Q q E => by
  exact ⟨W2, b0, b1, x0, x1, rfl, rfl, g2.z, r0, r1, WP.mono _ (fun n c h v W3 g3 hn p => h v W3 (Gw.up g2 g3) hn (sN_up g2 p)) q⟩
theorem ok_ring_holding (F : At K mg "ring_holding" s_ring_holding P_ring_holding) (G : Glb mg) (H_lake_shores : Has P w K mg base "lake_shores" 5 P_lake_shores sp_lake_shores) (H_without_repeats : Has P w K mg base "without_repeats" 1 P_without_repeats sp_without_repeats) : Has P w K mg base "ring_holding" 6 P_ring_holding sp_ring_holding := by
  refine Has.of F sc_ring_holding (fun vs H Q E h => ?_) (fun f cdv A outer s H0 vs Q E hr h => ?_)
  · obtain ⟨W0, a_chart, a_lake, v_chart, v_lake, rfl, _⟩ := h
    rfl
  · obtain ⟨W0, a_chart, a_lake, v_chart, v_lake, rfl, rfl, g00, h_chart, h_lake, hm⟩ := h
    have sc := sc_ring_holding
    have g0 := Gw.refl g00
    unfold m_ring_holding at hm
    refine ⟨_, (pss_cons (ps_set (i := 2) sc.nd rfl (Or.inl rfl) (pe_user H_lake_shores (hr.mono (by decide)) rfl (pa_cons (pv 0) (pa_cons (pv 1) pa_nil))))
      (pss_cons (ps_set (i := 3) sc.nd rfl (Or.inl rfl) (pe_lst pa_nil))
      (pss_cons (ps_for PassesOwn.never rfl (pi_range1 rfl G.range (pa_cons (pe_callB call_len_seq (by rfl) G.len PySem.boot_len (pa_cons (pv 2) pa_nil)) pa_nil)) (pg_name (i := 4) sc.nd rfl (Or.inl rfl))
      (pss_cons (ps_asg (pe_ix ix_list (pv 2) (pe_op op_sub (pv 4) pe_int) (fun _ _ => rfl)) (pg_tup rfl (pgs_cons (pg_name (i := 5) sc.nd rfl (Or.inl rfl)) (pgs_cons (pg_name (i := 6) sc.nd rfl (Or.inl rfl)) pgs_nil))))
      (pss_cons (ps_asg (pe_ix ix_list (pv 2) (pv 4) (fun _ _ => rfl)) (pg_tup rfl (pgs_cons (pg_name (i := 7) sc.nd rfl (Or.inl rfl)) (pgs_cons (pg_name (i := 8) sc.nd rfl (Or.inl rfl)) pgs_nil))))
      (pss_cons (ps_if (pt_cmpR (op_eqD hr.units) (pv 8) (pv 6) (nomark _)) (pss_one (ps_expr (pe_bm PySem.F.plainAttrs_list PySem.F.slot_list_append PySem.F.type_list_append mt_append (pv 3) (pa_cons (pe_tup (pa_cons (pe_op op_sub (pe_op op_add (pe_ix ix_tup (pv 5) pe_int (fun _ _ => rfl)) (pe_ix ix_tup (pv 7) pe_int (fun _ _ => rfl))) (pe_ix ix_tup (pv 8) pe_int (fun _ _ => rfl))) (pa_cons (pe_op op_sub (pe_op op_add (pe_ix ix_tup (pv 5) pe_int (fun _ _ => rfl)) (pe_ix ix_tup (pv 7) pe_int (fun _ _ => rfl))) (pe_ix ix_tup (pv 8) pe_int (fun _ _ => rfl))) pa_nil))) pa_nil)))) pss_nil)
      (pss_one (ps_expr (pe_bm PySem.F.plainAttrs_list PySem.F.slot_list_append PySem.F.type_list_append mt_append (pv 3) (pa_cons (pv 7) pa_nil))))))))
      (pss_one (ps_ret (pe_user H_without_repeats (hr.mono (by decide)) rfl (pa_cons (pv 3) pa_nil))))))), ?_⟩
    refine q_asg (W := W0) (ev_lake_shores (ew_var (v := v_chart) rfl h_chart) (ew_var (v := v_lake) rfl h_lake)) g0.ok hm fun a1_shores v_shores W1 g1 ⟨fp_shores, ho0_shores, hf_shores⟩ hm => ?_
    have hz_shores : ∀ a ∈ fp_shores, W0.H a = none := fun a m => g0.live a (hf_shores a m).1
    have h_chart := PyI.st g1.st h_chart
    have h_lake := PyI.st g1.st h_lake
    have g0 := g0.trans g1
    have ho_shores : Var (kL (Sq × Sq)) W0 W1 fp_shores a1_shores v_shores := ⟨ho0_shores, hz_shores, fun b m => (hf_shores b m).2.2⟩
    first | refine norm_st (σ' := [some v_chart, some v_lake, some v_shores, none, none, none, none, none, none]) rfl ?_ | skip
    refine q_asg (W := W1) (ew_lst (eas_nil (α := Sq))) g0.ok hm fun a2_squares v_squares W2 g2 ⟨fp_squares, ho0_squares, hf_squares⟩ hm => ?_
    have dj_shores_squares : ∀ b ∈ fp_shores, b ∉ fp_squares := fun b m z => (kL (Sq × Sq)).live ho_shores.own b m (hf_squares b z).1
    have hz_squares : ∀ a ∈ fp_squares, W0.H a = none := fun a m => g0.live a (hf_squares a m).1
    have h_chart := PyI.st g2.st h_chart
    have h_lake := PyI.st g2.st h_lake
    have ho_shores := ho_shores.go g00 g2
    have g0 := g0.trans g2
    have ho_squares : Var (kL Sq) W0 W2 fp_squares a2_squares v_squares := ⟨ho0_squares, hz_squares, fun b m => (hf_squares b m).2.2⟩
    refine q_forR1 (W := W2) (ew_lenL (ew_varR (v := v_shores) rfl (Var.nS g00 ho_shores) ho_shores.own)) g0.ok hm fun W3 g3 => ?_
    have h_chart := PyI.st g3.st h_chart
    have h_lake := PyI.st g3.st h_lake
    have ho_shores := ho_shores.go g00 g3
    have ho_squares := ho_squares.go g00 g3
    have g0 := g0.trans g3
    refine ⟨fun y σ' W' => ∃ (v_squares : V) (fp_squares : List Addr) (o_at : Option V) (o_last : Option V) (o_last_water : Option V) (o_land : Option V) (o_water : Option V), σ' = [some v_chart, some v_lake, some v_shores, some v_squares, o_at, o_last, o_last_water, o_land, o_water] ∧ Gw ef0 W0 W' ∧ St W3 W' ∧ Var (kL Sq) W0 W' fp_squares y v_squares ∧ Var (kL (Sq × Sq)) W0 W' fp_shores a1_shores v_shores ∧ (∀ b ∈ fp_shores, b ∉ fp_squares), ⟨v_squares, fp_squares, _, _, _, _, _, rfl, g0, (St.refl _), ho_squares, ho_shores, dj_shores_squares⟩, fun c3 y3 σi s2 Wi3 R3 nx3 ht hI hm kn3 kb3 kr3 => ?_, fun z3 σi Wi3 hI hm => ?_⟩
    ·
      obtain ⟨v_squares, fp_squares, o_at, o_last, o_last_water, o_land, o_water, rfl, g0, sl3, ho_squares, ho_shores, dj_shores_squares⟩ := hI
      have h_chart := PyI.st sl3 h_chart
      have h_lake := PyI.st sl3 h_lake
      obtain ⟨v_at, rfl, h_at⟩ := ht
      refine q_un2 (W := Wi3) (ew_ixL (ew_varR (v := v_shores) rfl (Var.nS g00 ho_shores) ho_shores.own) (ew_sub (ew_var (v := v_at) rfl h_at) ew_int)) g0.ok hm fun a4_last_last_water v_last v_last_water W4 g4 h_last h_last_water hm => ?_
      have h_chart := PyI.st g4.st h_chart
      have h_lake := PyI.st g4.st h_lake
      have ho_shores := ho_shores.go g00 g4
      have ho_squares := ho_squares.go g00 g4
      have h_at := PyI.st g4.st h_at
      have sl3 := sl3.trans g4.st
      have g0 := g0.trans g4
      first | refine norm_st (σ' := [some v_chart, some v_lake, some v_shores, some v_squares, some v_at, some v_last, some v_last_water, o_land, o_water]) rfl ?_ | skip
      refine q_un2 (W := W4) (ew_ixL (ew_varR (v := v_shores) rfl (Var.nS g00 ho_shores) ho_shores.own) (ew_var (v := v_at) rfl h_at)) g0.ok hm fun a5_land_water v_land v_water W5 g5 h_land h_water hm => ?_
      have h_chart := PyI.st g5.st h_chart
      have h_lake := PyI.st g5.st h_lake
      have ho_shores := ho_shores.go g00 g5
      have ho_squares := ho_squares.go g00 g5
      have h_at := PyI.st g5.st h_at
      have h_last := PyI.st g5.st h_last
      have h_last_water := PyI.st g5.st h_last_water
      have sl3 := sl3.trans g5.st
      have g0 := g0.trans g5
      first | refine norm_st (σ' := [some v_chart, some v_lake, some v_shores, some v_squares, some v_at, some v_last, some v_last_water, some v_land, some v_water]) rfl ?_ | skip
      refine q_join (W := W5) (s := (List Sq)) (fun y σ' W' => ∃ (v_squares : V) (fp_squares : List Addr), σ' = [some v_chart, some v_lake, some v_shores, some v_squares, some v_at, some v_last, some v_last_water, some v_land, some v_water] ∧ Gw ef0 W0 W' ∧ St W5 W' ∧ Var (kL Sq) W0 W' fp_squares y v_squares ∧ Var (kL (Sq × Sq)) W0 W' fp_shores a1_shores v_shores ∧ (∀ b ∈ fp_shores, b ∉ fp_squares)) (et_t (ew_eqD (ew_var (v := v_water) rfl h_water) (ew_var (v := v_last_water) rfl h_last_water))) g0.ok hm (fun y6 σj Wj6 hI hm => ?_) (fun W6 R6 g6 hm kj => ?_) (fun W6 R6 g6 hm kj => ?_)
      ·
        obtain ⟨v_squares, fp_squares, rfl, g0, sj6, ho_squares, ho_shores, dj_shores_squares⟩ := hI
        have h_chart := PyI.st sj6 h_chart
        have h_lake := PyI.st sj6 h_lake
        have h_at := PyI.st sj6 h_at
        have h_last := PyI.st sj6 h_last
        have h_last_water := PyI.st sj6 h_last_water
        have h_land := PyI.st sj6 h_land
        have h_water := PyI.st sj6 h_water
        have sl3 := sl3.trans sj6
        refine st_app (W := Wj6) g00 g0 rfl ho_squares (ew_var (v := v_land) rfl h_land) hm fun a7_squares W7_ W7 l_squares el_squares g7 s g02 kk ff ho_squares hm => ?_
        have h_chart := PyI.st g7.st h_chart
        have h_lake := PyI.st g7.st h_lake
        have ho_shores := ho_shores.go g00 g7
        have h_at := PyI.st g7.st h_at
        have h_last := PyI.st g7.st h_last
        have h_last_water := PyI.st g7.st h_last_water
        have h_land := PyI.st g7.st h_land
        have h_water := PyI.st g7.st h_water
        have sl3 := sl3.trans g7.st
        have g0 := g0.trans g7
        have h_chart := PyI.st s h_chart
        have h_lake := PyI.st s h_lake
        have ho_shores := ho_shores.kept s kk ff dj_shores_squares
        have h_at := PyI.st s h_at
        have h_last := PyI.st s h_last
        have h_last_water := PyI.st s h_last_water
        have h_land := PyI.st s h_land
        have h_water := PyI.st s h_water
        have sl3 := sl3.trans s
        have g0 := g02
        exact kn3 a7_squares _ W7 ⟨v_squares, fp_squares, _, _, _, _, _, rfl, g0, sl3, ho_squares, ho_shores, dj_shores_squares⟩ hm
      ·
        have h_chart := PyI.st g6.st h_chart
        have h_lake := PyI.st g6.st h_lake
        have ho_shores := ho_shores.go g00 g6
        have ho_squares := ho_squares.go g00 g6
        have h_at := PyI.st g6.st h_at
        have h_last := PyI.st g6.st h_last
        have h_last_water := PyI.st g6.st h_last_water
        have h_land := PyI.st g6.st h_land
        have h_water := PyI.st g6.st h_water
        have sl3 := sl3.trans g6.st
        have g0 := g0.trans g6
        have sj6 := g6.st
        refine st_app (W := W6) g00 g0 rfl ho_squares (ew_pair (ew_sub (ew_add (ew_fst (ew_var (v := v_last) rfl h_last)) (ew_fst (ew_var (v := v_land) rfl h_land))) (ew_fst (ew_var (v := v_water) rfl h_water))) (ew_sub (ew_add (ew_snd (ew_var (v := v_last) rfl h_last)) (ew_snd (ew_var (v := v_land) rfl h_land))) (ew_snd (ew_var (v := v_water) rfl h_water)))) hm fun a8_squares W8_ W8 l_squares el_squares g8 s g02 kk ff ho_squares hm => ?_
        have h_chart := PyI.st g8.st h_chart
        have h_lake := PyI.st g8.st h_lake
        have ho_shores := ho_shores.go g00 g8
        have h_at := PyI.st g8.st h_at
        have h_last := PyI.st g8.st h_last
        have h_last_water := PyI.st g8.st h_last_water
        have h_land := PyI.st g8.st h_land
        have h_water := PyI.st g8.st h_water
        have sl3 := sl3.trans g8.st
        have sj6 := sj6.trans g8.st
        have g0 := g0.trans g8
        have h_chart := PyI.st s h_chart
        have h_lake := PyI.st s h_lake
        have ho_shores := ho_shores.kept s kk ff dj_shores_squares
        have h_at := PyI.st s h_at
        have h_last := PyI.st s h_last
        have h_last_water := PyI.st s h_last_water
        have h_land := PyI.st s h_land
        have h_water := PyI.st s h_water
        have sl3 := sl3.trans s
        have sj6 := sj6.trans s
        have g0 := g02
        exact kj a8_squares _ W8 ⟨v_squares, fp_squares, rfl, g0, sj6, ho_squares, ho_shores, dj_shores_squares⟩ hm
      ·
        have h_chart := PyI.st g6.st h_chart
        have h_lake := PyI.st g6.st h_lake
        have ho_shores := ho_shores.go g00 g6
        have ho_squares := ho_squares.go g00 g6
        have h_at := PyI.st g6.st h_at
        have h_last := PyI.st g6.st h_last
        have h_last_water := PyI.st g6.st h_last_water
        have h_land := PyI.st g6.st h_land
        have h_water := PyI.st g6.st h_water
        have sl3 := sl3.trans g6.st
        have g0 := g0.trans g6
        have sj6 := g6.st
        refine st_next ?_
        exact kj y3 _ W6 ⟨v_squares, fp_squares, rfl, g0, sj6, ho_squares, ho_shores, dj_shores_squares⟩ hm
    ·
      obtain ⟨v_squares, fp_squares, o_at, o_last, o_last_water, o_land, o_water, rfl, g0, sl3, ho_squares, ho_shores, dj_shores_squares⟩ := hI
      have h_chart := PyI.st sl3 h_chart
      have h_lake := PyI.st sl3 h_lake
      refine st_ret (W := Wi3) (ev_without_repeats (ew_varR (v := v_squares) rfl (Var.nS g00 ho_squares) ho_squares.own)) g0.ok hm fun r9 v_ret W9 g9 hp hm => ?_
      exact hm v_ret W9 (g0.trans g9) rfl ((sN (kL Sq)).back g0 hp)
abbrev s_holding_ring : Stmt := top 31
abbrev N_holding_ring : List Str := ["chart", "square", "lake"]
abbrev P_holding_ring : List Str := ["chart", "square"]
theorem sc_holding_ring : FnScope N_holding_ring P_holding_ring (defScope s_holding_ring) := ⟨rfl, rfl, rfl, by decide +kernel, rfl, by decide +kernel, by decide +kernel⟩
def m_holding_ring (a_chart : (List Str)) (a_square : Sq) : WP (Option (Ls Sq)) := (WP.b1 (WP.pure a_chart) m_lakes).bind fun xs1 => WP.after (WP.loop (γ := (Option (Ls Sq))) (fun c1 (y1 : Unit) => (WP.inD (WP.pure a_square) (WP.pure c1)).bind fun b => WP.cond b ((WP.some' ((WP.b2 (WP.pure a_chart) (WP.pure c1) m_ring_holding).bind fun xs => WP.pure (⟨xs⟩ : (Ls Sq)))).bind fun r3 => (WP.pure (.rt r3))) ((WP.pure (.nx ())))) xs1 ()) (fun (z1 : Unit) => (WP.pure (none : (Option (Ls Sq)))).bind fun r4 => (WP.pure r4)) (fun r => (WP.pure r))
def sp_holding_ring : Sp := fun vs H Q _ => ∃ (W : Wo) (a_chart : (List Str)) (a_square : Sq) (v_chart v_square : V), vs = [v_chart, v_square] ∧ W.H = H ∧ Good ef0 W ∧ Rp W a_chart v_chart ∧ Rp W a_square v_square ∧ (m_holding_ring a_chart a_square).run W.n fun n r => ∀ v W', Gw ef0 W W' → W'.n = n → (sI (e := ef0) (α := (Option (Ls Sq)))).post W W' r v → Q v W'.H
theorem ev_holding_ring {e : Ef} {σ : L2.St} {W : Wo} {E : XK} {t0 t1 : TE} {w0 : WP (List Str)} {w1 : WP Sq} (h0 : EvW e t0 σ W sI w0) (h1 : EvW e t1 σ W sI w1) : EvW e (tCall sp_holding_ring [] E (tCons t0 (tCons t1 tNil))) σ W (sI (α := (Option (Ls Sq)))) (WP.b2 w0 w1 m_holding_ring) := ew_call2N h0 h1 fun W2 b0 b1 x0 x1 g2 r0 r1 Q q E => by
  exact ⟨W2, b0, b1, x0, x1, rfl, rfl, g2.z, r0, r1, WP.mono _ (fun n c h v W3 g3 hn p => h v W3 (Gw.up g2 g3) hn p) q⟩
theorem ok_holding_ring (F : At K mg "holding_ring" s_holding_ring P_holding_ring) (G : Glb mg) (H_lakes : Has P w K mg base "lakes" 8 P_lakes sp_lakes) (H_ring_holding : Has P w K mg base "ring_holding" 6 P_ring_holding sp_ring_holding) : Has P w K mg base "holding_ring" 9 P_holding_ring sp_holding_ring := by
  refine Has.of F sc_holding_ring (fun vs H Q E h => ?_) (fun f cdv A outer s H0 vs Q E hr h => ?_)
  · obtain ⟨W0, a_chart, a_square, v_chart, v_square, rfl, _⟩ := h
    rfl
  · obtain ⟨W0, a_chart, a_square, v_chart, v_square, rfl, rfl, g00, h_chart, h_square, hm⟩ := h
    have sc := sc_holding_ring
    have g0 := Gw.refl g00
    unfold m_holding_ring at hm
    refine ⟨_, (pss_cons (ps_for PassesOwn.never rfl (pi_list (pe_user H_lakes (hr.mono (by decide)) rfl (pa_cons (pv 0) pa_nil))) (pg_name (i := 2) sc.nd rfl (Or.inl rfl))
      (pss_one (ps_if (pt_cmpR (op_inDT (hu65 hr)) (pv 1) (pv 2) (by rfl)) (pss_one (ps_ret (pe_user H_ring_holding (hr.mono (by decide)) rfl (pa_cons (pv 0) (pa_cons (pv 2) pa_nil))))) pss_nil)))
      (pss_one (ps_ret pe_non))), ?_⟩
    refine q_forN (W := W0) tk_N (ev_lakes (ew_var (v := v_chart) rfl h_chart)) g0.ok hm fun xs1 p_it1 vs_it1 W1 g1 hn_it1 hF_it1 hp_it1 hr_it1 => ?_
    have nS_it1 : ¬ ef0.S p_it1 := fun z => g0.ok.S _ z hn_it1
    have h_chart := PyI.st g1.st h_chart
    have h_square := PyI.st g1.st h_square
    have g0 := g0.trans g1
    refine ⟨fun y σ' W' => ∃ (o_lake : Option V), σ' = [some v_chart, some v_square, o_lake] ∧ Gw ef0 W0 W' ∧ St W1 W' ∧ W'.H p_it1 = some (.lst vs_it1), ⟨_, rfl, g0, (St.refl _), hp_it1⟩, fun _ _ _ hI => ?_, fun c1 y1 σi s2 Wi1 R1 nx1 ht hI hm kn1 kb1 kr1 => ?_, fun z1 σi Wi1 hI hm => ?_⟩
    · obtain ⟨o_lake, rfl, g0, sl1, hp_it1⟩ := hI
      exact ⟨sl1, hp_it1⟩
    ·
      obtain ⟨o_lake, rfl, g0, sl1, hp_it1⟩ := hI
      have h_chart := PyI.st sl1 h_chart
      have h_square := PyI.st sl1 h_square
      obtain ⟨v_lake, rfl, h_lake⟩ := ht
      refine st_if (W := Wi1) (et_t (ew_inDT (ew_var (v := v_square) rfl h_square) (ew_var (v := v_lake) rfl h_lake))) g0.ok hm (fun W2 g2 hm => ?_) (fun W2 g2 hm => ?_)
      ·
        have h_chart := PyI.st g2.st h_chart
        have h_square := PyI.st g2.st h_square
        have h_lake := PyI.st g2.st h_lake
        have sl1 := sl1.trans g2.st
        have hp_it1 := g2.keep _ _ hp_it1 nS_it1
        have g0 := g0.trans g2
        refine st_ret (W := W2) (ew_some' (ew_frz (ev_ring_holding (ew_var (v := v_chart) rfl h_chart) (ew_var (v := v_lake) rfl h_lake)))) g0.ok hm fun r3 v_ret W3 g3 hp hm => ?_
        have hm := kr1 _ _ hm
        exact hm v_ret W3 (g0.trans g3) rfl hp
      ·
        have h_chart := PyI.st g2.st h_chart
        have h_square := PyI.st g2.st h_square
        have h_lake := PyI.st g2.st h_lake
        have sl1 := sl1.trans g2.st
        have hp_it1 := g2.keep _ _ hp_it1 nS_it1
        have g0 := g0.trans g2
        refine st_next ?_
        exact kn1 () _ W2 ⟨_, rfl, g0, sl1, hp_it1⟩ hm
    ·
      obtain ⟨o_lake, rfl, g0, sl1, hp_it1⟩ := hI
      have h_chart := PyI.st sl1 h_chart
      have h_square := PyI.st sl1 h_square
      refine st_ret (W := Wi1) (ew_nonO (α := (Ls Sq))) g0.ok hm fun r4 v_ret W4 g4 hp hm => ?_
      exact hm v_ret W4 (g0.trans g4) rfl hp
abbrev s_height : Stmt := top 34
abbrev N_height : List Str := ["relief", "square"]
abbrev P_height : List Str := ["relief", "square"]
theorem sc_height : FnScope N_height P_height (defScope s_height) := ⟨rfl, rfl, rfl, by decide +kernel, rfl, by decide +kernel, by decide +kernel⟩
def m_height (a_relief : (List Str)) (a_square : Sq) : WP Int := (WP.index (WP.pure ("0123456789" : Str)) (WP.ixS (WP.ix (WP.pure a_relief) (WP.fst (WP.pure a_square))) (WP.snd (WP.pure a_square)))).bind fun r1 => (WP.pure r1)
def sp_height : Sp := fun vs H Q _ => ∃ (W : Wo) (a_relief : (List Str)) (a_square : Sq) (v_relief v_square : V), vs = [v_relief, v_square] ∧ W.H = H ∧ Good ef0 W ∧ Rp W a_relief v_relief ∧ Rp W a_square v_square ∧ (m_height a_relief a_square).run W.n fun n r => ∀ v W', Gw ef0 W W' → W'.n = n → (sI (e := ef0) (α := Int)).post W W' r v → Q v W'.H
theorem ev_height {e : Ef} {σ : L2.St} {W : Wo} {E : XK} {t0 t1 : TE} {w0 : WP (List Str)} {w1 : WP Sq} (h0 : EvW e t0 σ W sI w0) (h1 : EvW e t1 σ W sI w1) : EvW e (tCall sp_height [] E (tCons t0 (tCons t1 tNil))) σ W (sI (α := Int)) (WP.b2 w0 w1 m_height) := ew_call2N h0 h1 fun W2 b0 b1 x0 x1 g2 r0 r1 Q q E => by
  exact ⟨W2, b0, b1, x0, x1, rfl, rfl, g2.z, r0, r1, WP.mono _ (fun n c h v W3 g3 hn p => h v W3 (Gw.up g2 g3) hn p) q⟩
theorem ok_height (F : At K mg "height" s_height P_height) (G : Glb mg)  : Has P w K mg base "height" 1 P_height sp_height := by
  refine Has.of F sc_height (fun vs H Q E h => ?_) (fun f cdv A outer s H0 vs Q E hr h => ?_)
  · obtain ⟨W0, a_relief, a_square, v_relief, v_square, rfl, _⟩ := h
    rfl
  · obtain ⟨W0, a_relief, a_square, v_relief, v_square, rfl, rfl, g00, h_relief, h_square, hm⟩ := h
    have sc := sc_height
    have g0 := Gw.refl g00
    unfold m_height at hm
    refine ⟨_, (pss_one (ps_ret (pe_m1 PySem.F.slot_str_index PySem.F.type_str_index mt_index (pe_glob (v := .str "0123456789") rfl G.c_DIGITS.choose_spec ⟨_, rfl⟩) (pe_ix ix_str (pe_ix ix_tup (pv 0) (pe_ix ix_tup (pv 1) pe_int (fun _ _ => rfl)) (fun _ _ => rfl)) (pe_ix ix_tup (pv 1) pe_int (fun _ _ => rfl)) (fun _ _ => rfl))))), ?_⟩
    refine st_ret (W := W0) (ew_index ew_str (ew_ixS (ew_ixT (ew_var (v := v_relief) rfl h_relief) (ew_fst (ew_var (v := v_square) rfl h_square))) (ew_snd (ew_var (v := v_square) rfl h_square)))) g0.ok hm fun r1 v_ret W1 g1 hp hm => ?_
    exact hm v_ret W1 (g0.trans g1) rfl hp
abbrev s_chart_at : Stmt := top 35
abbrev N_chart_at : List Str := ["relief", "level", "rows", "row", "sign"]
abbrev P_chart_at : List Str := ["relief", "level"]
theorem sc_chart_at : FnScope N_chart_at P_chart_at (defScope s_chart_at) := ⟨rfl, rfl, rfl, by decide +kernel, rfl, by decide +kernel, by decide +kernel⟩
def m_chart_at (a_relief : (List Str)) (a_level : Int) : WP (List Str) := (WP.row (WP.pure ([] : List Str))).bind fun a1_rows => (WP.pure a_relief).bind fun xs2 => WP.after (WP.loop (γ := (List Str)) (fun c2 (y2 : (List Str)) => ((WP.join (WP.pure (Str.ofString "")) (WP.lc (WP.signs (WP.pure c2)) (fun c1 => (WP.pure true)) (fun c1 => (WP.ite (WP.ge (WP.index (WP.pure ("0123456789" : Str)) (WP.pure c1)) (WP.pure a_level)) (WP.pure ("x" : Str)) (WP.pure ("." : Str)))))).bind fun a => WP.req (y2.length < 100000) (y2 ++ [a])).bind fun a3_rows => (WP.pure (.nx a3_rows))) xs2 a1_rows) (fun (z2 : (List Str)) => ((WP.pure z2).bind fun xs => WP.pure (α := List _) xs).bind fun r4 => (WP.pure r4)) (fun r => (WP.pure r))
def sp_chart_at : Sp := fun vs H Q _ => ∃ (W : Wo) (a_relief : (List Str)) (a_level : Int) (v_relief v_level : V), vs = [v_relief, v_level] ∧ W.H = H ∧ Good ef0 W ∧ Rp W a_relief v_relief ∧ Rp W a_level v_level ∧ (m_chart_at a_relief a_level).run W.n fun n r => ∀ v W', Gw ef0 W W' → W'.n = n → (sI (e := ef0) (α := (List Str))).post W W' r v → Q v W'.H
theorem ev_chart_at {e : Ef} {σ : L2.St} {W : Wo} {E : XK} {t0 t1 : TE} {w0 : WP (List Str)} {w1 : WP Int} (h0 : EvW e t0 σ W sI w0) (h1 : EvW e t1 σ W sI w1) : EvW e (tCall sp_chart_at [] E (tCons t0 (tCons t1 tNil))) σ W (sI (α := (List Str))) (WP.b2 w0 w1 m_chart_at) := ew_call2N h0 h1 fun W2 b0 b1 x0 x1 g2 r0 r1 Q q E => by
  exact ⟨W2, b0, b1, x0, x1, rfl, rfl, g2.z, r0, r1, WP.mono _ (fun n c h v W3 g3 hn p => h v W3 (Gw.up g2 g3) hn p) q⟩
theorem ok_chart_at (F : At K mg "chart_at" s_chart_at P_chart_at) (G : Glb mg)  : Has P w K mg base "chart_at" 1 P_chart_at sp_chart_at := by
  refine Has.of F sc_chart_at (fun vs H Q E h => ?_) (fun f cdv A outer s H0 vs Q E hr h => ?_)
  · obtain ⟨W0, a_relief, a_level, v_relief, v_level, rfl, _⟩ := h
    rfl
  · obtain ⟨W0, a_relief, a_level, v_relief, v_level, rfl, rfl, g00, h_relief, h_level, hm⟩ := h
    have sc := sc_chart_at
    have g0 := Gw.refl g00
    unfold m_chart_at at hm
    refine ⟨_, (pss_cons (ps_set (i := 2) sc.nd rfl (Or.inl rfl) (pe_lst pa_nil))
      (pss_cons (ps_for PassesOwn.never rfl (pi_tup (pv 0)) (pg_name (i := 3) sc.nd rfl (Or.inl rfl))
      (pss_one (ps_expr (pe_bm PySem.F.plainAttrs_list PySem.F.slot_list_append PySem.F.type_list_append mt_append (pv 2) (pa_cons (pe_join pe_str (pe_lc (own := [("sign", 4)]) (g := gName 4) (tt := tYes) rfl sc.nd (pi_str (pv 3)) (blkOk_by (N := N_chart_at) (sc := defScope s_chart_at) (by decide +kernel)) (fun _ _ _ _ _ => (pg_name (i := 4) sc.nd rfl (Or.inl rfl))) (fun _ _ _ _ _ => pts_nil) (fun _ _ _ _ _ => (pe_ifExp (pt_cmpR op_ge (pe_m1 PySem.F.slot_str_index PySem.F.type_str_index mt_index (pe_glob (v := .str "0123456789") rfl G.c_DIGITS.choose_spec ⟨_, rfl⟩) (pv 4)) (pv 1) (nomark _)) (pe_glob (v := .str "x") rfl G.c_LAND.choose_spec ⟨_, rfl⟩) (pe_glob (v := .str ".") rfl G.c_WATER.choose_spec ⟨_, rfl⟩))))) pa_nil)))))
      (pss_one (ps_ret (pe_callTy call_tuple_of (by rfl) G.tuple (by decide +kernel) (pa_cons (pv 2) pa_nil)))))), ?_⟩
    refine q_asg (W := W0) (ew_lst (eas_nil (α := Str))) g0.ok hm fun a1_rows v_rows W1 g1 ⟨fp_rows, ho0_rows, hf_rows⟩ hm => ?_
    have hz_rows : ∀ a ∈ fp_rows, W0.H a = none := fun a m => g0.live a (hf_rows a m).1
    have h_relief := PyI.st g1.st h_relief
    have h_level := PyI.st g1.st h_level
    have g0 := g0.trans g1
    have ho_rows : Var (kL Str) W0 W1 fp_rows a1_rows v_rows := ⟨ho0_rows, hz_rows, fun b m => (hf_rows b m).2.2⟩
    refine q_forT (W := W1) tk_N (ew_var (v := v_relief) rfl h_relief) g0.ok hm fun xs2 W2 g2 => ?_
    have h_relief := PyI.st g2.st h_relief
    have h_level := PyI.st g2.st h_level
    have ho_rows := ho_rows.go g00 g2
    have g0 := g0.trans g2
    refine ⟨fun y σ' W' => ∃ (v_rows : V) (fp_rows : List Addr) (o_row : Option V), σ' = [some v_relief, some v_level, some v_rows, o_row, none] ∧ Gw ef0 W0 W' ∧ St W2 W' ∧ Var (kL Str) W0 W' fp_rows y v_rows, ⟨v_rows, fp_rows, _, rfl, g0, (St.refl _), ho_rows⟩, fun _ _ _ hI => ?_, fun c2 y2 σi s2 Wi2 R2 nx2 ht hI hm kn2 kb2 kr2 => ?_, fun z2 σi Wi2 hI hm => ?_⟩
    · obtain ⟨v_rows, fp_rows, o_row, rfl, g0, sl2, ho_rows⟩ := hI
      exact sl2
    ·
      obtain ⟨v_rows, fp_rows, o_row, rfl, g0, sl2, ho_rows⟩ := hI
      have h_relief := PyI.st sl2 h_relief
      have h_level := PyI.st sl2 h_level
      obtain ⟨v_row, rfl, h_row⟩ := ht
      refine st_app (W := Wi2) g00 g0 rfl ho_rows (ew_join ew_str (ew_rd (ew_lcS (ew_var (v := v_row) rfl h_row) takes_N (fun _ _ _ h => by obtain ⟨v_sign, ec, h_sign⟩ := h; subst ec; rfl) (fun c1 Wc1 s2 gc1 h => by obtain ⟨v_sign, ec, h_sign⟩ := h; subst ec; have h_level := PyI.st gc1.st h_level; have h_row := PyI.st gc1.st h_row; exact et_yes) (fun c1 Wc1 s2 gc1 h => by obtain ⟨v_sign, ec, h_sign⟩ := h; subst ec; have h_level := PyI.st gc1.st h_level; have h_row := PyI.st gc1.st h_row; exact (ew_ifE (et_t (ew_ge (ew_index ew_str (ew_var (v := v_sign) rfl h_sign)) (ew_var (v := v_level) rfl h_level))) ew_str ew_str))))) hm fun a3_rows W3_ W3 l_rows el_rows g3 s g02 kk ff ho_rows hm => ?_
      have h_relief := PyI.st g3.st h_relief
      have h_level := PyI.st g3.st h_level
      have h_row := PyI.st g3.st h_row
      have sl2 := sl2.trans g3.st
      have g0 := g0.trans g3
      have h_relief := PyI.st s h_relief
      have h_level := PyI.st s h_level
      have h_row := PyI.st s h_row
      have sl2 := sl2.trans s
      have g0 := g02
      exact kn2 a3_rows _ W3 ⟨v_rows, fp_rows, _, rfl, g0, sl2, ho_rows⟩ hm
    ·
      obtain ⟨v_rows, fp_rows, o_row, rfl, g0, sl2, ho_rows⟩ := hI
      have h_relief := PyI.st sl2 h_relief
      have h_level := PyI.st sl2 h_level
      refine st_ret (W := Wi2) (ew_tuple (ew_varR (v := v_rows) rfl (Var.nS g00 ho_rows) ho_rows.own)) g0.ok hm fun r4 v_ret W4 g4 hp hm => ?_
      exact hm v_ret W4 (g0.trans g4) rfl hp
abbrev s_spill : Stmt := top 37
abbrev N_spill : List Str := ["relief", "square", "level"]
abbrev P_spill : List Str := ["relief", "square"]
theorem sc_spill : FnScope N_spill P_spill (defScope s_spill) := ⟨rfl, rfl, rfl, by decide +kernel, rfl, by decide +kernel, by decide +kernel⟩
def m_spill (a_relief : (List Str)) (a_square : Sq) : WP Int := (WP.b2 (WP.pure a_relief) (WP.pure a_square) m_height).bind fun a1_level => WP.after (WP.whilst (γ := Int) (fun (y2 : Int) => (WP.not (WP.b2 (WP.b2 (WP.pure a_relief) (WP.add (WP.pure y2) (WP.pure (1 : Int))) m_chart_at) (WP.pure a_square) m_drains))) (fun (y2 : Int) => (WP.add (WP.pure y2) (WP.pure (1 : Int))).bind fun a3_level => (WP.pure (.nx a3_level))) a1_level) (fun (z2 : Int) => (WP.pure z2).bind fun r4 => (WP.pure r4)) (fun r => (WP.pure r))
def sp_spill : Sp := fun vs H Q _ => ∃ (W : Wo) (a_relief : (List Str)) (a_square : Sq) (v_relief v_square : V), vs = [v_relief, v_square] ∧ W.H = H ∧ Good ef0 W ∧ Rp W a_relief v_relief ∧ Rp W a_square v_square ∧ (m_spill a_relief a_square).run W.n fun n r => ∀ v W', Gw ef0 W W' → W'.n = n → (sI (e := ef0) (α := Int)).post W W' r v → Q v W'.H
theorem ev_spill {e : Ef} {σ : L2.St} {W : Wo} {E : XK} {t0 t1 : TE} {w0 : WP (List Str)} {w1 : WP Sq} (h0 : EvW e t0 σ W sI w0) (h1 : EvW e t1 σ W sI w1) : EvW e (tCall sp_spill [] E (tCons t0 (tCons t1 tNil))) σ W (sI (α := Int)) (WP.b2 w0 w1 m_spill) := ew_call2N h0 h1 fun W2 b0 b1 x0 x1 g2 r0 r1 Q q E => by
  exact ⟨W2, b0, b1, x0, x1, rfl, rfl, g2.z, r0, r1, WP.mono _ (fun n c h v W3 g3 hn p => h v W3 (Gw.up g2 g3) hn p) q⟩
theorem ok_spill (F : At K mg "spill" s_spill P_spill) (G : Glb mg) (H_chart_at : Has P w K mg base "chart_at" 1 P_chart_at sp_chart_at) (H_drains : Has P w K mg base "drains" 6 P_drains sp_drains) (H_height : Has P w K mg base "height" 1 P_height sp_height) : Has P w K mg base "spill" 7 P_spill sp_spill := by
  refine Has.of F sc_spill (fun vs H Q E h => ?_) (fun f cdv A outer s H0 vs Q E hr h => ?_)
  · obtain ⟨W0, a_relief, a_square, v_relief, v_square, rfl, _⟩ := h
    rfl
  · obtain ⟨W0, a_relief, a_square, v_relief, v_square, rfl, rfl, g00, h_relief, h_square, hm⟩ := h
    have sc := sc_spill
    have g0 := Gw.refl g00
    unfold m_spill at hm
    refine ⟨_, (pss_cons (ps_set (i := 2) sc.nd rfl (Or.inl rfl) (pe_user H_height (hr.mono (by decide)) rfl (pa_cons (pv 0) (pa_cons (pv 1) pa_nil))))
      (pss_cons (ps_while PassesOwn.never (pt_not (pt_val (pe_user H_drains (hr.mono (by decide)) rfl (pa_cons (pe_user H_chart_at (hr.mono (by decide)) rfl (pa_cons (pv 0) (pa_cons (pe_op op_add (pv 2) pe_int) pa_nil))) (pa_cons (pv 1) pa_nil)))))
      (pss_one (ps_set (i := 2) sc.nd rfl (Or.inl rfl) (pe_op op_add (pv 2) pe_int))))
      (pss_one (ps_ret (pv 2))))), ?_⟩
    refine q_asg (W := W0) (ev_height (ew_var (v := v_relief) rfl h_relief) (ew_var (v := v_square) rfl h_square)) g0.ok hm fun a1_level v_level W1 g1 h_level hm => ?_
    have h_relief := PyI.st g1.st h_relief
    have h_square := PyI.st g1.st h_square
    have g0 := g0.trans g1
    first | refine norm_st (σ' := [some v_relief, some v_square, some v_level]) rfl ?_ | skip
    refine q_while (W := W1) g0.ok hm (fun y σ' W' => ∃ (v_level : V), σ' = [some v_relief, some v_square, some v_level] ∧ Gw ef0 W0 W' ∧ St W1 W' ∧ Rp W' y v_level) ⟨v_level, rfl, g0, (St.refl _), h_level⟩ (fun y2 σi Wi2 hI => ?_) (fun z2 σi Wi2 hI hm => ?_)
    ·
      obtain ⟨v_level, rfl, g0, sl2, h_level⟩ := hI
      have h_relief := PyI.st sl2 h_relief
      have h_square := PyI.st sl2 h_square
      refine ⟨g0.ok, (et_not (et_B (ev_drains (ev_chart_at (ew_var (v := v_relief) rfl h_relief) (ew_add (ew_var (v := v_level) rfl h_level) ew_int)) (ew_var (v := v_square) rfl h_square)))), fun W2 g2 => ?_⟩
      have h_relief := PyI.st g2.st h_relief
      have h_square := PyI.st g2.st h_square
      have h_level := PyI.st g2.st h_level
      have sl2 := sl2.trans g2.st
      have g0 := g0.trans g2
      refine ⟨fun R2 nx2 hm kn2 kb2 kr2 => ?_, ⟨v_level, rfl, g0, sl2, h_level⟩⟩
      refine st_asg (W := W2) (ew_add (ew_var (v := v_level) rfl h_level) ew_int) g0.ok hm fun a3_level v_level W3 g3 h_level hm => ?_
      have h_relief := PyI.st g3.st h_relief
      have h_square := PyI.st g3.st h_square
      have sl2 := sl2.trans g3.st
      have g0 := g0.trans g3
      exact kn2 a3_level _ W3 ⟨v_level, rfl, g0, sl2, h_level⟩ hm
    ·
      obtain ⟨v_level, rfl, g0, sl2, h_level⟩ := hI
      have h_relief := PyI.st sl2 h_relief
      have h_square := PyI.st sl2 h_square
      refine st_ret (W := Wi2) (ew_var (v := v_level) rfl h_level) g0.ok hm fun r4 v_ret W4 g4 hp hm => ?_
      exact hm v_ret W4 (g0.trans g4) rfl hp
abbrev s_pool : Stmt := top 38
abbrev N_pool : List Str := ["relief", "square"]
abbrev P_pool : List Str := ["relief", "square"]
theorem sc_pool : FnScope N_pool P_pool (defScope s_pool) := ⟨rfl, rfl, rfl, by decide +kernel, rfl, by decide +kernel, by decide +kernel⟩
def m_pool (a_relief : (List Str)) (a_square : Sq) : WP Int := (WP.sub (WP.b2 (WP.pure a_relief) (WP.pure a_square) m_spill) (WP.b2 (WP.pure a_relief) (WP.pure a_square) m_height)).bind fun r1 => (WP.pure r1)
def sp_pool : Sp := fun vs H Q _ => ∃ (W : Wo) (a_relief : (List Str)) (a_square : Sq) (v_relief v_square : V), vs = [v_relief, v_square] ∧ W.H = H ∧ Good ef0 W ∧ Rp W a_relief v_relief ∧ Rp W a_square v_square ∧ (m_pool a_relief a_square).run W.n fun n r => ∀ v W', Gw ef0 W W' → W'.n = n → (sI (e := ef0) (α := Int)).post W W' r v → Q v W'.H
theorem ev_pool {e : Ef} {σ : L2.St} {W : Wo} {E : XK} {t0 t1 : TE} {w0 : WP (List Str)} {w1 : WP Sq} (h0 : EvW e t0 σ W sI w0) (h1 : EvW e t1 σ W sI w1) : EvW e (tCall sp_pool [] E (tCons t0 (tCons t1 tNil))) σ W (sI (α := Int)) (WP.b2 w0 w1 m_pool) := ew_call2N h0 h1 fun W2 b0 b1 x0 x1 g2 r0 r1 Q q E => by
  exact ⟨W2, b0, b1, x0, x1, rfl, rfl, g2.z, r0, r1, WP.mono _ (fun n c h v W3 g3 hn p => h v W3 (Gw.up g2 g3) hn p) q⟩
theorem ok_pool (F : At K mg "pool" s_pool P_pool) (G : Glb mg) (H_height : Has P w K mg base "height" 1 P_height sp_height) (H_spill : Has P w K mg base "spill" 7 P_spill sp_spill) : Has P w K mg base "pool" 8 P_pool sp_pool := by
  refine Has.of F sc_pool (fun vs H Q E h => ?_) (fun f cdv A outer s H0 vs Q E hr h => ?_)
  · obtain ⟨W0, a_relief, a_square, v_relief, v_square, rfl, _⟩ := h
    rfl
  · obtain ⟨W0, a_relief, a_square, v_relief, v_square, rfl, rfl, g00, h_relief, h_square, hm⟩ := h
    have sc := sc_pool
    have g0 := Gw.refl g00
    unfold m_pool at hm
    refine ⟨_, (pss_one (ps_ret (pe_op op_sub (pe_user H_spill (hr.mono (by decide)) rfl (pa_cons (pv 0) (pa_cons (pv 1) pa_nil))) (pe_user H_height (hr.mono (by decide)) rfl (pa_cons (pv 0) (pa_cons (pv 1) pa_nil)))))), ?_⟩
    refine st_ret (W := W0) (ew_sub (ev_spill (ew_var (v := v_relief) rfl h_relief) (ew_var (v := v_square) rfl h_square)) (ev_height (ew_var (v := v_relief) rfl h_relief) (ew_var (v := v_square) rfl h_square))) g0.ok hm fun r1 v_ret W1 g1 hp hm => ?_
    exact hm v_ret W1 (g0.trans g1) rfl hp
abbrev s_next_square : Stmt := top 40
abbrev N_next_square : List Str := ["relief", "square", "best", "other"]
abbrev P_next_square : List Str := ["relief", "square"]
theorem sc_next_square : FnScope N_next_square P_next_square (defScope s_next_square) := ⟨rfl, rfl, rfl, by decide +kernel, rfl, by decide +kernel, by decide +kernel⟩
def m_next_square (a_relief : (List Str)) (a_square : Sq) : WP (Option Sq) := (WP.pure (none : (Option Sq))).bind fun a1_best => (WP.b1 (WP.pure a_square) m_side_neighbours).bind fun xs2 => WP.after (WP.loop (γ := (Option Sq)) (fun c2 (y2 : (Option Sq)) => ((WP.and (WP.b2 (WP.pure a_relief) (WP.pure c2) m_is_square) (WP.lt (WP.b2 (WP.pure a_relief) (WP.pure c2) m_height) (WP.b2 (WP.pure a_relief) (WP.pure a_square) m_height))).bind fun b => WP.cond b (((WP.or (WP.isN (WP.pure y2)) (WP.lt (WP.b2 (WP.pure a_relief) (WP.pure c2) m_height) (WP.b2 (WP.pure a_relief) (WP.the (WP.pure y2)) m_height))).bind fun b => WP.cond b ((WP.some' (WP.pure c2)).bind fun a5_best => (WP.pure a5_best)) ((WP.pure y2))).bind fun (y4 : (Option Sq)) => (WP.pure y4)) ((WP.pure y2))).bind fun (y3 : (Option Sq)) => (WP.pure (.nx y3))) xs2 a1_best) (fun (z2 : (Option Sq)) => (WP.pure z2).bind fun r6 => (WP.pure r6)) (fun r => (WP.pure r))
def sp_next_square : Sp := fun vs H Q _ => ∃ (W : Wo) (a_relief : (List Str)) (a_square : Sq) (v_relief v_square : V), vs = [v_relief, v_square] ∧ W.H = H ∧ Good ef0 W ∧ Rp W a_relief v_relief ∧ Rp W a_square v_square ∧ (m_next_square a_relief a_square).run W.n fun n r => ∀ v W', Gw ef0 W W' → W'.n = n → (sI (e := ef0) (α := (Option Sq))).post W W' r v → Q v W'.H
theorem ev_next_square {e : Ef} {σ : L2.St} {W : Wo} {E : XK} {t0 t1 : TE} {w0 : WP (List Str)} {w1 : WP Sq} (h0 : EvW e t0 σ W sI w0) (h1 : EvW e t1 σ W sI w1) : EvW e (tCall sp_next_square [] E (tCons t0 (tCons t1 tNil))) σ W (sI (α := (Option Sq))) (WP.b2 w0 w1 m_next_square) := ew_call2N h0 h1 fun W2 b0 b1 x0 x1 g2 r0 r1 Q q E => by
  exact ⟨W2, b0, b1, x0, x1, rfl, rfl, g2.z, r0, r1, WP.mono _ (fun n c h v W3 g3 hn p => h v W3 (Gw.up g2 g3) hn p) q⟩
theorem ok_next_square (F : At K mg "next_square" s_next_square P_next_square) (G : Glb mg) (H_height : Has P w K mg base "height" 1 P_height sp_height) (H_is_square : Has P w K mg base "is_square" 1 P_is_square sp_is_square) (H_side_neighbours : Has P w K mg base "side_neighbours" 1 P_side_neighbours sp_side_neighbours) : Has P w K mg base "next_square" 2 P_next_square sp_next_square := by
  refine Has.of F sc_next_square (fun vs H Q E h => ?_) (fun f cdv A outer s H0 vs Q E hr h => ?_)
  · obtain ⟨W0, a_relief, a_square, v_relief, v_square, rfl, _⟩ := h
    rfl
  · obtain ⟨W0, a_relief, a_square, v_relief, v_square, rfl, rfl, g00, h_relief, h_square, hm⟩ := h
    have sc := sc_next_square
    have g0 := Gw.refl g00
    unfold m_next_square at hm
    refine ⟨_, (pss_cons (ps_set (i := 2) sc.nd rfl (Or.inl rfl) pe_non)
      (pss_cons (ps_for PassesOwn.never rfl (pi_list (pe_user H_side_neighbours (hr.mono (by decide)) rfl (pa_cons (pv 1) pa_nil))) (pg_name (i := 3) sc.nd rfl (Or.inl rfl))
      (pss_one (ps_if (PW.pt (pw_and (pt_val (pe_user H_is_square (hr.mono (by decide)) rfl (pa_cons (pv 0) (pa_cons (pv 3) pa_nil)))) (pw_and1 (pt_cmpR op_lt (pe_user H_height (hr.mono (by decide)) rfl (pa_cons (pv 0) (pa_cons (pv 3) pa_nil))) (pe_user H_height (hr.mono (by decide)) rfl (pa_cons (pv 0) (pa_cons (pv 1) pa_nil))) (nomark _))))) (pss_one (ps_if (PW.pt (pw_or (pt_cmp (pc_isN (pv 2))) (pw_or1 (pt_cmpR op_lt (pe_user H_height (hr.mono (by decide)) rfl (pa_cons (pv 0) (pa_cons (pv 3) pa_nil))) (pe_user H_height (hr.mono (by decide)) rfl (pa_cons (pv 0) (pa_cons (pv 2) pa_nil))) (nomark _))))) (pss_one (ps_set (i := 2) sc.nd rfl (Or.inl rfl) (pv 3))) pss_nil)) pss_nil)))
      (pss_one (ps_ret (pv 2))))), ?_⟩
    refine q_asg (W := W0) (ew_nonO (α := Sq)) g0.ok hm fun a1_best v_best W1 g1 h_best hm => ?_
    have h_relief := PyI.st g1.st h_relief
    have h_square := PyI.st g1.st h_square
    have g0 := g0.trans g1
    first | refine norm_st (σ' := [some v_relief, some v_square, some v_best, none]) rfl ?_ | skip
    refine q_forN (W := W1) tk_N (ev_side_neighbours (ew_var (v := v_square) rfl h_square)) g0.ok hm fun xs2 p_it2 vs_it2 W2 g2 hn_it2 hF_it2 hp_it2 hr_it2 => ?_
    have nS_it2 : ¬ ef0.S p_it2 := fun z => g0.ok.S _ z hn_it2
    have h_relief := PyI.st g2.st h_relief
    have h_square := PyI.st g2.st h_square
    have h_best := PyI.st g2.st h_best
    have g0 := g0.trans g2
    refine ⟨fun y σ' W' => ∃ (v_best : V) (o_other : Option V), σ' = [some v_relief, some v_square, some v_best, o_other] ∧ Gw ef0 W0 W' ∧ St W2 W' ∧ Rp W' y v_best ∧ W'.H p_it2 = some (.lst vs_it2), ⟨v_best, _, rfl, g0, (St.refl _), h_best, hp_it2⟩, fun _ _ _ hI => ?_, fun c2 y2 σi s2 Wi2 R2 nx2 ht hI hm kn2 kb2 kr2 => ?_, fun z2 σi Wi2 hI hm => ?_⟩
    · obtain ⟨v_best, o_other, rfl, g0, sl2, h_best, hp_it2⟩ := hI
      exact ⟨sl2, hp_it2⟩
    ·
      obtain ⟨v_best, o_other, rfl, g0, sl2, h_best, hp_it2⟩ := hI
      have h_relief := PyI.st sl2 h_relief
      have h_square := PyI.st sl2 h_square
      obtain ⟨v_other, rfl, h_other⟩ := ht
      refine st_join (W := Wi2) (s := (Option Sq)) (fun y σ' W' => ∃ (v_best : V), σ' = [some v_relief, some v_square, some v_best, some v_other] ∧ Gw ef0 W0 W' ∧ St Wi2 W' ∧ Rp W' y v_best ∧ W'.H p_it2 = some (.lst vs_it2)) (et_and (et_B (ev_is_square (ew_var (v := v_relief) rfl h_relief) (ew_var (v := v_other) rfl h_other))) (et_t (ew_lt (ev_height (ew_var (v := v_relief) rfl h_relief) (ew_var (v := v_other) rfl h_other)) (ev_height (ew_var (v := v_relief) rfl h_relief) (ew_var (v := v_square) rfl h_square))))) g0.ok hm (fun y3 σj Wj3 hI hm => ?_) (fun W3 R3 g3 hm kj => ?_) (fun W3 R3 g3 hm kj => ?_)
      ·
        obtain ⟨v_best, rfl, g0, sj3, h_best, hp_it2⟩ := hI
        have h_relief := PyI.st sj3 h_relief
        have h_square := PyI.st sj3 h_square
        have h_other := PyI.st sj3 h_other
        have sl2 := sl2.trans sj3
        exact kn2 y3 _ Wj3 ⟨v_best, _, rfl, g0, sl2, h_best, hp_it2⟩ hm
      ·
        have h_relief := PyI.st g3.st h_relief
        have h_square := PyI.st g3.st h_square
        have h_best := PyI.st g3.st h_best
        have h_other := PyI.st g3.st h_other
        have sl2 := sl2.trans g3.st
        have hp_it2 := g3.keep _ _ hp_it2 nS_it2
        have g0 := g0.trans g3
        have sj3 := g3.st
        refine st_join (W := W3) (s := (Option Sq)) (fun y σ' W' => ∃ (v_best : V), σ' = [some v_relief, some v_square, some v_best, some v_other] ∧ Gw ef0 W0 W' ∧ St W3 W' ∧ Rp W' y v_best ∧ W'.H p_it2 = some (.lst vs_it2)) (et_or (et_B (ew_isN (ew_var (v := v_best) rfl h_best))) (et_t (ew_lt (ev_height (ew_var (v := v_relief) rfl h_relief) (ew_var (v := v_other) rfl h_other)) (ev_height (ew_var (v := v_relief) rfl h_relief) (ew_the (ew_var (v := v_best) rfl h_best)))))) g0.ok hm (fun y4 σj Wj4 hI hm => ?_) (fun W4 R4 g4 hm kj => ?_) (fun W4 R4 g4 hm kj => ?_)
        ·
          obtain ⟨v_best, rfl, g0, sj4, h_best, hp_it2⟩ := hI
          have h_relief := PyI.st sj4 h_relief
          have h_square := PyI.st sj4 h_square
          have h_other := PyI.st sj4 h_other
          have sl2 := sl2.trans sj4
          have sj3 := sj3.trans sj4
          exact kj y4 _ Wj4 ⟨v_best, rfl, g0, sj3, h_best, hp_it2⟩ hm
        ·
          have h_relief := PyI.st g4.st h_relief
          have h_square := PyI.st g4.st h_square
          have h_best := PyI.st g4.st h_best
          have h_other := PyI.st g4.st h_other
          have sl2 := sl2.trans g4.st
          have sj3 := sj3.trans g4.st
          have hp_it2 := g4.keep _ _ hp_it2 nS_it2
          have g0 := g0.trans g4
          have sj4 := g4.st
          refine st_asg (W := W4) (ew_some' (ew_var (v := v_other) rfl h_other)) g0.ok hm fun a5_best v_best W5 g5 h_best hm => ?_
          have h_relief := PyI.st g5.st h_relief
          have h_square := PyI.st g5.st h_square
          have h_other := PyI.st g5.st h_other
          have sl2 := sl2.trans g5.st
          have sj3 := sj3.trans g5.st
          have sj4 := sj4.trans g5.st
          have hp_it2 := g5.keep _ _ hp_it2 nS_it2
          have g0 := g0.trans g5
          exact kj a5_best _ W5 ⟨v_best, rfl, g0, sj4, h_best, hp_it2⟩ hm
        ·
          have h_relief := PyI.st g4.st h_relief
          have h_square := PyI.st g4.st h_square
          have h_best := PyI.st g4.st h_best
          have h_other := PyI.st g4.st h_other
          have sl2 := sl2.trans g4.st
          have sj3 := sj3.trans g4.st
          have hp_it2 := g4.keep _ _ hp_it2 nS_it2
          have g0 := g0.trans g4
          have sj4 := g4.st
          refine st_next ?_
          exact kj y2 _ W4 ⟨v_best, rfl, g0, sj4, h_best, hp_it2⟩ hm
      ·
        have h_relief := PyI.st g3.st h_relief
        have h_square := PyI.st g3.st h_square
        have h_best := PyI.st g3.st h_best
        have h_other := PyI.st g3.st h_other
        have sl2 := sl2.trans g3.st
        have hp_it2 := g3.keep _ _ hp_it2 nS_it2
        have g0 := g0.trans g3
        have sj3 := g3.st
        refine st_next ?_
        exact kj y2 _ W3 ⟨v_best, rfl, g0, sj3, h_best, hp_it2⟩ hm
    ·
      obtain ⟨v_best, o_other, rfl, g0, sl2, h_best, hp_it2⟩ := hI
      have h_relief := PyI.st sl2 h_relief
      have h_square := PyI.st sl2 h_square
      refine st_ret (W := Wi2) (ew_var (v := v_best) rfl h_best) g0.ok hm fun r6 v_ret W6 g6 hp hm => ?_
      exact hm v_ret W6 (g0.trans g6) rfl hp
abbrev s_course : Stmt := top 41
abbrev N_course : List Str := ["relief", "square", "found", "other"]
abbrev P_course : List Str := ["relief", "square"]
theorem sc_course : FnScope N_course P_course (defScope s_course) := ⟨rfl, rfl, rfl, by decide +kernel, rfl, by decide +kernel, by decide +kernel⟩
def m_course (a_relief : (List Str)) (a_square : Sq) : WP (List Sq) := (WP.row (WP.consE (WP.pure a_square) (WP.pure ([] : List Sq)))).bind fun a1_found => (WP.b2 (WP.pure a_relief) (WP.pure a_square) m_next_square).bind fun a2_other => WP.after (WP.whilst (γ := (List Sq)) (fun (y3 : (List Sq) × (Option Sq)) => (WP.notN (WP.pure y3.2))) (fun (y3 : (List Sq) × (Option Sq)) => ((WP.the (WP.pure y3.2)).bind fun a => WP.req (y3.1.length < 100000) (y3.1 ++ [a])).bind fun a4_found => (WP.b2 (WP.pure a_relief) (WP.the (WP.pure y3.2)) m_next_square).bind fun a5_other => (WP.pure (.nx (a4_found, a5_other)))) (a1_found, a2_other)) (fun (z3 : (List Sq) × (Option Sq)) => (WP.pure z3.1)) (fun r => (WP.pure r))
def sp_course : Sp := fun vs H Q _ => ∃ (W : Wo) (a_relief : (List Str)) (a_square : Sq) (v_relief v_square : V), vs = [v_relief, v_square] ∧ W.H = H ∧ Good ef0 W ∧ Rp W a_relief v_relief ∧ Rp W a_square v_square ∧ (m_course a_relief a_square).run W.n fun n r => ∀ v W', Gw ef0 W W' → W'.n = n → (sN (e := ef0) (kL Sq)).post W W' r v → Q v W'.H
theorem ev_course {e : Ef} {σ : L2.St} {W : Wo} {E : XK} {t0 t1 : TE} {w0 : WP (List Str)} {w1 : WP Sq} (h0 : EvW e t0 σ W sI w0) (h1 : EvW e t1 σ W sI w1) : EvW e (tCall sp_course [] E (tCons t0 (tCons t1 tNil))) σ W (sN (kL Sq)) (WP.b2 w0 w1 m_course) := ew_call2N h0 h1 fun W2 b0 b1 x0 x1 g2 r0 r1 Q q E => by
  exact ⟨W2, b0, b1, x0, x1, rfl, rfl, g2.z, r0, r1, WP.mono _ (fun n c h v W3 g3 hn p => h v W3 (Gw.up g2 g3) hn (sN_up g2 p)) q⟩
theorem ok_course (F : At K mg "course" s_course P_course) (G : Glb mg) (H_next_square : Has P w K mg base "next_square" 2 P_next_square sp_next_square) : Has P w K mg base "course" 3 P_course sp_course := by
  refine Has.of F sc_course (fun vs H Q E h => ?_) (fun f cdv A outer s H0 vs Q E hr h => ?_)
  · obtain ⟨W0, a_relief, a_square, v_relief, v_square, rfl, _⟩ := h
    rfl
  · obtain ⟨W0, a_relief, a_square, v_relief, v_square, rfl, rfl, g00, h_relief, h_square, hm⟩ := h
    have sc := sc_course
    have g0 := Gw.refl g00
    unfold m_course at hm
    refine ⟨_, (pss_cons (ps_set (i := 2) sc.nd rfl (Or.inl rfl) (pe_lst (pa_cons (pv 1) pa_nil)))
      (pss_cons (ps_set (i := 3) sc.nd rfl (Or.inl rfl) (pe_user H_next_square (hr.mono (by decide)) rfl (pa_cons (pv 0) (pa_cons (pv 1) pa_nil))))
      (pss_cons (ps_while PassesOwn.never (pt_cmp (pc_notN (pv 3)))
      (pss_cons (ps_expr (pe_bm PySem.F.plainAttrs_list PySem.F.slot_list_append PySem.F.type_list_append mt_append (pv 2) (pa_cons (pv 3) pa_nil)))
      (pss_one (ps_set (i := 3) sc.nd rfl (Or.inl rfl) (pe_user H_next_square (hr.mono (by decide)) rfl (pa_cons (pv 0) (pa_cons (pv 3) pa_nil)))))))
      (pss_one (ps_ret (pv 2)))))), ?_⟩
    refine q_asg (W := W0) (ew_lst (eas_cons (ew_var (v := v_square) rfl h_square) (eas_nil (α := Sq)))) g0.ok hm fun a1_found v_found W1 g1 ⟨fp_found, ho0_found, hf_found⟩ hm => ?_
    have hz_found : ∀ a ∈ fp_found, W0.H a = none := fun a m => g0.live a (hf_found a m).1
    have h_relief := PyI.st g1.st h_relief
    have h_square := PyI.st g1.st h_square
    have g0 := g0.trans g1
    have ho_found : Var (kL Sq) W0 W1 fp_found a1_found v_found := ⟨ho0_found, hz_found, fun b m => (hf_found b m).2.2⟩
    first | refine norm_st (σ' := [some v_relief, some v_square, some v_found, none]) rfl ?_ | skip
    refine q_asg (W := W1) (ev_next_square (ew_var (v := v_relief) rfl h_relief) (ew_var (v := v_square) rfl h_square)) g0.ok hm fun a2_other v_other W2 g2 h_other hm => ?_
    have h_relief := PyI.st g2.st h_relief
    have h_square := PyI.st g2.st h_square
    have ho_found := ho_found.go g00 g2
    have g0 := g0.trans g2
    refine q_while (W := W2) g0.ok hm (fun y σ' W' => ∃ (v_other : V) (v_found : V) (fp_found : List Addr), σ' = [some v_relief, some v_square, some v_found, some v_other] ∧ Gw ef0 W0 W' ∧ St W2 W' ∧ Var (kL Sq) W0 W' fp_found y.1 v_found ∧ Rp W' y.2 v_other) ⟨v_other, v_found, fp_found, rfl, g0, (St.refl _), ho_found, h_other⟩ (fun y3 σi Wi3 hI => ?_) (fun z3 σi Wi3 hI hm => ?_)
    ·
      obtain ⟨v_other, v_found, fp_found, rfl, g0, sl3, ho_found, h_other⟩ := hI
      have h_relief := PyI.st sl3 h_relief
      have h_square := PyI.st sl3 h_square
      refine ⟨g0.ok, (et_B (ew_notN (ew_var (v := v_other) rfl h_other))), fun W3 g3 => ?_⟩
      have h_relief := PyI.st g3.st h_relief
      have h_square := PyI.st g3.st h_square
      have ho_found := ho_found.go g00 g3
      have h_other := PyI.st g3.st h_other
      have sl3 := sl3.trans g3.st
      have g0 := g0.trans g3
      refine ⟨fun R3 nx3 hm kn3 kb3 kr3 => ?_, ⟨v_other, v_found, fp_found, rfl, g0, sl3, ho_found, h_other⟩⟩
      refine q_app (W := W3) g00 g0 rfl ho_found (ew_the (ew_var (v := v_other) rfl h_other)) hm fun a4_found W4_ W4 l_found el_found g4 s g02 kk ff ho_found hm => ?_
      have h_relief := PyI.st g4.st h_relief
      have h_square := PyI.st g4.st h_square
      have h_other := PyI.st g4.st h_other
      have sl3 := sl3.trans g4.st
      have g0 := g0.trans g4
      have h_relief := PyI.st s h_relief
      have h_square := PyI.st s h_square
      have h_other := PyI.st s h_other
      have sl3 := sl3.trans s
      have g0 := g02
      refine st_asg (W := W4) (ev_next_square (ew_var (v := v_relief) rfl h_relief) (ew_the (ew_var (v := v_other) rfl h_other))) g0.ok hm fun a5_other v_other W5 g5 h_other hm => ?_
      have h_relief := PyI.st g5.st h_relief
      have h_square := PyI.st g5.st h_square
      have ho_found := ho_found.go g00 g5
      have sl3 := sl3.trans g5.st
      have g0 := g0.trans g5
      exact kn3 (a4_found, a5_other) _ W5 ⟨v_other, v_found, fp_found, rfl, g0, sl3, ho_found, h_other⟩ hm
    ·
      obtain ⟨v_other, v_found, fp_found, rfl, g0, sl3, ho_found, h_other⟩ := hI
      have h_relief := PyI.st sl3 h_relief
      have h_square := PyI.st sl3 h_square
      first | refine norm_st (σ' := [some v_relief, some v_square, some v_found, some v_other]) rfl ?_ | skip
      exact ⟨_, rfl, hm _ Wi3 g0 rfl ⟨fp_found, ho_found.own, fun b m => ⟨ho_found.fr b m, Var.nS g00 ho_found b m, ho_found.nF b m⟩⟩⟩
abbrev s__law_same : Stmt := top 45
abbrev N__law_same : List Str := ["a", "b", "k"]
abbrev P__law_same : List Str := ["a", "b"]
theorem sc__law_same : FnScope N__law_same P__law_same (defScope s__law_same) := ⟨rfl, rfl, rfl, by decide +kernel, rfl, by decide +kernel, by decide +kernel⟩
def m__law_same : Nat → PyData → PyData → WP Bool
  | 0, _, _ => WP.none (b := ())
  | fu + 1, a_a, a_b => (WP.or ((WP.pure a_b).bind fun d => WP.pure (isB "tuple" d)) ((WP.pure a_b).bind fun d => WP.pure (isB "list" d))).bind fun b => WP.cond b ((WP.or (WP.and ((WP.pure a_b).bind fun d => WP.pure (isB "tuple" d)) (WP.not ((WP.pure a_a).bind fun d => WP.pure (isB "tuple" d)))) (WP.and ((WP.pure a_b).bind fun d => WP.pure (isB "list" d)) (WP.not ((WP.pure a_a).bind fun d => WP.pure (isB "list" d))))).bind fun b => WP.cond b ((WP.pure false).bind fun r3 => (WP.pure r3)) ((WP.ne (WP.lenU (WP.pure a_a)) (WP.lenU (WP.pure a_b))).bind fun b => WP.cond b ((WP.pure false).bind fun r5 => (WP.pure r5)) ((WP.range1 (WP.lenU (WP.pure a_b))).bind fun xs6 => WP.after (WP.loop (γ := Bool) (fun c6 (y6 : Unit) => (WP.not (WP.b2 (WP.ixU (WP.pure a_a) (WP.pure c6)) (WP.ixU (WP.pure a_b) (WP.pure c6)) (m__law_same fu))).bind fun b => WP.cond b ((WP.pure false).bind fun r8 => (WP.pure (.rt r8))) ((WP.pure (.nx ())))) xs6 ()) (fun (z6 : Unit) => (WP.pure true).bind fun r9 => (WP.pure r9)) (fun r => (WP.pure r))))) ((WP.or ((WP.pure a_a).bind fun d => WP.pure (isB "bool" d)) ((WP.pure a_b).bind fun d => WP.pure (isB "bool" d))).bind fun b => WP.cond b ((WP.and ((WP.pure a_a).bind fun d => WP.pure (isB "bool" d)) (WP.and ((WP.pure a_b).bind fun d => WP.pure (isB "bool" d)) (WP.eqD (WP.pure a_a) (WP.pure a_b)))).bind fun r11 => (WP.pure r11)) (((WP.pure a_b).bind fun d => WP.pure (isB "int" d)).bind fun b => WP.cond b ((WP.and ((WP.pure a_a).bind fun d => WP.pure (isB "int" d)) (WP.eqD (WP.pure a_a) (WP.pure a_b))).bind fun r13 => (WP.pure r13)) (((WP.pure a_b).bind fun d => WP.pure (isB "str" d)).bind fun b => WP.cond b ((WP.and ((WP.pure a_a).bind fun d => WP.pure (isB "str" d)) (WP.eqD (WP.pure a_a) (WP.pure a_b))).bind fun r15 => (WP.pure r15)) ((WP.and ((WP.pure a_a).bind fun d => WP.pure (isNonD d)) ((WP.pure a_b).bind fun d => WP.pure (isNonD d))).bind fun r16 => (WP.pure r16)))))
def sp__law_same (fu : Nat) : Sp := fun vs H Q _ => ∃ (W : Wo) (a_a : PyData) (a_b : PyData) (v_a v_b : V), vs = [v_a, v_b] ∧ W.H = H ∧ Good ef0 W ∧ Rp W a_a v_a ∧ Rp W a_b v_b ∧ (m__law_same fu a_a a_b).run W.n fun n r => ∀ v W', Gw ef0 W W' → W'.n = n → (sI (e := ef0) (α := Bool)).post W W' r v → Q v W'.H
theorem ev__law_same {fu : Nat} {e : Ef} {σ : L2.St} {W : Wo} {E : XK} {t0 t1 : TE} {w0 : WP PyData} {w1 : WP PyData} (h0 : EvW e t0 σ W sI w0) (h1 : EvW e t1 σ W sI w1) : EvW e (tCall (sp__law_same fu) [] E (tCons t0 (tCons t1 tNil))) σ W (sI (α := Bool)) (WP.b2 w0 w1 (m__law_same fu)) := ew_call2N h0 h1 fun W2 b0 b1 x0 x1 g2 r0 r1 Q q E => by
  exact ⟨W2, b0, b1, x0, x1, rfl, rfl, g2.z, r0, r1, WP.mono _ (fun n c h v W3 g3 hn p => h v W3 (Gw.up g2 g3) hn p) q⟩
theorem ok__law_same (F : At K mg "_law_same" s__law_same P__law_same) (G : Glb mg)  : ∀ fu : Nat, Has P w K mg base "_law_same" (1 + fu) P__law_same (sp__law_same fu)
  | 0 => by
    refine Has.of F sc__law_same (fun vs H Q E h => ?_) (fun f cdv A outer s H0 vs Q E hr h => ?_)
    · obtain ⟨W0, a_a, a_b, v_a, v_b, rfl, _⟩ := h
      rfl
    · obtain ⟨W0, a_a, a_b, v_a, v_b, rfl, rfl, g00, h_a, h_b, hm⟩ := h
      exact ⟨_, pss_dead, (show False from hm)⟩
  | fu + 1 => by
    have H__law_same := ok__law_same F G fu
    refine Has.of F sc__law_same (fun vs H Q E h => ?_) (fun f cdv A outer s H0 vs Q E hr h => ?_)
    · obtain ⟨W0, a_a, a_b, v_a, v_b, rfl, _⟩ := h
      rfl
    · obtain ⟨W0, a_a, a_b, v_a, v_b, rfl, rfl, g00, h_a, h_b, hm⟩ := h
      have sc := sc__law_same
      have g0 := Gw.refl g00
      rw [m__law_same] at hm
      refine ⟨_, (pss_cons (ps_if (PW.pt (pw_or (pt_val (pe_callB call_isi (by rfl) G.isinstance (by decide +kernel) (pa_cons (pv 1) (pa_cons (pe_bltn (v := .ty "tuple") (u := .type "tuple") rfl G.tuple (by decide +kernel) rfl) pa_nil)))) (pw_or1 (pt_val (pe_callB call_isi (by rfl) G.isinstance (by decide +kernel) (pa_cons (pv 1) (pa_cons (pe_bltn (v := .ty "list") (u := .type "list") rfl G.list (by decide +kernel) rfl) pa_nil))))))) (pss_cons (ps_if (PW.pt (pw_or (PW.pt (pw_and (pt_val (pe_callB call_isi (by rfl) G.isinstance (by decide +kernel) (pa_cons (pv 1) (pa_cons (pe_bltn (v := .ty "tuple") (u := .type "tuple") rfl G.tuple (by decide +kernel) rfl) pa_nil)))) (pw_and1 (pt_not (pt_val (pe_callB call_isi (by rfl) G.isinstance (by decide +kernel) (pa_cons (pv 0) (pa_cons (pe_bltn (v := .ty "tuple") (u := .type "tuple") rfl G.tuple (by decide +kernel) rfl) pa_nil)))))))) (pw_or1 (PW.pt (pw_and (pt_val (pe_callB call_isi (by rfl) G.isinstance (by decide +kernel) (pa_cons (pv 1) (pa_cons (pe_bltn (v := .ty "list") (u := .type "list") rfl G.list (by decide +kernel) rfl) pa_nil)))) (pw_and1 (pt_not (pt_val (pe_callB call_isi (by rfl) G.isinstance (by decide +kernel) (pa_cons (pv 0) (pa_cons (pe_bltn (v := .ty "list") (u := .type "list") rfl G.list (by decide +kernel) rfl) pa_nil))))))))))) (pss_one (ps_ret pe_bl)) pss_nil)
        (pss_cons (ps_if (pt_cmpR op_ne (pe_callB call_len_seq (by rfl) G.len PySem.boot_len (pa_cons (pv 0) pa_nil)) (pe_callB call_len_seq (by rfl) G.len PySem.boot_len (pa_cons (pv 1) pa_nil)) (nomark _)) (pss_one (ps_ret pe_bl)) pss_nil)
        (pss_cons (ps_for PassesOwn.never rfl (pi_range1 rfl G.range (pa_cons (pe_callB call_len_seq (by rfl) G.len PySem.boot_len (pa_cons (pv 1) pa_nil)) pa_nil)) (pg_name (i := 2) sc.nd rfl (Or.inl rfl))
        (pss_one (ps_if (pt_not (pt_val (pe_user H__law_same (hr.mono (by first | omega | exact Nat.le_refl _ | (simp only [Nat.add_eq]; omega))) rfl (pa_cons (pe_ix ix_seq (pv 0) (pv 2) (fun _ _ => rfl)) (pa_cons (pe_ix ix_seq (pv 1) (pv 2) (fun _ _ => rfl)) pa_nil))))) (pss_one (ps_ret pe_bl)) pss_nil)))
        (pss_one (ps_ret pe_bl))))) pss_nil)
        (pss_cons (ps_if (PW.pt (pw_or (pt_val (pe_callB call_isi (by rfl) G.isinstance (by decide +kernel) (pa_cons (pv 0) (pa_cons (pe_bltn (v := .ty "bool") (u := .type "bool") rfl G.bool (by decide +kernel) rfl) pa_nil)))) (pw_or1 (pt_val (pe_callB call_isi (by rfl) G.isinstance (by decide +kernel) (pa_cons (pv 1) (pa_cons (pe_bltn (v := .ty "bool") (u := .type "bool") rfl G.bool (by decide +kernel) rfl) pa_nil))))))) (pss_one (ps_ret (pe_and (pe_callB call_isi (by rfl) G.isinstance (by decide +kernel) (pa_cons (pv 0) (pa_cons (pe_bltn (v := .ty "bool") (u := .type "bool") rfl G.bool (by decide +kernel) rfl) pa_nil))) (pe_and (pe_callB call_isi (by rfl) G.isinstance (by decide +kernel) (pa_cons (pv 1) (pa_cons (pe_bltn (v := .ty "bool") (u := .type "bool") rfl G.bool (by decide +kernel) rfl) pa_nil))) (pe_one (pe_cmpR (op_eqD hr.units) (pv 0) (pv 1) (nomark _))))))) pss_nil)
        (pss_cons (ps_if (pt_val (pe_callB call_isi (by rfl) G.isinstance (by decide +kernel) (pa_cons (pv 1) (pa_cons (pe_bltn (v := .ty "int") (u := .type "int") rfl G.int (by decide +kernel) rfl) pa_nil)))) (pss_one (ps_ret (pe_and (pe_callB call_isi (by rfl) G.isinstance (by decide +kernel) (pa_cons (pv 0) (pa_cons (pe_bltn (v := .ty "int") (u := .type "int") rfl G.int (by decide +kernel) rfl) pa_nil))) (pe_one (pe_cmpR (op_eqD hr.units) (pv 0) (pv 1) (nomark _)))))) pss_nil)
        (pss_cons (ps_if (pt_val (pe_callB call_isi (by rfl) G.isinstance (by decide +kernel) (pa_cons (pv 1) (pa_cons (pe_bltn (v := .ty "str") (u := .type "str") rfl G.str (by decide +kernel) rfl) pa_nil)))) (pss_one (ps_ret (pe_and (pe_callB call_isi (by rfl) G.isinstance (by decide +kernel) (pa_cons (pv 0) (pa_cons (pe_bltn (v := .ty "str") (u := .type "str") rfl G.str (by decide +kernel) rfl) pa_nil))) (pe_one (pe_cmpR (op_eqD hr.units) (pv 0) (pv 1) (nomark _)))))) pss_nil)
        (pss_one (ps_ret (pe_and (pe_cmp (pc_isN (pv 0))) (pe_one (pe_cmp (pc_isN (pv 1))))))))))), ?_⟩
      refine q_if (W := W0) (et_or (et_B (ew_isiU "tuple" (kB (by decide +kernel)) (ew_var (v := v_b) rfl h_b))) (et_B (ew_isiU "list" (kB (by decide +kernel)) (ew_var (v := v_b) rfl h_b)))) g0.ok hm (fun W1 g1 hm => ?_) (fun W1 g1 hm => ?_)
      ·
        have h_a := PyI.st g1.st h_a
        have h_b := PyI.st g1.st h_b
        have g0 := g0.trans g1
        refine q_if (W := W1) (et_or (et_and (et_B (ew_isiU "tuple" (kB (by decide +kernel)) (ew_var (v := v_b) rfl h_b))) (et_not (et_B (ew_isiU "tuple" (kB (by decide +kernel)) (ew_var (v := v_a) rfl h_a))))) (et_and (et_B (ew_isiU "list" (kB (by decide +kernel)) (ew_var (v := v_b) rfl h_b))) (et_not (et_B (ew_isiU "list" (kB (by decide +kernel)) (ew_var (v := v_a) rfl h_a)))))) g0.ok hm (fun W2 g2 hm => ?_) (fun W2 g2 hm => ?_)
        ·
          have h_a := PyI.st g2.st h_a
          have h_b := PyI.st g2.st h_b
          have g0 := g0.trans g2
          refine st_ret (W := W2) ew_bl g0.ok hm fun r3 v_ret W3 g3 hp hm => ?_
          exact hm v_ret W3 (g0.trans g3) rfl hp
        ·
          have h_a := PyI.st g2.st h_a
          have h_b := PyI.st g2.st h_b
          have g0 := g0.trans g2
          refine st_next ?_
          refine q_if (W := W2) (et_t (ew_ne (ew_lenU (ew_var (v := v_a) rfl h_a)) (ew_lenU (ew_var (v := v_b) rfl h_b)))) g0.ok hm (fun W4 g4 hm => ?_) (fun W4 g4 hm => ?_)
          ·
            have h_a := PyI.st g4.st h_a
            have h_b := PyI.st g4.st h_b
            have g0 := g0.trans g4
            refine st_ret (W := W4) ew_bl g0.ok hm fun r5 v_ret W5 g5 hp hm => ?_
            exact hm v_ret W5 (g0.trans g5) rfl hp
          ·
            have h_a := PyI.st g4.st h_a
            have h_b := PyI.st g4.st h_b
            have g0 := g0.trans g4
            refine st_next ?_
            refine q_forR1 (W := W4) (ew_lenU (ew_var (v := v_b) rfl h_b)) g0.ok hm fun W6 g6 => ?_
            have h_a := PyI.st g6.st h_a
            have h_b := PyI.st g6.st h_b
            have g0 := g0.trans g6
            refine ⟨fun y σ' W' => ∃ (o_k : Option V), σ' = [some v_a, some v_b, o_k] ∧ Gw ef0 W0 W' ∧ St W6 W', ⟨_, rfl, g0, (St.refl _)⟩, fun c6 y6 σi s2 Wi6 R6 nx6 ht hI hm kn6 kb6 kr6 => ?_, fun z6 σi Wi6 hI hm => ?_⟩
            ·
              obtain ⟨o_k, rfl, g0, sl6⟩ := hI
              have h_a := PyI.st sl6 h_a
              have h_b := PyI.st sl6 h_b
              obtain ⟨v_k, rfl, h_k⟩ := ht
              refine st_if (W := Wi6) (et_not (et_B (ev__law_same (ew_ixU (ew_var (v := v_a) rfl h_a) (ew_var (v := v_k) rfl h_k)) (ew_ixU (ew_var (v := v_b) rfl h_b) (ew_var (v := v_k) rfl h_k))))) g0.ok hm (fun W7 g7 hm => ?_) (fun W7 g7 hm => ?_)
              ·
                have h_a := PyI.st g7.st h_a
                have h_b := PyI.st g7.st h_b
                have h_k := PyI.st g7.st h_k
                have sl6 := sl6.trans g7.st
                have g0 := g0.trans g7
                refine st_ret (W := W7) ew_bl g0.ok hm fun r8 v_ret W8 g8 hp hm => ?_
                have hm := kr6 _ _ hm
                exact hm v_ret W8 (g0.trans g8) rfl hp
              ·
                have h_a := PyI.st g7.st h_a
                have h_b := PyI.st g7.st h_b
                have h_k := PyI.st g7.st h_k
                have sl6 := sl6.trans g7.st
                have g0 := g0.trans g7
                refine st_next ?_
                exact kn6 () _ W7 ⟨_, rfl, g0, sl6⟩ hm
            ·
              obtain ⟨o_k, rfl, g0, sl6⟩ := hI
              have h_a := PyI.st sl6 h_a
              have h_b := PyI.st sl6 h_b
              refine st_ret (W := Wi6) ew_bl g0.ok hm fun r9 v_ret W9 g9 hp hm => ?_
              exact hm v_ret W9 (g0.trans g9) rfl hp
      ·
        have h_a := PyI.st g1.st h_a
        have h_b := PyI.st g1.st h_b
        have g0 := g0.trans g1
        refine st_next ?_
        refine q_if (W := W1) (et_or (et_B (ew_isiU "bool" (kB (by decide +kernel)) (ew_var (v := v_a) rfl h_a))) (et_B (ew_isiU "bool" (kB (by decide +kernel)) (ew_var (v := v_b) rfl h_b)))) g0.ok hm (fun W10 g10 hm => ?_) (fun W10 g10 hm => ?_)
        ·
          have h_a := PyI.st g10.st h_a
          have h_b := PyI.st g10.st h_b
          have g0 := g0.trans g10
          refine st_ret (W := W10) (ew_andV (ew_isiU "bool" (kB (by decide +kernel)) (ew_var (v := v_a) rfl h_a)) (ew_andV (ew_isiU "bool" (kB (by decide +kernel)) (ew_var (v := v_b) rfl h_b)) (ew_eqD (ew_var (v := v_a) rfl h_a) (ew_var (v := v_b) rfl h_b)))) g0.ok hm fun r11 v_ret W11 g11 hp hm => ?_
          exact hm v_ret W11 (g0.trans g11) rfl hp
        ·
          have h_a := PyI.st g10.st h_a
          have h_b := PyI.st g10.st h_b
          have g0 := g0.trans g10
          refine st_next ?_
          refine q_if (W := W10) (et_B (ew_isiU "int" (kB (by decide +kernel)) (ew_var (v := v_b) rfl h_b))) g0.ok hm (fun W12 g12 hm => ?_) (fun W12 g12 hm => ?_)
          ·
            have h_a := PyI.st g12.st h_a
            have h_b := PyI.st g12.st h_b
            have g0 := g0.trans g12
            refine st_ret (W := W12) (ew_andV (ew_isiU "int" (kB (by decide +kernel)) (ew_var (v := v_a) rfl h_a)) (ew_eqD (ew_var (v := v_a) rfl h_a) (ew_var (v := v_b) rfl h_b))) g0.ok hm fun r13 v_ret W13 g13 hp hm => ?_
            exact hm v_ret W13 (g0.trans g13) rfl hp
          ·
            have h_a := PyI.st g12.st h_a
            have h_b := PyI.st g12.st h_b
            have g0 := g0.trans g12
            refine st_next ?_
            refine q_if (W := W12) (et_B (ew_isiU "str" (kB (by decide +kernel)) (ew_var (v := v_b) rfl h_b))) g0.ok hm (fun W14 g14 hm => ?_) (fun W14 g14 hm => ?_)
            ·
              have h_a := PyI.st g14.st h_a
              have h_b := PyI.st g14.st h_b
              have g0 := g0.trans g14
              refine st_ret (W := W14) (ew_andV (ew_isiU "str" (kB (by decide +kernel)) (ew_var (v := v_a) rfl h_a)) (ew_eqD (ew_var (v := v_a) rfl h_a) (ew_var (v := v_b) rfl h_b))) g0.ok hm fun r15 v_ret W15 g15 hp hm => ?_
              exact hm v_ret W15 (g0.trans g15) rfl hp
            ·
              have h_a := PyI.st g14.st h_a
              have h_b := PyI.st g14.st h_b
              have g0 := g0.trans g14
              refine st_next ?_
              refine st_ret (W := W14) (ew_andV (ew_isNU (ew_var (v := v_a) rfl h_a)) (ew_isNU (ew_var (v := v_b) rfl h_b))) g0.ok hm fun r16 v_ret W16 g16 hp hm => ?_
              exact hm v_ret W16 (g0.trans g16) rfl hp
abbrev s__law_at : Stmt := top 48
abbrev N__law_at : List Str := ["chart", "r", "c"]
abbrev P__law_at : List Str := ["chart", "r", "c"]
theorem sc__law_at : FnScope N__law_at P__law_at (defScope s__law_at) := ⟨rfl, rfl, rfl, by decide +kernel, rfl, by decide +kernel, by decide +kernel⟩
def m__law_at (a_chart : (List Str)) (a_r : Int) (a_c : Int) : WP Bool := (WP.and (WP.chain (fun i j => decide (i ≤ j)) (fun i j => decide (i < j)) (WP.pure (0 : Int)) (WP.pure a_r) (WP.len (WP.pure a_chart))) (WP.and (WP.chain (fun i j => decide (i ≤ j)) (fun i j => decide (i < j)) (WP.pure (0 : Int)) (WP.pure a_c) (WP.lenS (WP.ix (WP.pure a_chart) (WP.pure (0 : Int))))) (WP.eq (WP.ixS (WP.ix (WP.pure a_chart) (WP.pure a_r)) (WP.pure a_c)) (WP.pure (Str.ofString "x"))))).bind fun r1 => (WP.pure r1)
def sp__law_at : Sp := fun vs H Q _ => ∃ (W : Wo) (a_chart : (List Str)) (a_r : Int) (a_c : Int) (v_chart v_r v_c : V), vs = [v_chart, v_r, v_c] ∧ W.H = H ∧ Good ef0 W ∧ Rp W a_chart v_chart ∧ Rp W a_r v_r ∧ Rp W a_c v_c ∧ (m__law_at a_chart a_r a_c).run W.n fun n r => ∀ v W', Gw ef0 W W' → W'.n = n → (sI (e := ef0) (α := Bool)).post W W' r v → Q v W'.H
theorem ev__law_at {e : Ef} {σ : L2.St} {W : Wo} {E : XK} {t0 t1 t2 : TE} {w0 : WP (List Str)} {w1 : WP Int} {w2 : WP Int} (h0 : EvW e t0 σ W sI w0) (h1 : EvW e t1 σ W sI w1) (h2 : EvW e t2 σ W sI w2) : EvW e (tCall sp__law_at [] E (tCons t0 (tCons t1 (tCons t2 tNil)))) σ W (sI (α := Bool)) (WP.b3 w0 w1 w2 m__law_at) := ew_call3N h0 h1 h2 fun W2 b0 b1 b2 x0 x1 x2 g2 r0 r1 r2 Q q E => by
  exact ⟨W2, b0, b1, b2, x0, x1, x2, rfl, rfl, g2.z, r0, r1, r2, WP.mono _ (fun n c h v W3 g3 hn p => h v W3 (Gw.up g2 g3) hn p) q⟩
theorem ok__law_at (F : At K mg "_law_at" s__law_at P__law_at) (G : Glb mg)  : Has P w K mg base "_law_at" 1 P__law_at sp__law_at := by
  refine Has.of F sc__law_at (fun vs H Q E h => ?_) (fun f cdv A outer s H0 vs Q E hr h => ?_)
  · obtain ⟨W0, a_chart, a_r, a_c, v_chart, v_r, v_c, rfl, _⟩ := h
    rfl
  · obtain ⟨W0, a_chart, a_r, a_c, v_chart, v_r, v_c, rfl, rfl, g00, h_chart, h_r, h_c, hm⟩ := h
    have sc := sc__law_at
    have g0 := Gw.refl g00
    unfold m__law_at at hm
    refine ⟨_, (pss_one (ps_ret (pe_and (pe_chain op_le op_lt pe_int (pv 1) (pe_callB call_len_seq (by rfl) G.len PySem.boot_len (pa_cons (pv 0) pa_nil))) (pe_and (pe_chain op_le op_lt pe_int (pv 2) (pe_callB call_len_str (by rfl) G.len PySem.boot_len (pa_cons (pe_ix ix_tup (pv 0) pe_int (fun _ _ => rfl)) pa_nil))) (pe_one (pe_cmpR op_eq (pe_ix ix_str (pe_ix ix_tup (pv 0) (pv 1) (fun _ _ => rfl)) (pv 2) (fun _ _ => rfl)) pe_str (nomark _))))))), ?_⟩
    refine st_ret (W := W0) (ew_andV (ew_chain (C := fun i j => decide (i ≤ j)) (C' := fun i j => decide (i < j)) ew_int (ew_var (v := v_r) rfl h_r) (ew_lenT (ew_var (v := v_chart) rfl h_chart))) (ew_andV (ew_chain (C := fun i j => decide (i ≤ j)) (C' := fun i j => decide (i < j)) ew_int (ew_var (v := v_c) rfl h_c) (ew_lenS (ew_ixT (ew_var (v := v_chart) rfl h_chart) ew_int))) (ew_eq (ew_ixS (ew_ixT (ew_var (v := v_chart) rfl h_chart) (ew_var (v := v_r) rfl h_r)) (ew_var (v := v_c) rfl h_c)) ew_str))) g0.ok hm fun r1 v_ret W1 g1 hp hm => ?_
    exact hm v_ret W1 (g0.trans g1) rfl hp
abbrev s__law_all : Stmt := top 50
abbrev N__law_all : List Str := ["chart", "found", "r", "c"]
abbrev P__law_all : List Str := ["chart"]
theorem sc__law_all : FnScope N__law_all P__law_all (defScope s__law_all) := ⟨rfl, rfl, rfl, by decide +kernel, rfl, by decide +kernel, by decide +kernel⟩
def m__law_all (a_chart : (List Str)) : WP (List Sq) := (WP.row (WP.pure ([] : List Sq))).bind fun a1_found => (WP.range1 (WP.len (WP.pure a_chart))).bind fun xs2 => WP.after (WP.loop (γ := (List Sq)) (fun c2 (y2 : (List Sq)) => (WP.range1 (WP.lenS (WP.ix (WP.pure a_chart) (WP.pure (0 : Int))))).bind fun xs3 => WP.after (WP.loop (γ := (List Sq)) (fun c3 (y3 : (List Sq)) => ((WP.pair (WP.pure c2) (WP.pure c3)).bind fun a => WP.req (y3.length < 100000) (y3 ++ [a])).bind fun a4_found => (WP.pure (.nx a4_found))) xs3 y2) (fun (z3 : (List Sq)) => (WP.pure (.nx z3))) (fun r => (WP.pure (.rt r)))) xs2 a1_found) (fun (z2 : (List Sq)) => (WP.pure z2)) (fun r => (WP.pure r))
def sp__law_all : Sp := fun vs H Q _ => ∃ (W : Wo) (a_chart : (List Str)) (v_chart : V), vs = [v_chart] ∧ W.H = H ∧ Good ef0 W ∧ Rp W a_chart v_chart ∧ (m__law_all a_chart).run W.n fun n r => ∀ v W', Gw ef0 W W' → W'.n = n → (sN (e := ef0) (kL Sq)).post W W' r v → Q v W'.H
theorem ev__law_all {e : Ef} {σ : L2.St} {W : Wo} {E : XK} {t0 : TE} {w0 : WP (List Str)} (h0 : EvW e t0 σ W sI w0) : EvW e (tCall sp__law_all [] E (tCons t0 tNil)) σ W (sN (kL Sq)) (WP.b1 w0 m__law_all) := ew_call1N h0 fun W2 b0 x0 g2 r0 Q q E => by
  exact ⟨W2, b0, x0, rfl, rfl, g2.z, r0, WP.mono _ (fun n c h v W3 g3 hn p => h v W3 (Gw.up g2 g3) hn (sN_up g2 p)) q⟩
theorem ok__law_all (F : At K mg "_law_all" s__law_all P__law_all) (G : Glb mg)  : Has P w K mg base "_law_all" 1 P__law_all sp__law_all := by
  refine Has.of F sc__law_all (fun vs H Q E h => ?_) (fun f cdv A outer s H0 vs Q E hr h => ?_)
  · obtain ⟨W0, a_chart, v_chart, rfl, _⟩ := h
    rfl
  · obtain ⟨W0, a_chart, v_chart, rfl, rfl, g00, h_chart, hm⟩ := h
    have sc := sc__law_all
    have g0 := Gw.refl g00
    unfold m__law_all at hm
    refine ⟨_, (pss_cons (ps_set (i := 1) sc.nd rfl (Or.inl rfl) (pe_lst pa_nil))
      (pss_cons (ps_for PassesOwn.never rfl (pi_range1 rfl G.range (pa_cons (pe_callB call_len_seq (by rfl) G.len PySem.boot_len (pa_cons (pv 0) pa_nil)) pa_nil)) (pg_name (i := 2) sc.nd rfl (Or.inl rfl))
      (pss_one (ps_for PassesOwn.never rfl (pi_range1 rfl G.range (pa_cons (pe_callB call_len_str (by rfl) G.len PySem.boot_len (pa_cons (pe_ix ix_tup (pv 0) pe_int (fun _ _ => rfl)) pa_nil)) pa_nil)) (pg_name (i := 3) sc.nd rfl (Or.inl rfl))
      (pss_one (ps_expr (pe_bm PySem.F.plainAttrs_list PySem.F.slot_list_append PySem.F.type_list_append mt_append (pv 1) (pa_cons (pe_tup (pa_cons (pv 2) (pa_cons (pv 3) pa_nil))) pa_nil)))))))
      (pss_one (ps_ret (pv 1))))), ?_⟩
    refine q_asg (W := W0) (ew_lst (eas_nil (α := Sq))) g0.ok hm fun a1_found v_found W1 g1 ⟨fp_found, ho0_found, hf_found⟩ hm => ?_
    have hz_found : ∀ a ∈ fp_found, W0.H a = none := fun a m => g0.live a (hf_found a m).1
    have h_chart := PyI.st g1.st h_chart
    have g0 := g0.trans g1
    have ho_found : Var (kL Sq) W0 W1 fp_found a1_found v_found := ⟨ho0_found, hz_found, fun b m => (hf_found b m).2.2⟩
    refine q_forR1 (W := W1) (ew_lenT (ew_var (v := v_chart) rfl h_chart)) g0.ok hm fun W2 g2 => ?_
    have h_chart := PyI.st g2.st h_chart
    have ho_found := ho_found.go g00 g2
    have g0 := g0.trans g2
    refine ⟨fun y σ' W' => ∃ (v_found : V) (fp_found : List Addr) (o_r : Option V) (o_c : Option V), σ' = [some v_chart, some v_found, o_r, o_c] ∧ Gw ef0 W0 W' ∧ St W2 W' ∧ Var (kL Sq) W0 W' fp_found y v_found, ⟨v_found, fp_found, _, _, rfl, g0, (St.refl _), ho_found⟩, fun c2 y2 σi s2 Wi2 R2 nx2 ht hI hm kn2 kb2 kr2 => ?_, fun z2 σi Wi2 hI hm => ?_⟩
    ·
      obtain ⟨v_found, fp_found, o_r, o_c, rfl, g0, sl2, ho_found⟩ := hI
      have h_chart := PyI.st sl2 h_chart
      obtain ⟨v_r, rfl, h_r⟩ := ht
      refine st_forR1 (W := Wi2) (ew_lenS (ew_ixT (ew_var (v := v_chart) rfl h_chart) ew_int)) g0.ok hm fun W3 g3 => ?_
      have h_chart := PyI.st g3.st h_chart
      have ho_found := ho_found.go g00 g3
      have h_r := PyI.st g3.st h_r
      have sl2 := sl2.trans g3.st
      have g0 := g0.trans g3
      refine ⟨fun y σ' W' => ∃ (v_found : V) (fp_found : List Addr) (o_c : Option V), σ' = [some v_chart, some v_found, some v_r, o_c] ∧ Gw ef0 W0 W' ∧ St W3 W' ∧ Var (kL Sq) W0 W' fp_found y v_found, ⟨v_found, fp_found, _, rfl, g0, (St.refl _), ho_found⟩, fun c3 y3 σi s2 Wi3 R3 nx3 ht hI hm kn3 kb3 kr3 => ?_, fun z3 σi Wi3 hI hm => ?_⟩
      ·
        obtain ⟨v_found, fp_found, o_c, rfl, g0, sl3, ho_found⟩ := hI
        have h_chart := PyI.st sl3 h_chart
        have h_r := PyI.st sl3 h_r
        have sl2 := sl2.trans sl3
        obtain ⟨v_c, rfl, h_c⟩ := ht
        refine st_app (W := Wi3) g00 g0 rfl ho_found (ew_pair (ew_var (v := v_r) rfl h_r) (ew_var (v := v_c) rfl h_c)) hm fun a4_found W4_ W4 l_found el_found g4 s g02 kk ff ho_found hm => ?_
        have h_chart := PyI.st g4.st h_chart
        have h_r := PyI.st g4.st h_r
        have h_c := PyI.st g4.st h_c
        have sl2 := sl2.trans g4.st
        have sl3 := sl3.trans g4.st
        have g0 := g0.trans g4
        have h_chart := PyI.st s h_chart
        have h_r := PyI.st s h_r
        have h_c := PyI.st s h_c
        have sl2 := sl2.trans s
        have sl3 := sl3.trans s
        have g0 := g02
        exact kn3 a4_found _ W4 ⟨v_found, fp_found, _, rfl, g0, sl3, ho_found⟩ hm
      ·
        obtain ⟨v_found, fp_found, o_c, rfl, g0, sl3, ho_found⟩ := hI
        have h_chart := PyI.st sl3 h_chart
        have h_r := PyI.st sl3 h_r
        have sl2 := sl2.trans sl3
        exact kn2 z3 _ Wi3 ⟨v_found, fp_found, _, _, rfl, g0, sl2, ho_found⟩ hm
    ·
      obtain ⟨v_found, fp_found, o_r, o_c, rfl, g0, sl2, ho_found⟩ := hI
      have h_chart := PyI.st sl2 h_chart
      exact ⟨_, rfl, hm _ Wi2 g0 rfl ⟨fp_found, ho_found.own, fun b m => ⟨ho_found.fr b m, Var.nS g00 ho_found b m, ho_found.nF b m⟩⟩⟩
abbrev s__law_sides : Stmt := top 51
abbrev N__law_sides : List Str := ["square", "r", "c"]
abbrev P__law_sides : List Str := ["square"]
theorem sc__law_sides : FnScope N__law_sides P__law_sides (defScope s__law_sides) := ⟨rfl, rfl, rfl, by decide +kernel, rfl, by decide +kernel, by decide +kernel⟩
def m__law_sides (a_square : Sq) : WP (List Sq) := (WP.pure a_square).bind fun a1_r_c => (WP.row (WP.consE (WP.pair (WP.sub (WP.pure a1_r_c.1) (WP.pure (1 : Int))) (WP.pure a1_r_c.2)) (WP.consE (WP.pair (WP.pure a1_r_c.1) (WP.sub (WP.pure a1_r_c.2) (WP.pure (1 : Int)))) (WP.consE (WP.pair (WP.pure a1_r_c.1) (WP.add (WP.pure a1_r_c.2) (WP.pure (1 : Int)))) (WP.consE (WP.pair (WP.add (WP.pure a1_r_c.1) (WP.pure (1 : Int))) (WP.pure a1_r_c.2)) (WP.pure ([] : List Sq))))))).bind fun r2 => (WP.pure r2)
def sp__law_sides : Sp := fun vs H Q _ => ∃ (W : Wo) (a_square : Sq) (v_square : V), vs = [v_square] ∧ W.H = H ∧ Good ef0 W ∧ Rp W a_square v_square ∧ (m__law_sides a_square).run W.n fun n r => ∀ v W', Gw ef0 W W' → W'.n = n → (sN (e := ef0) (kL Sq)).post W W' r v → Q v W'.H
theorem ev__law_sides {e : Ef} {σ : L2.St} {W : Wo} {E : XK} {t0 : TE} {w0 : WP Sq} (h0 : EvW e t0 σ W sI w0) : EvW e (tCall sp__law_sides [] E (tCons t0 tNil)) σ W (sN (kL Sq)) (WP.b1 w0 m__law_sides) := ew_call1N h0 fun W2 b0 x0 g2 r0 Q q E => by
  exact ⟨W2, b0, x0, rfl, rfl, g2.z, r0, WP.mono _ (fun n c h v W3 g3 hn p => h v W3 (Gw.up g2 g3) hn (sN_up g2 p)) q⟩
theorem ok__law_sides (F : At K mg "_law_sides" s__law_sides P__law_sides) (G : Glb mg)  : Has P w K mg base "_law_sides" 1 P__law_sides sp__law_sides := by
  refine Has.of F sc__law_sides (fun vs H Q E h => ?_) (fun f cdv A outer s H0 vs Q E hr h => ?_)
  · obtain ⟨W0, a_square, v_square, rfl, _⟩ := h
    rfl
  · obtain ⟨W0, a_square, v_square, rfl, rfl, g00, h_square, hm⟩ := h
    have sc := sc__law_sides
    have g0 := Gw.refl g00
    unfold m__law_sides at hm
    refine ⟨_, (pss_cons (ps_asg (pv 0) (pg_tup rfl (pgs_cons (pg_name (i := 1) sc.nd rfl (Or.inl rfl)) (pgs_cons (pg_name (i := 2) sc.nd rfl (Or.inl rfl)) pgs_nil))))
      (pss_one (ps_ret (pe_lst (pa_cons (pe_tup (pa_cons (pe_op op_sub (pv 1) pe_int) (pa_cons (pv 2) pa_nil))) (pa_cons (pe_tup (pa_cons (pv 1) (pa_cons (pe_op op_sub (pv 2) pe_int) pa_nil))) (pa_cons (pe_tup (pa_cons (pv 1) (pa_cons (pe_op op_add (pv 2) pe_int) pa_nil))) (pa_cons (pe_tup (pa_cons (pe_op op_add (pv 1) pe_int) (pa_cons (pv 2) pa_nil))) pa_nil)))))))), ?_⟩
    refine q_un2 (W := W0) (ew_var (v := v_square) rfl h_square) g0.ok hm fun a1_r_c v_r v_c W1 g1 h_r h_c hm => ?_
    have h_square := PyI.st g1.st h_square
    have g0 := g0.trans g1
    first | refine norm_st (σ' := [some v_square, some v_r, some v_c]) rfl ?_ | skip
    refine st_ret (W := W1) (ew_lst (eas_cons (ew_pair (ew_sub (ew_var (v := v_r) rfl h_r) ew_int) (ew_var (v := v_c) rfl h_c)) (eas_cons (ew_pair (ew_var (v := v_r) rfl h_r) (ew_sub (ew_var (v := v_c) rfl h_c) ew_int)) (eas_cons (ew_pair (ew_var (v := v_r) rfl h_r) (ew_add (ew_var (v := v_c) rfl h_c) ew_int)) (eas_cons (ew_pair (ew_add (ew_var (v := v_r) rfl h_r) ew_int) (ew_var (v := v_c) rfl h_c)) (eas_nil (α := Sq))))))) g0.ok hm fun r2 v_ret W2 g2 hp hm => ?_
    exact hm v_ret W2 (g0.trans g2) rfl ((sN (kL Sq)).back g0 hp)
abbrev s__law_around : Stmt := top 52
abbrev N__law_around : List Str := ["square", "r", "c", "found", "down", "right"]
abbrev P__law_around : List Str := ["square"]
theorem sc__law_around : FnScope N__law_around P__law_around (defScope s__law_around) := ⟨rfl, rfl, rfl, by decide +kernel, rfl, by decide +kernel, by decide +kernel⟩
def m__law_around (a_square : Sq) : WP (List Sq) := (WP.pure a_square).bind fun a1_r_c => (WP.row (WP.pure ([] : List Sq))).bind fun a2_found => (WP.row (WP.consE (WP.neg (WP.pure (1 : Int))) (WP.consE (WP.pure (0 : Int)) (WP.consE (WP.pure (1 : Int)) (WP.pure ([] : List Int)))))).bind fun xs3 => WP.after (WP.loop (γ := (List Sq)) (fun c3 (y3 : (List Sq)) => (WP.row (WP.consE (WP.neg (WP.pure (1 : Int))) (WP.consE (WP.pure (0 : Int)) (WP.consE (WP.pure (1 : Int)) (WP.pure ([] : List Int)))))).bind fun xs4 => WP.after (WP.loop (γ := (List Sq)) (fun c4 (y4 : (List Sq)) => ((WP.or (WP.ne (WP.pure c3) (WP.pure (0 : Int))) (WP.ne (WP.pure c4) (WP.pure (0 : Int)))).bind fun b => WP.cond b (((WP.pair (WP.add (WP.pure a1_r_c.1) (WP.pure c3)) (WP.add (WP.pure a1_r_c.2) (WP.pure c4))).bind fun a => WP.req (y4.length < 100000) (y4 ++ [a])).bind fun a6_found => (WP.pure a6_found)) ((WP.pure y4))).bind fun (y5 : (List Sq)) => (WP.pure (.nx y5))) xs4 y3) (fun (z4 : (List Sq)) => (WP.pure (.nx z4))) (fun r => (WP.pure (.rt r)))) xs3 a2_found) (fun (z3 : (List Sq)) => (WP.pure z3)) (fun r => (WP.pure r))
def sp__law_around : Sp := fun vs H Q _ => ∃ (W : Wo) (a_square : Sq) (v_square : V), vs = [v_square] ∧ W.H = H ∧ Good ef0 W ∧ Rp W a_square v_square ∧ (m__law_around a_square).run W.n fun n r => ∀ v W', Gw ef0 W W' → W'.n = n → (sN (e := ef0) (kL Sq)).post W W' r v → Q v W'.H
theorem ev__law_around {e : Ef} {σ : L2.St} {W : Wo} {E : XK} {t0 : TE} {w0 : WP Sq} (h0 : EvW e t0 σ W sI w0) : EvW e (tCall sp__law_around [] E (tCons t0 tNil)) σ W (sN (kL Sq)) (WP.b1 w0 m__law_around) := ew_call1N h0 fun W2 b0 x0 g2 r0 Q q E => by
  exact ⟨W2, b0, x0, rfl, rfl, g2.z, r0, WP.mono _ (fun n c h v W3 g3 hn p => h v W3 (Gw.up g2 g3) hn (sN_up g2 p)) q⟩
theorem ok__law_around (F : At K mg "_law_around" s__law_around P__law_around) (G : Glb mg)  : Has P w K mg base "_law_around" 1 P__law_around sp__law_around := by
  refine Has.of F sc__law_around (fun vs H Q E h => ?_) (fun f cdv A outer s H0 vs Q E hr h => ?_)
  · obtain ⟨W0, a_square, v_square, rfl, _⟩ := h
    rfl
  · obtain ⟨W0, a_square, v_square, rfl, rfl, g00, h_square, hm⟩ := h
    have sc := sc__law_around
    have g0 := Gw.refl g00
    unfold m__law_around at hm
    refine ⟨_, (pss_cons (ps_asg (pv 0) (pg_tup rfl (pgs_cons (pg_name (i := 1) sc.nd rfl (Or.inl rfl)) (pgs_cons (pg_name (i := 2) sc.nd rfl (Or.inl rfl)) pgs_nil))))
      (pss_cons (ps_set (i := 3) sc.nd rfl (Or.inl rfl) (pe_lst pa_nil))
      (pss_cons (ps_for PassesOwn.never rfl (pi_list (pe_lst (pa_cons (pe_un un_neg pe_int) (pa_cons pe_int (pa_cons pe_int pa_nil))))) (pg_name (i := 4) sc.nd rfl (Or.inl rfl))
      (pss_one (ps_for PassesOwn.never rfl (pi_list (pe_lst (pa_cons (pe_un un_neg pe_int) (pa_cons pe_int (pa_cons pe_int pa_nil))))) (pg_name (i := 5) sc.nd rfl (Or.inl rfl))
      (pss_one (ps_if (PW.pt (pw_or (pt_cmpR op_ne (pv 4) pe_int (nomark _)) (pw_or1 (pt_cmpR op_ne (pv 5) pe_int (nomark _))))) (pss_one (ps_expr (pe_bm PySem.F.plainAttrs_list PySem.F.slot_list_append PySem.F.type_list_append mt_append (pv 3) (pa_cons (pe_tup (pa_cons (pe_op op_add (pv 1) (pv 4)) (pa_cons (pe_op op_add (pv 2) (pv 5)) pa_nil))) pa_nil)))) pss_nil)))))
      (pss_one (ps_ret (pv 3)))))), ?_⟩
    refine q_un2 (W := W0) (ew_var (v := v_square) rfl h_square) g0.ok hm fun a1_r_c v_r v_c W1 g1 h_r h_c hm => ?_
    have h_square := PyI.st g1.st h_square
    have g0 := g0.trans g1
    first | refine norm_st (σ' := [some v_square, some v_r, some v_c, none, none, none]) rfl ?_ | skip
    refine q_asg (W := W1) (ew_lst (eas_nil (α := Sq))) g0.ok hm fun a2_found v_found W2 g2 ⟨fp_found, ho0_found, hf_found⟩ hm => ?_
    have hz_found : ∀ a ∈ fp_found, W0.H a = none := fun a m => g0.live a (hf_found a m).1
    have h_square := PyI.st g2.st h_square
    have h_r := PyI.st g2.st h_r
    have h_c := PyI.st g2.st h_c
    have g0 := g0.trans g2
    have ho_found : Var (kL Sq) W0 W2 fp_found a2_found v_found := ⟨ho0_found, hz_found, fun b m => (hf_found b m).2.2⟩
    refine q_forN (W := W2) tk_N (ew_lst (eas_cons (ew_neg ew_int) (eas_cons ew_int (eas_cons ew_int (eas_nil (α := Int)))))) g0.ok hm fun xs3 p_it3 vs_it3 W3 g3 hn_it3 hF_it3 hp_it3 hr_it3 => ?_
    have dj_it3_found : ∀ b ∈ [p_it3], b ∉ fp_found := fun b m z => by cases mem_one m; exact (kL Sq).live ho_found.own _ z hn_it3
    have nS_it3 : ¬ ef0.S p_it3 := fun z => g0.ok.S _ z hn_it3
    have h_square := PyI.st g3.st h_square
    have h_r := PyI.st g3.st h_r
    have h_c := PyI.st g3.st h_c
    have ho_found := ho_found.go g00 g3
    have g0 := g0.trans g3
    refine ⟨fun y σ' W' => ∃ (v_found : V) (fp_found : List Addr) (o_down : Option V) (o_right : Option V), σ' = [some v_square, some v_r, some v_c, some v_found, o_down, o_right] ∧ Gw ef0 W0 W' ∧ St W3 W' ∧ Var (kL Sq) W0 W' fp_found y v_found ∧ W'.H p_it3 = some (.lst vs_it3) ∧ (∀ b ∈ [p_it3], b ∉ fp_found), ⟨v_found, fp_found, _, _, rfl, g0, (St.refl _), ho_found, hp_it3, dj_it3_found⟩, fun _ _ _ hI => ?_, fun c3 y3 σi s2 Wi3 R3 nx3 ht hI hm kn3 kb3 kr3 => ?_, fun z3 σi Wi3 hI hm => ?_⟩
    · obtain ⟨v_found, fp_found, o_down, o_right, rfl, g0, sl3, ho_found, hp_it3, dj_it3_found⟩ := hI
      exact ⟨sl3, hp_it3⟩
    ·
      obtain ⟨v_found, fp_found, o_down, o_right, rfl, g0, sl3, ho_found, hp_it3, dj_it3_found⟩ := hI
      have h_square := PyI.st sl3 h_square
      have h_r := PyI.st sl3 h_r
      have h_c := PyI.st sl3 h_c
      obtain ⟨v_down, rfl, h_down⟩ := ht
      refine st_forN (W := Wi3) tk_N (ew_lst (eas_cons (ew_neg ew_int) (eas_cons ew_int (eas_cons ew_int (eas_nil (α := Int)))))) g0.ok hm fun xs4 p_it4 vs_it4 W4 g4 hn_it4 hF_it4 hp_it4 hr_it4 => ?_
      have dj_it4_found : ∀ b ∈ [p_it4], b ∉ fp_found := fun b m z => by cases mem_one m; exact (kL Sq).live ho_found.own _ z hn_it4
      have nS_it4 : ¬ ef0.S p_it4 := fun z => g0.ok.S _ z hn_it4
      have h_square := PyI.st g4.st h_square
      have h_r := PyI.st g4.st h_r
      have h_c := PyI.st g4.st h_c
      have ho_found := ho_found.go g00 g4
      have h_down := PyI.st g4.st h_down
      have sl3 := sl3.trans g4.st
      have hp_it3 := g4.keep _ _ hp_it3 nS_it3
      have g0 := g0.trans g4
      refine ⟨fun y σ' W' => ∃ (v_found : V) (fp_found : List Addr) (o_right : Option V), σ' = [some v_square, some v_r, some v_c, some v_found, some v_down, o_right] ∧ Gw ef0 W0 W' ∧ St W4 W' ∧ Var (kL Sq) W0 W' fp_found y v_found ∧ W'.H p_it3 = some (.lst vs_it3) ∧ W'.H p_it4 = some (.lst vs_it4) ∧ (∀ b ∈ [p_it3], b ∉ fp_found) ∧ (∀ b ∈ [p_it4], b ∉ fp_found), ⟨v_found, fp_found, _, rfl, g0, (St.refl _), ho_found, hp_it3, hp_it4, dj_it3_found, dj_it4_found⟩, fun _ _ _ hI => ?_, fun c4 y4 σi s2 Wi4 R4 nx4 ht hI hm kn4 kb4 kr4 => ?_, fun z4 σi Wi4 hI hm => ?_⟩
      · obtain ⟨v_found, fp_found, o_right, rfl, g0, sl4, ho_found, hp_it3, hp_it4, dj_it3_found, dj_it4_found⟩ := hI
        exact ⟨sl4, hp_it4⟩
      ·
        obtain ⟨v_found, fp_found, o_right, rfl, g0, sl4, ho_found, hp_it3, hp_it4, dj_it3_found, dj_it4_found⟩ := hI
        have h_square := PyI.st sl4 h_square
        have h_r := PyI.st sl4 h_r
        have h_c := PyI.st sl4 h_c
        have h_down := PyI.st sl4 h_down
        have sl3 := sl3.trans sl4
        obtain ⟨v_right, rfl, h_right⟩ := ht
        refine st_join (W := Wi4) (s := (List Sq)) (fun y σ' W' => ∃ (v_found : V) (fp_found : List Addr), σ' = [some v_square, some v_r, some v_c, some v_found, some v_down, some v_right] ∧ Gw ef0 W0 W' ∧ St Wi4 W' ∧ Var (kL Sq) W0 W' fp_found y v_found ∧ W'.H p_it3 = some (.lst vs_it3) ∧ W'.H p_it4 = some (.lst vs_it4) ∧ (∀ b ∈ [p_it3], b ∉ fp_found) ∧ (∀ b ∈ [p_it4], b ∉ fp_found)) (et_or (et_t (ew_ne (ew_var (v := v_down) rfl h_down) ew_int)) (et_t (ew_ne (ew_var (v := v_right) rfl h_right) ew_int))) g0.ok hm (fun y5 σj Wj5 hI hm => ?_) (fun W5 R5 g5 hm kj => ?_) (fun W5 R5 g5 hm kj => ?_)
        ·
          obtain ⟨v_found, fp_found, rfl, g0, sj5, ho_found, hp_it3, hp_it4, dj_it3_found, dj_it4_found⟩ := hI
          have h_square := PyI.st sj5 h_square
          have h_r := PyI.st sj5 h_r
          have h_c := PyI.st sj5 h_c
          have h_down := PyI.st sj5 h_down
          have h_right := PyI.st sj5 h_right
          have sl3 := sl3.trans sj5
          have sl4 := sl4.trans sj5
          exact kn4 y5 _ Wj5 ⟨v_found, fp_found, _, rfl, g0, sl4, ho_found, hp_it3, hp_it4, dj_it3_found, dj_it4_found⟩ hm
        ·
          have h_square := PyI.st g5.st h_square
          have h_r := PyI.st g5.st h_r
          have h_c := PyI.st g5.st h_c
          have ho_found := ho_found.go g00 g5
          have h_down := PyI.st g5.st h_down
          have h_right := PyI.st g5.st h_right
          have sl3 := sl3.trans g5.st
          have sl4 := sl4.trans g5.st
          have hp_it3 := g5.keep _ _ hp_it3 nS_it3
          have hp_it4 := g5.keep _ _ hp_it4 nS_it4
          have g0 := g0.trans g5
          have sj5 := g5.st
          refine st_app (W := W5) g00 g0 rfl ho_found (ew_pair (ew_add (ew_var (v := v_r) rfl h_r) (ew_var (v := v_down) rfl h_down)) (ew_add (ew_var (v := v_c) rfl h_c) (ew_var (v := v_right) rfl h_right))) hm fun a6_found W6_ W6 l_found el_found g6 s g02 kk ff ho_found hm => ?_
          have h_square := PyI.st g6.st h_square
          have h_r := PyI.st g6.st h_r
          have h_c := PyI.st g6.st h_c
          have h_down := PyI.st g6.st h_down
          have h_right := PyI.st g6.st h_right
          have sl3 := sl3.trans g6.st
          have sl4 := sl4.trans g6.st
          have sj5 := sj5.trans g6.st
          have hp_it3 := g6.keep _ _ hp_it3 nS_it3
          have hp_it4 := g6.keep _ _ hp_it4 nS_it4
          have g0 := g0.trans g6
          have h_square := PyI.st s h_square
          have h_r := PyI.st s h_r
          have h_c := PyI.st s h_c
          have h_down := PyI.st s h_down
          have h_right := PyI.st s h_right
          have sl3 := sl3.trans s
          have sl4 := sl4.trans s
          have sj5 := sj5.trans s
          have hp_it3 := kk [p_it3] _ Kp.refl dj_it3_found _ (List.mem_singleton.mpr rfl) _ hp_it3
          have hp_it4 := kk [p_it4] _ Kp.refl dj_it4_found _ (List.mem_singleton.mpr rfl) _ hp_it4
          have g0 := g02
          exact kj a6_found _ W6 ⟨v_found, fp_found, rfl, g0, sj5, ho_found, hp_it3, hp_it4, dj_it3_found, dj_it4_found⟩ hm
        ·
          have h_square := PyI.st g5.st h_square
          have h_r := PyI.st g5.st h_r
          have h_c := PyI.st g5.st h_c
          have ho_found := ho_found.go g00 g5
          have h_down := PyI.st g5.st h_down
          have h_right := PyI.st g5.st h_right
          have sl3 := sl3.trans g5.st
          have sl4 := sl4.trans g5.st
          have hp_it3 := g5.keep _ _ hp_it3 nS_it3
          have hp_it4 := g5.keep _ _ hp_it4 nS_it4
          have g0 := g0.trans g5
          have sj5 := g5.st
          refine st_next ?_
          exact kj y4 _ W5 ⟨v_found, fp_found, rfl, g0, sj5, ho_found, hp_it3, hp_it4, dj_it3_found, dj_it4_found⟩ hm
      ·
        obtain ⟨v_found, fp_found, o_right, rfl, g0, sl4, ho_found, hp_it3, hp_it4, dj_it3_found, dj_it4_found⟩ := hI
        have h_square := PyI.st sl4 h_square
        have h_r := PyI.st sl4 h_r
        have h_c := PyI.st sl4 h_c
        have h_down := PyI.st sl4 h_down
        have sl3 := sl3.trans sl4
        exact kn3 z4 _ Wi4 ⟨v_found, fp_found, _, _, rfl, g0, sl3, ho_found, hp_it3, dj_it3_found⟩ hm
    ·
      obtain ⟨v_found, fp_found, o_down, o_right, rfl, g0, sl3, ho_found, hp_it3, dj_it3_found⟩ := hI
      have h_square := PyI.st sl3 h_square
      have h_r := PyI.st sl3 h_r
      have h_c := PyI.st sl3 h_c
      exact ⟨_, rfl, hm _ Wi3 g0 rfl ⟨fp_found, ho_found.own, fun b m => ⟨ho_found.fr b m, Var.nS g00 ho_found b m, ho_found.nF b m⟩⟩⟩
abbrev s__law_spread : Stmt := top 53
abbrev N__law_spread : List Str := ["squares", "start", "wide", "known", "square", "met", "at", "near"]
abbrev P__law_spread : List Str := ["squares", "start", "wide"]
theorem sc__law_spread : FnScope N__law_spread P__law_spread (defScope s__law_spread) := ⟨rfl, rfl, rfl, by decide +kernel, rfl, by decide +kernel, by decide +kernel⟩
def m__law_spread (a_squares : (List Sq)) (a_start : Sq) (a_wide : Bool) : WP (List Sq) := (WP.pure ([] : (List (Sq × Bool)))).bind fun a1_known => WP.after (WP.loop (γ := (List Sq)) (fun c2 (y2 : (List (Sq × Bool))) => (WP.b2 (WP.pure false) (WP.pure c2) fun b q => WP.req (y2.length < 100000) (putQ y2 q b)).bind fun a3_known => (WP.pure (.nx a3_known))) a_squares a1_known) (fun (z2 : (List (Sq × Bool))) => (WP.row (WP.consE (WP.pure a_start) (WP.pure ([] : List Sq)))).bind fun a4_met => (WP.b2 (WP.pure true) (WP.pure a_start) fun b q => WP.req (z2.length < 100000) (putQ z2 q b)).bind fun a5_known => (WP.range1 (WP.pure (3000 : Int))).bind fun xs6 => WP.after (WP.loop (γ := (List Sq)) (fun c6 (y6 : (List (Sq × Bool)) × (List Sq)) => ((WP.lt (WP.pure c6) (WP.len (WP.pure y6.2))).bind fun b => WP.cond b (((WP.ite (WP.pure a_wide) (WP.b1 (WP.ix (WP.pure y6.2) (WP.pure c6)) m__law_around) (WP.b1 (WP.ix (WP.pure y6.2) (WP.pure c6)) m__law_sides)).bind fun xs => WP.pure (⟨xs⟩ : (Ls Sq))).bind fun a8_near => ((WP.pure a8_near).bind fun x => WP.pure x.l).bind fun xs9 => WP.after (WP.loop (γ := (List Sq)) (fun c9 (y9 : (List (Sq × Bool)) × (List Sq)) => ((WP.and (WP.din (WP.pure c9) (WP.pure y9.1)) (WP.not (WP.dget (WP.pure y9.1) (WP.pure c9)))).bind fun b => WP.cond b ((WP.b2 (WP.pure true) (WP.pure c9) fun b q => WP.req (y9.1.length < 100000) (putQ y9.1 q b)).bind fun a11_known => ((WP.pure c9).bind fun a => WP.req (y9.2.length < 100000) (y9.2 ++ [a])).bind fun a12_met => (WP.pure (a11_known, a12_met))) ((WP.pure (y9.1, y9.2)))).bind fun (y10 : (List (Sq × Bool)) × (List Sq)) => (WP.pure (.nx (y10.1, y10.2)))) xs9 (y6.1, y6.2)) (fun (z9 : (List (Sq × Bool)) × (List Sq)) => (WP.pure (z9.1, z9.2))) (fun r => (WP.none (b := r)))) ((WP.pure (y6.1, y6.2)))).bind fun (y7 : (List (Sq × Bool)) × (List Sq)) => (WP.pure (.nx (y7.1, y7.2)))) xs6 (a5_known, a4_met)) (fun (z6 : (List (Sq × Bool)) × (List Sq)) => (WP.pure z6.2)) (fun r => (WP.pure r))) (fun r => (WP.pure r))
def sp__law_spread : Sp := fun vs H Q _ => ∃ (W : Wo) (a_squares : (List Sq)) (a_start : Sq) (a_wide : Bool) (v_squares v_start v_wide : V) (fp_squares : List Addr), vs = [v_squares, v_start, v_wide] ∧ W.H = H ∧ Good ef0 W ∧ (kL Sq).own W fp_squares a_squares v_squares ∧ (∀ a ∈ fp_squares, ¬ ef0.S a) ∧ Rp W a_start v_start ∧ Rp W a_wide v_wide ∧ (m__law_spread a_squares a_start a_wide).run W.n fun n r => ∀ v W', Gw ef0 W W' → W'.n = n → (sN (e := ef0) (kL Sq)).post W W' r v → Q v W'.H
theorem ev__law_spread {e : Ef} {σ : L2.St} {W : Wo} {E : XK} {t0 t1 t2 : TE} {w0 : WP (List Sq)} {w1 : WP Sq} {w2 : WP Bool} (h0 : EvW e t0 σ W (sR (kL Sq)) w0) (h1 : EvW e t1 σ W sI w1) (h2 : EvW e t2 σ W sI w2) : EvW e (tCall sp__law_spread [] E (tCons t0 (tCons t1 (tCons t2 tNil)))) σ W (sN (kL Sq)) (WP.b3 w0 w1 w2 m__law_spread) := ew_call3N h0 h1 h2 fun W2 b0 b1 b2 x0 x1 x2 g2 ⟨fp0, r0, s0⟩ r1 r2 Q q E => by
  exact ⟨W2, b0, b1, b2, x0, x1, x2, fp0, rfl, rfl, g2.z, r0, fun _ _ z => z, r1, r2, WP.mono _ (fun n c h v W3 g3 hn p => h v W3 (Gw.up g2 g3) hn (sN_up g2 p)) q⟩
theorem ok__law_spread (F : At K mg "_law_spread" s__law_spread P__law_spread) (G : Glb mg) (H__law_around : Has P w K mg base "_law_around" 1 P__law_around sp__law_around) (H__law_sides : Has P w K mg base "_law_sides" 1 P__law_sides sp__law_sides) : Has P w K mg base "_law_spread" 2 P__law_spread sp__law_spread := by
  refine Has.of F sc__law_spread (fun vs H Q E h => ?_) (fun f cdv A outer s H0 vs Q E hr h => ?_)
  · obtain ⟨W0, a_squares, a_start, a_wide, v_squares, v_start, v_wide, fp_squares, rfl, _⟩ := h
    rfl
  · obtain ⟨W0, a_squares, a_start, a_wide, v_squares, v_start, v_wide, fp_squares, rfl, rfl, g00, hb_squares, hS_squares, h_start, h_wide, hm⟩ := h
    have sc := sc__law_spread
    have g0 := Gw.refl g00
    have hl_squares := (kL Sq).live hb_squares
    have hb0_squares := hb_squares
    unfold m__law_spread at hm
    refine ⟨_, (pss_cons (ps_set (i := 3) sc.nd rfl (Or.inl rfl) pe_dnewT)
      (pss_cons (ps_for PassesOwn.never rfl (pi_list (pv 0)) (pg_name (i := 4) sc.nd rfl (Or.inl rfl))
      (pss_one (ps_dput (hu_of hr) (pv 3) (pv 4) pe_bl rfl)))
      (pss_cons (ps_set (i := 5) sc.nd rfl (Or.inl rfl) (pe_lst (pa_cons (pv 1) pa_nil)))
      (pss_cons (ps_dput (hu_of hr) (pv 3) (pv 1) pe_bl rfl)
      (pss_cons (ps_for PassesOwn.never rfl (pi_range1 rfl G.range (pa_cons pe_int pa_nil)) (pg_name (i := 6) sc.nd rfl (Or.inl rfl))
      (pss_one (ps_if (pt_cmpR op_lt (pv 6) (pe_callB call_len_seq (by rfl) G.len PySem.boot_len (pa_cons (pv 5) pa_nil)) (nomark _)) (pss_cons (ps_set (i := 7) sc.nd rfl (Or.inl rfl) (pe_ifExp (pt_val (pv 2)) (pe_user H__law_around (hr.mono (by decide)) rfl (pa_cons (pe_ix ix_list (pv 5) (pv 6) (fun _ _ => rfl)) pa_nil)) (pe_user H__law_sides (hr.mono (by decide)) rfl (pa_cons (pe_ix ix_list (pv 5) (pv 6) (fun _ _ => rfl)) pa_nil))))
      (pss_one (ps_for PassesOwn.never rfl (pi_list (pv 7)) (pg_name (i := 4) sc.nd rfl (Or.inl rfl))
      (pss_one (ps_if (PW.pt (pw_and (pt_cmp (pc_din (hu_of hr) (pv 4) (pv 3))) (pw_and1 (pt_not (pt_val (pe_dget (hu_of hr) (pv 3) (pv 4) (fun _ _ => rfl))))))) (pss_cons (ps_dput (hu_of hr) (pv 3) (pv 4) pe_bl rfl)
      (pss_one (ps_expr (pe_bm PySem.F.plainAttrs_list PySem.F.slot_list_append PySem.F.type_list_append mt_append (pv 5) (pa_cons (pv 4) pa_nil))))) pss_nil))))) pss_nil)))
      (pss_one (ps_ret (pv 5)))))))), ?_⟩
    refine q_asg (W := W0) (ew_dnew (β := Bool)) g0.ok hm fun a1_known v_known W1 g1 ⟨fp_known, ho0_known, hf_known⟩ hm => ?_
    have hz_known : ∀ a ∈ fp_known, W0.H a = none := fun a m => g0.live a (hf_known a m).1
    have hb_squares := Kd.go g1 hS_squares hb_squares
    have h_start := PyI.st g1.st h_start
    have h_wide := PyI.st g1.st h_wide
    have g0 := g0.trans g1
    have ho_known : Var (kD Bool) W0 W1 fp_known a1_known v_known := ⟨ho0_known, hz_known, fun b m => (hf_known b m).2.2⟩
    first | refine norm_st (σ' := [some v_squares, some v_start, some v_wide, some v_known, none, none, none, none]) rfl ?_ | skip
    obtain ⟨p_it2, vs_it2, ef_it2, ev_it2, hp_it2, hr_it2⟩ := own_list hb_squares
    have nS_it2 := hS_squares p_it2 (by rw [ef_it2]; exact List.mem_singleton.mpr rfl)
    have dj_it2_known : ∀ b ∈ [p_it2], b ∉ fp_known := fun b m z => hl_squares b (by rw [ef_it2]; exact m) (ho_known.fr b z)
    refine q_forV (W := W1) tk_N (by rw [← ev_it2]; rfl) hp_it2 hr_it2 hm (fun y σ' W' => ∃ (v_known : V) (fp_known : List Addr) (o_square : Option V), σ' = [some v_squares, some v_start, some v_wide, some v_known, o_square, none, none, none] ∧ Gw ef0 W0 W' ∧ St W1 W' ∧ Var (kD Bool) W0 W' fp_known y v_known ∧ W'.H p_it2 = some (.lst vs_it2) ∧ (∀ b ∈ [p_it2], b ∉ fp_known)) ⟨v_known, fp_known, _, rfl, g0, (St.refl _), ho_known, hp_it2, dj_it2_known⟩ (fun _ _ _ hI => ?_) (fun c2 y2 σi s2 Wi2 R2 nx2 ht hI hm kn2 kb2 kr2 => ?_) (fun z2 σi Wi2 hI hm => ?_)
    · obtain ⟨v_known, fp_known, o_square, rfl, g0, sl2, ho_known, hp_it2, dj_it2_known⟩ := hI
      exact ⟨sl2, hp_it2⟩
    ·
      obtain ⟨v_known, fp_known, o_square, rfl, g0, sl2, ho_known, hp_it2, dj_it2_known⟩ := hI
      have hb_squares := Kd.go g0 hS_squares hb0_squares
      have h_start := PyI.st sl2 h_start
      have h_wide := PyI.st sl2 h_wide
      obtain ⟨v_square, rfl, h_square⟩ := ht
      refine st_dput (W := Wi2) g00 g0 rfl ho_known ew_bl (ew_var (v := v_square) rfl h_square) hm fun a3_known W3_ W3 l_known el_known g3 s g02 kk ff ho_known hm => ?_
      have hb_squares := Kd.go g3 hS_squares hb_squares
      have h_start := PyI.st g3.st h_start
      have h_wide := PyI.st g3.st h_wide
      have h_square := PyI.st g3.st h_square
      have sl2 := sl2.trans g3.st
      have hp_it2 := g3.keep _ _ hp_it2 nS_it2
      have g0 := g0.trans g3
      have hb_squares := Kd.st _ s (kk fp_squares _ Kp.refl fun b m z => hl_squares b m (ho_known.fr b z)) hb_squares
      have h_start := PyI.st s h_start
      have h_wide := PyI.st s h_wide
      have h_square := PyI.st s h_square
      have sl2 := sl2.trans s
      have hp_it2 := kk [p_it2] _ Kp.refl dj_it2_known _ (List.mem_singleton.mpr rfl) _ hp_it2
      have g0 := g02
      exact kn2 a3_known _ W3 ⟨v_known, fp_known, _, rfl, g0, sl2, ho_known, hp_it2, dj_it2_known⟩ hm
    ·
      obtain ⟨v_known, fp_known, o_square, rfl, g0, sl2, ho_known, hp_it2, dj_it2_known⟩ := hI
      have hb_squares := Kd.go g0 hS_squares hb0_squares
      have h_start := PyI.st sl2 h_start
      have h_wide := PyI.st sl2 h_wide
      refine q_asg (W := Wi2) (ew_lst (eas_cons (ew_var (v := v_start) rfl h_start) (eas_nil (α := Sq)))) g0.ok hm fun a4_met v_met W4 g4 ⟨fp_met, ho0_met, hf_met⟩ hm => ?_
      have dj_known_met : ∀ b ∈ fp_known, b ∉ fp_met := fun b m z => (kD Bool).live ho_known.own b m (hf_met b z).1
      have hz_met : ∀ a ∈ fp_met, W0.H a = none := fun a m => g0.live a (hf_met a m).1
      have hb_squares := Kd.go g4 hS_squares hb_squares
      have h_start := PyI.st g4.st h_start
      have h_wide := PyI.st g4.st h_wide
      have ho_known := ho_known.go g00 g4
      have g0 := g0.trans g4
      have ho_met : Var (kL Sq) W0 W4 fp_met a4_met v_met := ⟨ho0_met, hz_met, fun b m => (hf_met b m).2.2⟩
      first | refine norm_st (σ' := [some v_squares, some v_start, some v_wide, some v_known, o_square, some v_met, none, none]) rfl ?_ | skip
      refine q_dput (W := W4) g00 g0 rfl ho_known ew_bl (ew_var (v := v_start) rfl h_start) hm fun a5_known W5_ W5 l_known el_known g5 s g02 kk ff ho_known hm => ?_
      have hb_squares := Kd.go g5 hS_squares hb_squares
      have h_start := PyI.st g5.st h_start
      have h_wide := PyI.st g5.st h_wide
      have ho_met := ho_met.go g00 g5
      have g0 := g0.trans g5
      have hb_squares := Kd.st _ s (kk fp_squares _ Kp.refl fun b m z => hl_squares b m (ho_known.fr b z)) hb_squares
      have h_start := PyI.st s h_start
      have h_wide := PyI.st s h_wide
      have ho_met := ho_met.kept s kk ff (fun b m z => dj_known_met b z m)
      have g0 := g02
      refine q_forR1 (W := W5) ew_int g0.ok hm fun W6 g6 => ?_
      have hb_squares := Kd.go g6 hS_squares hb_squares
      have h_start := PyI.st g6.st h_start
      have h_wide := PyI.st g6.st h_wide
      have ho_known := ho_known.go g00 g6
      have ho_met := ho_met.go g00 g6
      have g0 := g0.trans g6
      refine ⟨fun y σ' W' => ∃ (v_known : V) (fp_known : List Addr) (v_met : V) (fp_met : List Addr) (o_square : Option V) (o_at : Option V) (o_near : Option V), σ' = [some v_squares, some v_start, some v_wide, some v_known, o_square, some v_met, o_at, o_near] ∧ Gw ef0 W0 W' ∧ St W6 W' ∧ Var (kD Bool) W0 W' fp_known y.1 v_known ∧ Var (kL Sq) W0 W' fp_met y.2 v_met ∧ (∀ b ∈ fp_known, b ∉ fp_met), ⟨v_known, fp_known, v_met, fp_met, _, _, _, rfl, g0, (St.refl _), ho_known, ho_met, dj_known_met⟩, fun c6 y6 σi s2 Wi6 R6 nx6 ht hI hm kn6 kb6 kr6 => ?_, fun z6 σi Wi6 hI hm => ?_⟩
      ·
        obtain ⟨v_known, fp_known, v_met, fp_met, o_square, o_at, o_near, rfl, g0, sl6, ho_known, ho_met, dj_known_met⟩ := hI
        have hb_squares := Kd.go g0 hS_squares hb0_squares
        have h_start := PyI.st sl6 h_start
        have h_wide := PyI.st sl6 h_wide
        obtain ⟨v_at, rfl, h_at⟩ := ht
        refine st_join (W := Wi6) (s := (List (Sq × Bool)) × (List Sq)) (fun y σ' W' => ∃ (v_known : V) (fp_known : List Addr) (v_met : V) (fp_met : List Addr) (o_square : Option V) (o_near : Option V), σ' = [some v_squares, some v_start, some v_wide, some v_known, o_square, some v_met, some v_at, o_near] ∧ Gw ef0 W0 W' ∧ St Wi6 W' ∧ Var (kD Bool) W0 W' fp_known y.1 v_known ∧ Var (kL Sq) W0 W' fp_met y.2 v_met ∧ (∀ b ∈ fp_known, b ∉ fp_met)) (et_t (ew_lt (ew_var (v := v_at) rfl h_at) (ew_lenL (ew_varR (v := v_met) rfl (Var.nS g00 ho_met) ho_met.own)))) g0.ok hm (fun y7 σj Wj7 hI hm => ?_) (fun W7 R7 g7 hm kj => ?_) (fun W7 R7 g7 hm kj => ?_)
        ·
          obtain ⟨v_known, fp_known, v_met, fp_met, o_square, o_near, rfl, g0, sj7, ho_known, ho_met, dj_known_met⟩ := hI
          have hb_squares := Kd.go g0 hS_squares hb0_squares
          have h_start := PyI.st sj7 h_start
          have h_wide := PyI.st sj7 h_wide
          have h_at := PyI.st sj7 h_at
          have sl6 := sl6.trans sj7
          exact kn6 (y7.1, y7.2) _ Wj7 ⟨v_known, fp_known, v_met, fp_met, _, _, _, rfl, g0, sl6, ho_known, ho_met, dj_known_met⟩ hm
        ·
          have hb_squares := Kd.go g7 hS_squares hb_squares
          have h_start := PyI.st g7.st h_start
          have h_wide := PyI.st g7.st h_wide
          have ho_known := ho_known.go g00 g7
          have ho_met := ho_met.go g00 g7
          have h_at := PyI.st g7.st h_at
          have sl6 := sl6.trans g7.st
          have g0 := g0.trans g7
          have sj7 := g7.st
          refine q_asg (W := W7) (ew_frz (ew_ifE (et_B (ew_var (v := v_wide) rfl h_wide)) (ev__law_around (ew_ixL (ew_varR (v := v_met) rfl (Var.nS g00 ho_met) ho_met.own) (ew_var (v := v_at) rfl h_at))) (ev__law_sides (ew_ixL (ew_varR (v := v_met) rfl (Var.nS g00 ho_met) ho_met.own) (ew_var (v := v_at) rfl h_at))))) g0.ok hm fun a8_near v_near W8 g8 h_near hm => ?_
          have hb_squares := Kd.go g8 hS_squares hb_squares
          have h_start := PyI.st g8.st h_start
          have h_wide := PyI.st g8.st h_wide
          have ho_known := ho_known.go g00 g8
          have ho_met := ho_met.go g00 g8
          have h_at := PyI.st g8.st h_at
          have sl6 := sl6.trans g8.st
          have sj7 := sj7.trans g8.st
          have g0 := g0.trans g8
          first | refine norm_st (σ' := [some v_squares, some v_start, some v_wide, some v_known, o_square, some v_met, some v_at, some v_near]) rfl ?_ | skip
          refine st_forF (W := W8) tk_N (ew_var (v := v_near) rfl h_near) g0.ok hm fun xs9 W9 g9 => ?_
          have hb_squares := Kd.go g9 hS_squares hb_squares
          have h_start := PyI.st g9.st h_start
          have h_wide := PyI.st g9.st h_wide
          have ho_known := ho_known.go g00 g9
          have ho_met := ho_met.go g00 g9
          have h_at := PyI.st g9.st h_at
          have h_near := PyI.st g9.st h_near
          have sl6 := sl6.trans g9.st
          have sj7 := sj7.trans g9.st
          have g0 := g0.trans g9
          refine ⟨fun y σ' W' => ∃ (v_known : V) (fp_known : List Addr) (v_met : V) (fp_met : List Addr) (o_square : Option V), σ' = [some v_squares, some v_start, some v_wide, some v_known, o_square, some v_met, some v_at, some v_near] ∧ Gw ef0 W0 W' ∧ St W9 W' ∧ Var (kD Bool) W0 W' fp_known y.1 v_known ∧ Var (kL Sq) W0 W' fp_met y.2 v_met ∧ (∀ b ∈ fp_known, b ∉ fp_met), ⟨v_known, fp_known, v_met, fp_met, _, rfl, g0, (St.refl _), ho_known, ho_met, dj_known_met⟩, fun _ _ _ hI => ?_, fun c9 y9 σi s2 Wi9 R9 nx9 ht hI hm kn9 kb9 kr9 => ?_, fun z9 σi Wi9 hI hm => ?_⟩
          · obtain ⟨v_known, fp_known, v_met, fp_met, o_square, rfl, g0, sl9, ho_known, ho_met, dj_known_met⟩ := hI
            exact sl9
          ·
            obtain ⟨v_known, fp_known, v_met, fp_met, o_square, rfl, g0, sl9, ho_known, ho_met, dj_known_met⟩ := hI
            have hb_squares := Kd.go g0 hS_squares hb0_squares
            have h_start := PyI.st sl9 h_start
            have h_wide := PyI.st sl9 h_wide
            have h_at := PyI.st sl9 h_at
            have h_near := PyI.st sl9 h_near
            have sl6 := sl6.trans sl9
            have sj7 := sj7.trans sl9
            obtain ⟨v_square, rfl, h_square⟩ := ht
            refine st_join (W := Wi9) (s := (List (Sq × Bool)) × (List Sq)) (fun y σ' W' => ∃ (v_known : V) (fp_known : List Addr) (v_met : V) (fp_met : List Addr), σ' = [some v_squares, some v_start, some v_wide, some v_known, some v_square, some v_met, some v_at, some v_near] ∧ Gw ef0 W0 W' ∧ St Wi9 W' ∧ Var (kD Bool) W0 W' fp_known y.1 v_known ∧ Var (kL Sq) W0 W' fp_met y.2 v_met ∧ (∀ b ∈ fp_known, b ∉ fp_met)) (et_and (et_B (ew_din (ew_var (v := v_square) rfl h_square) (ew_dr (ew_varR (v := v_known) rfl (Var.nS g00 ho_known) ho_known.own)))) (et_not (et_B (ew_dget (ew_dr (ew_varR (v := v_known) rfl (Var.nS g00 ho_known) ho_known.own)) (ew_var (v := v_square) rfl h_square))))) g0.ok hm (fun y10 σj Wj10 hI hm => ?_) (fun W10 R10 g10 hm kj => ?_) (fun W10 R10 g10 hm kj => ?_)
            ·
              obtain ⟨v_known, fp_known, v_met, fp_met, rfl, g0, sj10, ho_known, ho_met, dj_known_met⟩ := hI
              have hb_squares := Kd.go g0 hS_squares hb0_squares
              have h_start := PyI.st sj10 h_start
              have h_wide := PyI.st sj10 h_wide
              have h_square := PyI.st sj10 h_square
              have h_at := PyI.st sj10 h_at
              have h_near := PyI.st sj10 h_near
              have sl6 := sl6.trans sj10
              have sj7 := sj7.trans sj10
              have sl9 := sl9.trans sj10
              exact kn9 (y10.1, y10.2) _ Wj10 ⟨v_known, fp_known, v_met, fp_met, _, rfl, g0, sl9, ho_known, ho_met, dj_known_met⟩ hm
            ·
              have hb_squares := Kd.go g10 hS_squares hb_squares
              have h_start := PyI.st g10.st h_start
              have h_wide := PyI.st g10.st h_wide
              have ho_known := ho_known.go g00 g10
              have h_square := PyI.st g10.st h_square
              have ho_met := ho_met.go g00 g10
              have h_at := PyI.st g10.st h_at
              have h_near := PyI.st g10.st h_near
              have sl6 := sl6.trans g10.st
              have sj7 := sj7.trans g10.st
              have sl9 := sl9.trans g10.st
              have g0 := g0.trans g10
              have sj10 := g10.st
              refine q_dput (W := W10) g00 g0 rfl ho_known ew_bl (ew_var (v := v_square) rfl h_square) hm fun a11_known W11_ W11 l_known el_known g11 s g02 kk ff ho_known hm => ?_
              have hb_squares := Kd.go g11 hS_squares hb_squares
              have h_start := PyI.st g11.st h_start
              have h_wide := PyI.st g11.st h_wide
              have h_square := PyI.st g11.st h_square
              have ho_met := ho_met.go g00 g11
              have h_at := PyI.st g11.st h_at
              have h_near := PyI.st g11.st h_near
              have sl6 := sl6.trans g11.st
              have sj7 := sj7.trans g11.st
              have sl9 := sl9.trans g11.st
              have sj10 := sj10.trans g11.st
              have g0 := g0.trans g11
              have hb_squares := Kd.st _ s (kk fp_squares _ Kp.refl fun b m z => hl_squares b m (ho_known.fr b z)) hb_squares
              have h_start := PyI.st s h_start
              have h_wide := PyI.st s h_wide
              have h_square := PyI.st s h_square
              have ho_met := ho_met.kept s kk ff (fun b m z => dj_known_met b z m)
              have h_at := PyI.st s h_at
              have h_near := PyI.st s h_near
              have sl6 := sl6.trans s
              have sj7 := sj7.trans s
              have sl9 := sl9.trans s
              have sj10 := sj10.trans s
              have g0 := g02
              refine st_app (W := W11) g00 g0 rfl ho_met (ew_var (v := v_square) rfl h_square) hm fun a12_met W12_ W12 l_met el_met g12 s g02 kk ff ho_met hm => ?_
              have hb_squares := Kd.go g12 hS_squares hb_squares
              have h_start := PyI.st g12.st h_start
              have h_wide := PyI.st g12.st h_wide
              have ho_known := ho_known.go g00 g12
              have h_square := PyI.st g12.st h_square
              have h_at := PyI.st g12.st h_at
              have h_near := PyI.st g12.st h_near
              have sl6 := sl6.trans g12.st
              have sj7 := sj7.trans g12.st
              have sl9 := sl9.trans g12.st
              have sj10 := sj10.trans g12.st
              have g0 := g0.trans g12
              have hb_squares := Kd.st _ s (kk fp_squares _ Kp.refl fun b m z => hl_squares b m (ho_met.fr b z)) hb_squares
              have h_start := PyI.st s h_start
              have h_wide := PyI.st s h_wide
              have ho_known := ho_known.kept s kk ff dj_known_met
              have h_square := PyI.st s h_square
              have h_at := PyI.st s h_at
              have h_near := PyI.st s h_near
              have sl6 := sl6.trans s
              have sj7 := sj7.trans s
              have sl9 := sl9.trans s
              have sj10 := sj10.trans s
              have g0 := g02
              exact kj (a11_known, a12_met) _ W12 ⟨v_known, fp_known, v_met, fp_met, rfl, g0, sj10, ho_known, ho_met, dj_known_met⟩ hm
            ·
              have hb_squares := Kd.go g10 hS_squares hb_squares
              have h_start := PyI.st g10.st h_start
              have h_wide := PyI.st g10.st h_wide
              have ho_known := ho_known.go g00 g10
              have h_square := PyI.st g10.st h_square
              have ho_met := ho_met.go g00 g10
              have h_at := PyI.st g10.st h_at
              have h_near := PyI.st g10.st h_near
              have sl6 := sl6.trans g10.st
              have sj7 := sj7.trans g10.st
              have sl9 := sl9.trans g10.st
              have g0 := g0.trans g10
              have sj10 := g10.st
              refine st_next ?_
              exact kj (y9.1, y9.2) _ W10 ⟨v_known, fp_known, v_met, fp_met, rfl, g0, sj10, ho_known, ho_met, dj_known_met⟩ hm
          ·
            obtain ⟨v_known, fp_known, v_met, fp_met, o_square, rfl, g0, sl9, ho_known, ho_met, dj_known_met⟩ := hI
            have hb_squares := Kd.go g0 hS_squares hb0_squares
            have h_start := PyI.st sl9 h_start
            have h_wide := PyI.st sl9 h_wide
            have h_at := PyI.st sl9 h_at
            have h_near := PyI.st sl9 h_near
            have sl6 := sl6.trans sl9
            have sj7 := sj7.trans sl9
            exact kj (z9.1, z9.2) _ Wi9 ⟨v_known, fp_known, v_met, fp_met, _, _, rfl, g0, sj7, ho_known, ho_met, dj_known_met⟩ hm
        ·
          have hb_squares := Kd.go g7 hS_squares hb_squares
          have h_start := PyI.st g7.st h_start
          have h_wide := PyI.st g7.st h_wide
          have ho_known := ho_known.go g00 g7
          have ho_met := ho_met.go g00 g7
          have h_at := PyI.st g7.st h_at
          have sl6 := sl6.trans g7.st
          have g0 := g0.trans g7
          have sj7 := g7.st
          refine st_next ?_
          exact kj (y6.1, y6.2) _ W7 ⟨v_known, fp_known, v_met, fp_met, _, _, rfl, g0, sj7, ho_known, ho_met, dj_known_met⟩ hm
      ·
        obtain ⟨v_known, fp_known, v_met, fp_met, o_square, o_at, o_near, rfl, g0, sl6, ho_known, ho_met, dj_known_met⟩ := hI
        have hb_squares := Kd.go g0 hS_squares hb0_squares
        have h_start := PyI.st sl6 h_start
        have h_wide := PyI.st sl6 h_wide
        exact ⟨_, rfl, hm _ Wi6 g0 rfl ⟨fp_met, ho_met.own, fun b m => ⟨ho_met.fr b m, Var.nS g00 ho_met b m, ho_met.nF b m⟩⟩⟩
abbrev s__law_wet : Stmt := top 54
abbrev N__law_wet : List Str := ["chart", "found", "r", "c"]
abbrev P__law_wet : List Str := ["chart"]
theorem sc__law_wet : FnScope N__law_wet P__law_wet (defScope s__law_wet) := ⟨rfl, rfl, rfl, by decide +kernel, rfl, by decide +kernel, by decide +kernel⟩
def m__law_wet (a_chart : (List Str)) : WP (List Sq) := (WP.row (WP.pure ([] : List Sq))).bind fun a1_found => (WP.range2 (WP.neg (WP.pure (1 : Int))) (WP.add (WP.len (WP.pure a_chart)) (WP.pure (1 : Int)))).bind fun xs2 => WP.after (WP.loop (γ := (List Sq)) (fun c2 (y2 : (List Sq)) => (WP.range2 (WP.neg (WP.pure (1 : Int))) (WP.add (WP.lenS (WP.ix (WP.pure a_chart) (WP.pure (0 : Int)))) (WP.pure (1 : Int)))).bind fun xs3 => WP.after (WP.loop (γ := (List Sq)) (fun c3 (y3 : (List Sq)) => ((WP.not (WP.b3 (WP.pure a_chart) (WP.pure c2) (WP.pure c3) m__law_at)).bind fun b => WP.cond b (((WP.pair (WP.pure c2) (WP.pure c3)).bind fun a => WP.req (y3.length < 100000) (y3 ++ [a])).bind fun a5_found => (WP.pure a5_found)) ((WP.pure y3))).bind fun (y4 : (List Sq)) => (WP.pure (.nx y4))) xs3 y2) (fun (z3 : (List Sq)) => (WP.pure (.nx z3))) (fun r => (WP.pure (.rt r)))) xs2 a1_found) (fun (z2 : (List Sq)) => (WP.pure z2)) (fun r => (WP.pure r))
def sp__law_wet : Sp := fun vs H Q _ => ∃ (W : Wo) (a_chart : (List Str)) (v_chart : V), vs = [v_chart] ∧ W.H = H ∧ Good ef0 W ∧ Rp W a_chart v_chart ∧ (m__law_wet a_chart).run W.n fun n r => ∀ v W', Gw ef0 W W' → W'.n = n → (sN (e := ef0) (kL Sq)).post W W' r v → Q v W'.H
theorem ev__law_wet {e : Ef} {σ : L2.St} {W : Wo} {E : XK} {t0 : TE} {w0 : WP (List Str)} (h0 : EvW e t0 σ W sI w0) : EvW e (tCall sp__law_wet [] E (tCons t0 tNil)) σ W (sN (kL Sq)) (WP.b1 w0 m__law_wet) := ew_call1N h0 fun W2 b0 x0 g2 r0 Q q E => by
  exact ⟨W2, b0, x0, rfl, rfl, g2.z, r0, WP.mono _ (fun n c h v W3 g3 hn p => h v W3 (Gw.up g2 g3) hn (sN_up g2 p)) q⟩
theorem ok__law_wet (F : At K mg "_law_wet" s__law_wet P__law_wet) (G : Glb mg) (H__law_at : Has P w K mg base "_law_at" 1 P__law_at sp__law_at) : Has P w K mg base "_law_wet" 2 P__law_wet sp__law_wet := by
  refine Has.of F sc__law_wet (fun vs H Q E h => ?_) (fun f cdv A outer s H0 vs Q E hr h => ?_)
  · obtain ⟨W0, a_chart, v_chart, rfl, _⟩ := h
    rfl
  · obtain ⟨W0, a_chart, v_chart, rfl, rfl, g00, h_chart, hm⟩ := h
    have sc := sc__law_wet
    have g0 := Gw.refl g00
    unfold m__law_wet at hm
    refine ⟨_, (pss_cons (ps_set (i := 1) sc.nd rfl (Or.inl rfl) (pe_lst pa_nil))
      (pss_cons (ps_for PassesOwn.never rfl (pi_range2 rfl G.range (pa_cons (pe_un un_neg pe_int) (pa_cons (pe_op op_add (pe_callB call_len_seq (by rfl) G.len PySem.boot_len (pa_cons (pv 0) pa_nil)) pe_int) pa_nil))) (pg_name (i := 2) sc.nd rfl (Or.inl rfl))
      (pss_one (ps_for PassesOwn.never rfl (pi_range2 rfl G.range (pa_cons (pe_un un_neg pe_int) (pa_cons (pe_op op_add (pe_callB call_len_str (by rfl) G.len PySem.boot_len (pa_cons (pe_ix ix_tup (pv 0) pe_int (fun _ _ => rfl)) pa_nil)) pe_int) pa_nil))) (pg_name (i := 3) sc.nd rfl (Or.inl rfl))
      (pss_one (ps_if (pt_not (pt_val (pe_user H__law_at (hr.mono (by decide)) rfl (pa_cons (pv 0) (pa_cons (pv 2) (pa_cons (pv 3) pa_nil)))))) (pss_one (ps_expr (pe_bm PySem.F.plainAttrs_list PySem.F.slot_list_append PySem.F.type_list_append mt_append (pv 1) (pa_cons (pe_tup (pa_cons (pv 2) (pa_cons (pv 3) pa_nil))) pa_nil)))) pss_nil)))))
      (pss_one (ps_ret (pv 1))))), ?_⟩
    refine q_asg (W := W0) (ew_lst (eas_nil (α := Sq))) g0.ok hm fun a1_found v_found W1 g1 ⟨fp_found, ho0_found, hf_found⟩ hm => ?_
    have hz_found : ∀ a ∈ fp_found, W0.H a = none := fun a m => g0.live a (hf_found a m).1
    have h_chart := PyI.st g1.st h_chart
    have g0 := g0.trans g1
    have ho_found : Var (kL Sq) W0 W1 fp_found a1_found v_found := ⟨ho0_found, hz_found, fun b m => (hf_found b m).2.2⟩
    first | refine norm_st (σ' := [some v_chart, some v_found, none, none]) rfl ?_ | skip
    refine q_forR2 (W := W1) (ew_neg ew_int) (ew_add (ew_lenT (ew_var (v := v_chart) rfl h_chart)) ew_int) g0.ok hm fun W2 g2 => ?_
    have h_chart := PyI.st g2.st h_chart
    have ho_found := ho_found.go g00 g2
    have g0 := g0.trans g2
    refine ⟨fun y σ' W' => ∃ (v_found : V) (fp_found : List Addr) (o_r : Option V) (o_c : Option V), σ' = [some v_chart, some v_found, o_r, o_c] ∧ Gw ef0 W0 W' ∧ St W2 W' ∧ Var (kL Sq) W0 W' fp_found y v_found, ⟨v_found, fp_found, _, _, rfl, g0, (St.refl _), ho_found⟩, fun c2 y2 σi s2 Wi2 R2 nx2 ht hI hm kn2 kb2 kr2 => ?_, fun z2 σi Wi2 hI hm => ?_⟩
    ·
      obtain ⟨v_found, fp_found, o_r, o_c, rfl, g0, sl2, ho_found⟩ := hI
      have h_chart := PyI.st sl2 h_chart
      obtain ⟨v_r, rfl, h_r⟩ := ht
      refine st_forR2 (W := Wi2) (ew_neg ew_int) (ew_add (ew_lenS (ew_ixT (ew_var (v := v_chart) rfl h_chart) ew_int)) ew_int) g0.ok hm fun W3 g3 => ?_
      have h_chart := PyI.st g3.st h_chart
      have ho_found := ho_found.go g00 g3
      have h_r := PyI.st g3.st h_r
      have sl2 := sl2.trans g3.st
      have g0 := g0.trans g3
      refine ⟨fun y σ' W' => ∃ (v_found : V) (fp_found : List Addr) (o_c : Option V), σ' = [some v_chart, some v_found, some v_r, o_c] ∧ Gw ef0 W0 W' ∧ St W3 W' ∧ Var (kL Sq) W0 W' fp_found y v_found, ⟨v_found, fp_found, _, rfl, g0, (St.refl _), ho_found⟩, fun c3 y3 σi s2 Wi3 R3 nx3 ht hI hm kn3 kb3 kr3 => ?_, fun z3 σi Wi3 hI hm => ?_⟩
      ·
        obtain ⟨v_found, fp_found, o_c, rfl, g0, sl3, ho_found⟩ := hI
        have h_chart := PyI.st sl3 h_chart
        have h_r := PyI.st sl3 h_r
        have sl2 := sl2.trans sl3
        obtain ⟨v_c, rfl, h_c⟩ := ht
        refine st_join (W := Wi3) (s := (List Sq)) (fun y σ' W' => ∃ (v_found : V) (fp_found : List Addr), σ' = [some v_chart, some v_found, some v_r, some v_c] ∧ Gw ef0 W0 W' ∧ St Wi3 W' ∧ Var (kL Sq) W0 W' fp_found y v_found) (et_not (et_B (ev__law_at (ew_var (v := v_chart) rfl h_chart) (ew_var (v := v_r) rfl h_r) (ew_var (v := v_c) rfl h_c)))) g0.ok hm (fun y4 σj Wj4 hI hm => ?_) (fun W4 R4 g4 hm kj => ?_) (fun W4 R4 g4 hm kj => ?_)
        ·
          obtain ⟨v_found, fp_found, rfl, g0, sj4, ho_found⟩ := hI
          have h_chart := PyI.st sj4 h_chart
          have h_r := PyI.st sj4 h_r
          have h_c := PyI.st sj4 h_c
          have sl2 := sl2.trans sj4
          have sl3 := sl3.trans sj4
          exact kn3 y4 _ Wj4 ⟨v_found, fp_found, _, rfl, g0, sl3, ho_found⟩ hm
        ·
          have h_chart := PyI.st g4.st h_chart
          have ho_found := ho_found.go g00 g4
          have h_r := PyI.st g4.st h_r
          have h_c := PyI.st g4.st h_c
          have sl2 := sl2.trans g4.st
          have sl3 := sl3.trans g4.st
          have g0 := g0.trans g4
          have sj4 := g4.st
          refine st_app (W := W4) g00 g0 rfl ho_found (ew_pair (ew_var (v := v_r) rfl h_r) (ew_var (v := v_c) rfl h_c)) hm fun a5_found W5_ W5 l_found el_found g5 s g02 kk ff ho_found hm => ?_
          have h_chart := PyI.st g5.st h_chart
          have h_r := PyI.st g5.st h_r
          have h_c := PyI.st g5.st h_c
          have sl2 := sl2.trans g5.st
          have sl3 := sl3.trans g5.st
          have sj4 := sj4.trans g5.st
          have g0 := g0.trans g5
          have h_chart := PyI.st s h_chart
          have h_r := PyI.st s h_r
          have h_c := PyI.st s h_c
          have sl2 := sl2.trans s
          have sl3 := sl3.trans s
          have sj4 := sj4.trans s
          have g0 := g02
          exact kj a5_found _ W5 ⟨v_found, fp_found, rfl, g0, sj4, ho_found⟩ hm
        ·
          have h_chart := PyI.st g4.st h_chart
          have ho_found := ho_found.go g00 g4
          have h_r := PyI.st g4.st h_r
          have h_c := PyI.st g4.st h_c
          have sl2 := sl2.trans g4.st
          have sl3 := sl3.trans g4.st
          have g0 := g0.trans g4
          have sj4 := g4.st
          refine st_next ?_
          exact kj y3 _ W4 ⟨v_found, fp_found, rfl, g0, sj4, ho_found⟩ hm
      ·
        obtain ⟨v_found, fp_found, o_c, rfl, g0, sl3, ho_found⟩ := hI
        have h_chart := PyI.st sl3 h_chart
        have h_r := PyI.st sl3 h_r
        have sl2 := sl2.trans sl3
        exact kn2 z3 _ Wi3 ⟨v_found, fp_found, _, _, rfl, g0, sl2, ho_found⟩ hm
    ·
      obtain ⟨v_found, fp_found, o_r, o_c, rfl, g0, sl2, ho_found⟩ := hI
      have h_chart := PyI.st sl2 h_chart
      exact ⟨_, rfl, hm _ Wi2 g0 rfl ⟨fp_found, ho_found.own, fun b m => ⟨ho_found.fr b m, Var.nS g00 ho_found b m, ho_found.nF b m⟩⟩⟩
abbrev s__law_drained : Stmt := top 56
abbrev N__law_drained : List Str := ["chart", "square"]
abbrev P__law_drained : List Str := ["chart", "square"]
theorem sc__law_drained : FnScope N__law_drained P__law_drained (defScope s__law_drained) := ⟨rfl, rfl, rfl, by decide +kernel, rfl, by decide +kernel, by decide +kernel⟩
def m__law_drained (a_chart : (List Str)) (a_square : Sq) : WP Bool := (WP.inD (WP.pair (WP.neg (WP.pure (1 : Int))) (WP.neg (WP.pure (1 : Int)))) (WP.b3 (WP.b1 (WP.pure a_chart) m__law_wet) (WP.pure a_square) (WP.pure true) m__law_spread)).bind fun r1 => (WP.pure r1)
def sp__law_drained : Sp := fun vs H Q _ => ∃ (W : Wo) (a_chart : (List Str)) (a_square : Sq) (v_chart v_square : V), vs = [v_chart, v_square] ∧ W.H = H ∧ Good ef0 W ∧ Rp W a_chart v_chart ∧ Rp W a_square v_square ∧ (m__law_drained a_chart a_square).run W.n fun n r => ∀ v W', Gw ef0 W W' → W'.n = n → (sI (e := ef0) (α := Bool)).post W W' r v → Q v W'.H
theorem ev__law_drained {e : Ef} {σ : L2.St} {W : Wo} {E : XK} {t0 t1 : TE} {w0 : WP (List Str)} {w1 : WP Sq} (h0 : EvW e t0 σ W sI w0) (h1 : EvW e t1 σ W sI w1) : EvW e (tCall sp__law_drained [] E (tCons t0 (tCons t1 tNil))) σ W (sI (α := Bool)) (WP.b2 w0 w1 m__law_drained) := ew_call2N h0 h1 fun W2 b0 b1 x0 x1 g2 r0 r1 Q q E => by
  exact ⟨W2, b0, b1, x0, x1, rfl, rfl, g2.z, r0, r1, WP.mono _ (fun n c h v W3 g3 hn p => h v W3 (Gw.up g2 g3) hn p) q⟩
theorem ok__law_drained (F : At K mg "_law_drained" s__law_drained P__law_drained) (G : Glb mg) (H__law_spread : Has P w K mg base "_law_spread" 2 P__law_spread sp__law_spread) (H__law_wet : Has P w K mg base "_law_wet" 2 P__law_wet sp__law_wet) : Has P w K mg base "_law_drained" 3 P__law_drained sp__law_drained := by
  refine Has.of F sc__law_drained (fun vs H Q E h => ?_) (fun f cdv A outer s H0 vs Q E hr h => ?_)
  · obtain ⟨W0, a_chart, a_square, v_chart, v_square, rfl, _⟩ := h
    rfl
  · obtain ⟨W0, a_chart, a_square, v_chart, v_square, rfl, rfl, g00, h_chart, h_square, hm⟩ := h
    have sc := sc__law_drained
    have g0 := Gw.refl g00
    unfold m__law_drained at hm
    refine ⟨_, (pss_one (ps_ret (pe_cmpR (op_inD (hu65 hr)) (pe_tup (pa_cons (pe_un un_neg pe_int) (pa_cons (pe_un un_neg pe_int) pa_nil))) (pe_user H__law_spread (hr.mono (by decide)) rfl (pa_cons (pe_user H__law_wet (hr.mono (by decide)) rfl (pa_cons (pv 0) pa_nil)) (pa_cons (pv 1) (pa_cons pe_bl pa_nil)))) (by rfl)))), ?_⟩
    refine st_ret (W := W0) (ew_inD (ew_pair (ew_neg ew_int) (ew_neg ew_int)) (ew_rd (ev__law_spread (ew_rd (ev__law_wet (ew_var (v := v_chart) rfl h_chart))) (ew_var (v := v_square) rfl h_square) ew_bl))) g0.ok hm fun r1 v_ret W1 g1 hp hm => ?_
    exact hm v_ret W1 (g0.trans g1) rfl hp
abbrev s__law_inside : Stmt := top 58
abbrev N__law_inside : List Str := ["ring", "square", "steps", "k", "a", "b"]
abbrev P__law_inside : List Str := ["ring", "square"]
theorem sc__law_inside : FnScope N__law_inside P__law_inside (defScope s__law_inside) := ⟨rfl, rfl, rfl, by decide +kernel, rfl, by decide +kernel, by decide +kernel⟩
def m__law_inside (a_ring : (Ls Sq)) (a_square : Sq) : WP Bool := (WP.pure (0 : Int)).bind fun a1_steps => (WP.range1 (WP.len ((WP.pure a_ring).bind fun x => WP.pure x.l))).bind fun xs2 => WP.after (WP.loop (γ := Bool) (fun c2 (y2 : Int) => (WP.ix ((WP.pure a_ring).bind fun x => WP.pure x.l) (WP.sub (WP.pure c2) (WP.pure (1 : Int)))).bind fun a3_a => (WP.ix ((WP.pure a_ring).bind fun x => WP.pure x.l) (WP.pure c2)).bind fun a4_b => ((WP.and (WP.eq (WP.fst (WP.pure a3_a)) (WP.fst (WP.pure a_square))) (WP.and (WP.eq (WP.fst (WP.pure a4_b)) (WP.add (WP.fst (WP.pure a_square)) (WP.pure (1 : Int)))) (WP.gt (WP.snd (WP.pure a3_a)) (WP.snd (WP.pure a_square))))).bind fun b => WP.cond b ((WP.add (WP.pure y2) (WP.pure (1 : Int))).bind fun a8_steps => (WP.pure a8_steps)) ((WP.pure y2))).bind fun (y5 : Int) => ((WP.and (WP.eq (WP.fst (WP.pure a4_b)) (WP.fst (WP.pure a_square))) (WP.and (WP.eq (WP.fst (WP.pure a3_a)) (WP.add (WP.fst (WP.pure a_square)) (WP.pure (1 : Int)))) (WP.gt (WP.snd (WP.pure a4_b)) (WP.snd (WP.pure a_square))))).bind fun b => WP.cond b ((WP.add (WP.pure y5) (WP.pure (1 : Int))).bind fun a7_steps => (WP.pure a7_steps)) ((WP.pure y5))).bind fun (y6 : Int) => (WP.pure (.nx y6))) xs2 a1_steps) (fun (z2 : Int) => (WP.eq (WP.mod (WP.pure z2) (WP.pure (2 : Int))) (WP.pure (1 : Int))).bind fun r9 => (WP.pure r9)) (fun r => (WP.pure r))
def sp__law_inside : Sp := fun vs H Q _ => ∃ (W : Wo) (a_ring : (Ls Sq)) (a_square : Sq) (v_ring v_square : V), vs = [v_ring, v_square] ∧ W.H = H ∧ Good ef0 W ∧ Rp W a_ring v_ring ∧ Rp W a_square v_square ∧ (m__law_inside a_ring a_square).run W.n fun n r => ∀ v W', Gw ef0 W W' → W'.n = n → (sI (e := ef0) (α := Bool)).post W W' r v → Q v W'.H
theorem ev__law_inside {e : Ef} {σ : L2.St} {W : Wo} {E : XK} {t0 t1 : TE} {w0 : WP (Ls Sq)} {w1 : WP Sq} (h0 : EvW e t0 σ W sI w0) (h1 : EvW e t1 σ W sI w1) : EvW e (tCall sp__law_inside [] E (tCons t0 (tCons t1 tNil))) σ W (sI (α := Bool)) (WP.b2 w0 w1 m__law_inside) := ew_call2N h0 h1 fun W2 b0 b1 x0 x1 g2 r0 r1 Q q E => by
  exact ⟨W2, b0, b1, x0, x1, rfl, rfl, g2.z, r0, r1, WP.mono _ (fun n c h v W3 g3 hn p => h v W3 (Gw.up g2 g3) hn p) q⟩
theorem ok__law_inside (F : At K mg "_law_inside" s__law_inside P__law_inside) (G : Glb mg)  : Has P w K mg base "_law_inside" 1 P__law_inside sp__law_inside := by
  refine Has.of F sc__law_inside (fun vs H Q E h => ?_) (fun f cdv A outer s H0 vs Q E hr h => ?_)
  · obtain ⟨W0, a_ring, a_square, v_ring, v_square, rfl, _⟩ := h
    rfl
  · obtain ⟨W0, a_ring, a_square, v_ring, v_square, rfl, rfl, g00, h_ring, h_square, hm⟩ := h
    have sc := sc__law_inside
    have g0 := Gw.refl g00
    unfold m__law_inside at hm
    refine ⟨_, (pss_cons (ps_set (i := 2) sc.nd rfl (Or.inl rfl) pe_int)
      (pss_cons (ps_for PassesOwn.never rfl (pi_range1 rfl G.range (pa_cons (pe_callB call_len_seq (by rfl) G.len PySem.boot_len (pa_cons (pv 0) pa_nil)) pa_nil)) (pg_name (i := 3) sc.nd rfl (Or.inl rfl))
      (pss_cons (ps_set (i := 4) sc.nd rfl (Or.inl rfl) (pe_ix ix_list (pv 0) (pe_op op_sub (pv 3) pe_int) (fun _ _ => rfl)))
      (pss_cons (ps_set (i := 5) sc.nd rfl (Or.inl rfl) (pe_ix ix_list (pv 0) (pv 3) (fun _ _ => rfl)))
      (pss_cons (ps_if (PW.pt (pw_and (pt_cmpR op_eq (pe_ix ix_tup (pv 4) pe_int (fun _ _ => rfl)) (pe_ix ix_tup (pv 1) pe_int (fun _ _ => rfl)) (nomark _)) (pw_and (pt_cmpR op_eq (pe_ix ix_tup (pv 5) pe_int (fun _ _ => rfl)) (pe_op op_add (pe_ix ix_tup (pv 1) pe_int (fun _ _ => rfl)) pe_int) (nomark _)) (pw_and1 (pt_cmpR op_gt (pe_ix ix_tup (pv 4) pe_int (fun _ _ => rfl)) (pe_ix ix_tup (pv 1) pe_int (fun _ _ => rfl)) (nomark _)))))) (pss_one (ps_set (i := 2) sc.nd rfl (Or.inl rfl) (pe_op op_add (pv 2) pe_int))) pss_nil)
      (pss_one (ps_if (PW.pt (pw_and (pt_cmpR op_eq (pe_ix ix_tup (pv 5) pe_int (fun _ _ => rfl)) (pe_ix ix_tup (pv 1) pe_int (fun _ _ => rfl)) (nomark _)) (pw_and (pt_cmpR op_eq (pe_ix ix_tup (pv 4) pe_int (fun _ _ => rfl)) (pe_op op_add (pe_ix ix_tup (pv 1) pe_int (fun _ _ => rfl)) pe_int) (nomark _)) (pw_and1 (pt_cmpR op_gt (pe_ix ix_tup (pv 5) pe_int (fun _ _ => rfl)) (pe_ix ix_tup (pv 1) pe_int (fun _ _ => rfl)) (nomark _)))))) (pss_one (ps_set (i := 2) sc.nd rfl (Or.inl rfl) (pe_op op_add (pv 2) pe_int))) pss_nil))))))
      (pss_one (ps_ret (pe_cmpR op_eq (pe_op op_mod (pv 2) pe_int) pe_int (nomark _)))))), ?_⟩
    refine q_asg (W := W0) ew_int g0.ok hm fun a1_steps v_steps W1 g1 h_steps hm => ?_
    have h_ring := PyI.st g1.st h_ring
    have h_square := PyI.st g1.st h_square
    have g0 := g0.trans g1
    refine q_forR1 (W := W1) (ew_lenL (ew_ls (ew_var (v := v_ring) rfl h_ring))) g0.ok hm fun W2 g2 => ?_
    have h_ring := PyI.st g2.st h_ring
    have h_square := PyI.st g2.st h_square
    have h_steps := PyI.st g2.st h_steps
    have g0 := g0.trans g2
    refine ⟨fun y σ' W' => ∃ (v_steps : V) (o_k : Option V) (o_a : Option V) (o_b : Option V), σ' = [some v_ring, some v_square, some v_steps, o_k, o_a, o_b] ∧ Gw ef0 W0 W' ∧ St W2 W' ∧ Rp W' y v_steps, ⟨v_steps, _, _, _, rfl, g0, (St.refl _), h_steps⟩, fun c2 y2 σi s2 Wi2 R2 nx2 ht hI hm kn2 kb2 kr2 => ?_, fun z2 σi Wi2 hI hm => ?_⟩
    ·
      obtain ⟨v_steps, o_k, o_a, o_b, rfl, g0, sl2, h_steps⟩ := hI
      have h_ring := PyI.st sl2 h_ring
      have h_square := PyI.st sl2 h_square
      obtain ⟨v_k, rfl, h_k⟩ := ht
      refine q_asg (W := Wi2) (ew_ixL (ew_ls (ew_var (v := v_ring) rfl h_ring)) (ew_sub (ew_var (v := v_k) rfl h_k) ew_int)) g0.ok hm fun a3_a v_a W3 g3 h_a hm => ?_
      have h_ring := PyI.st g3.st h_ring
      have h_square := PyI.st g3.st h_square
      have h_steps := PyI.st g3.st h_steps
      have h_k := PyI.st g3.st h_k
      have sl2 := sl2.trans g3.st
      have g0 := g0.trans g3
      first | refine norm_st (σ' := [some v_ring, some v_square, some v_steps, some v_k, some v_a, o_b]) rfl ?_ | skip
      refine q_asg (W := W3) (ew_ixL (ew_ls (ew_var (v := v_ring) rfl h_ring)) (ew_var (v := v_k) rfl h_k)) g0.ok hm fun a4_b v_b W4 g4 h_b hm => ?_
      have h_ring := PyI.st g4.st h_ring
      have h_square := PyI.st g4.st h_square
      have h_steps := PyI.st g4.st h_steps
      have h_k := PyI.st g4.st h_k
      have h_a := PyI.st g4.st h_a
      have sl2 := sl2.trans g4.st
      have g0 := g0.trans g4
      refine q_join (W := W4) (s := Int) (fun y σ' W' => ∃ (v_steps : V), σ' = [some v_ring, some v_square, some v_steps, some v_k, some v_a, some v_b] ∧ Gw ef0 W0 W' ∧ St W4 W' ∧ Rp W' y v_steps) (et_and (et_t (ew_eq (ew_fst (ew_var (v := v_a) rfl h_a)) (ew_fst (ew_var (v := v_square) rfl h_square)))) (et_and (et_t (ew_eq (ew_fst (ew_var (v := v_b) rfl h_b)) (ew_add (ew_fst (ew_var (v := v_square) rfl h_square)) ew_int))) (et_t (ew_gt (ew_snd (ew_var (v := v_a) rfl h_a)) (ew_snd (ew_var (v := v_square) rfl h_square)))))) g0.ok hm (fun y5 σj Wj5 hI hm => ?_) (fun W5 R5 g5 hm kj => ?_) (fun W5 R5 g5 hm kj => ?_)
      ·
        obtain ⟨v_steps, rfl, g0, sj5, h_steps⟩ := hI
        have h_ring := PyI.st sj5 h_ring
        have h_square := PyI.st sj5 h_square
        have h_k := PyI.st sj5 h_k
        have h_a := PyI.st sj5 h_a
        have h_b := PyI.st sj5 h_b
        have sl2 := sl2.trans sj5
        refine st_join (W := Wj5) (s := Int) (fun y σ' W' => ∃ (v_steps : V), σ' = [some v_ring, some v_square, some v_steps, some v_k, some v_a, some v_b] ∧ Gw ef0 W0 W' ∧ St Wj5 W' ∧ Rp W' y v_steps) (et_and (et_t (ew_eq (ew_fst (ew_var (v := v_b) rfl h_b)) (ew_fst (ew_var (v := v_square) rfl h_square)))) (et_and (et_t (ew_eq (ew_fst (ew_var (v := v_a) rfl h_a)) (ew_add (ew_fst (ew_var (v := v_square) rfl h_square)) ew_int))) (et_t (ew_gt (ew_snd (ew_var (v := v_b) rfl h_b)) (ew_snd (ew_var (v := v_square) rfl h_square)))))) g0.ok hm (fun y6 σj Wj6 hI hm => ?_) (fun W6 R6 g6 hm kj => ?_) (fun W6 R6 g6 hm kj => ?_)
        ·
          obtain ⟨v_steps, rfl, g0, sj6, h_steps⟩ := hI
          have h_ring := PyI.st sj6 h_ring
          have h_square := PyI.st sj6 h_square
          have h_k := PyI.st sj6 h_k
          have h_a := PyI.st sj6 h_a
          have h_b := PyI.st sj6 h_b
          have sl2 := sl2.trans sj6
          exact kn2 y6 _ Wj6 ⟨v_steps, _, _, _, rfl, g0, sl2, h_steps⟩ hm
        ·
          have h_ring := PyI.st g6.st h_ring
          have h_square := PyI.st g6.st h_square
          have h_steps := PyI.st g6.st h_steps
          have h_k := PyI.st g6.st h_k
          have h_a := PyI.st g6.st h_a
          have h_b := PyI.st g6.st h_b
          have sl2 := sl2.trans g6.st
          have g0 := g0.trans g6
          have sj6 := g6.st
          refine st_asg (W := W6) (ew_add (ew_var (v := v_steps) rfl h_steps) ew_int) g0.ok hm fun a7_steps v_steps W7 g7 h_steps hm => ?_
          have h_ring := PyI.st g7.st h_ring
          have h_square := PyI.st g7.st h_square
          have h_k := PyI.st g7.st h_k
          have h_a := PyI.st g7.st h_a
          have h_b := PyI.st g7.st h_b
          have sl2 := sl2.trans g7.st
          have sj6 := sj6.trans g7.st
          have g0 := g0.trans g7
          exact kj a7_steps _ W7 ⟨v_steps, rfl, g0, sj6, h_steps⟩ hm
        ·
          have h_ring := PyI.st g6.st h_ring
          have h_square := PyI.st g6.st h_square
          have h_steps := PyI.st g6.st h_steps
          have h_k := PyI.st g6.st h_k
          have h_a := PyI.st g6.st h_a
          have h_b := PyI.st g6.st h_b
          have sl2 := sl2.trans g6.st
          have g0 := g0.trans g6
          have sj6 := g6.st
          refine st_next ?_
          exact kj y5 _ W6 ⟨v_steps, rfl, g0, sj6, h_steps⟩ hm
      ·
        have h_ring := PyI.st g5.st h_ring
        have h_square := PyI.st g5.st h_square
        have h_steps := PyI.st g5.st h_steps
        have h_k := PyI.st g5.st h_k
        have h_a := PyI.st g5.st h_a
        have h_b := PyI.st g5.st h_b
        have sl2 := sl2.trans g5.st
        have g0 := g0.trans g5
        have sj5 := g5.st
        first | refine norm_st (σ' := [some v_ring, some v_square, some v_steps, some v_k, some v_a, some v_b]) rfl ?_ | skip
        refine st_asg (W := W5) (ew_add (ew_var (v := v_steps) rfl h_steps) ew_int) g0.ok hm fun a8_steps v_steps W8 g8 h_steps hm => ?_
        have h_ring := PyI.st g8.st h_ring
        have h_square := PyI.st g8.st h_square
        have h_k := PyI.st g8.st h_k
        have h_a := PyI.st g8.st h_a
        have h_b := PyI.st g8.st h_b
        have sl2 := sl2.trans g8.st
        have sj5 := sj5.trans g8.st
        have g0 := g0.trans g8
        exact kj a8_steps _ W8 ⟨v_steps, rfl, g0, sj5, h_steps⟩ hm
      ·
        have h_ring := PyI.st g5.st h_ring
        have h_square := PyI.st g5.st h_square
        have h_steps := PyI.st g5.st h_steps
        have h_k := PyI.st g5.st h_k
        have h_a := PyI.st g5.st h_a
        have h_b := PyI.st g5.st h_b
        have sl2 := sl2.trans g5.st
        have g0 := g0.trans g5
        have sj5 := g5.st
        refine st_next ?_
        exact kj y2 _ W5 ⟨v_steps, rfl, g0, sj5, h_steps⟩ hm
    ·
      obtain ⟨v_steps, o_k, o_a, o_b, rfl, g0, sl2, h_steps⟩ := hI
      have h_ring := PyI.st sl2 h_ring
      have h_square := PyI.st sl2 h_square
      refine st_ret (W := Wi2) (ew_eq (ew_mod (ew_var (v := v_steps) rfl h_steps) ew_int) ew_int) g0.ok hm fun r9 v_ret W9 g9 hp hm => ?_
      exact hm v_ret W9 (g0.trans g9) rfl hp
abbrev s__law_ring_right : Stmt := top 59
abbrev N__law_ring_right : List Str := ["chart", "ring", "water", "k", "r", "c"]
abbrev P__law_ring_right : List Str := ["chart", "ring", "water"]
theorem sc__law_ring_right : FnScope N__law_ring_right P__law_ring_right (defScope s__law_ring_right) := ⟨rfl, rfl, rfl, by decide +kernel, rfl, by decide +kernel, by decide +kernel⟩
def m__law_ring_right (a_chart : (List Str)) (a_ring : (Ls Sq)) (a_water : Bool) : WP Bool := (WP.or (WP.not ((WP.pure a_ring).bind fun _ => WP.pure true)) (WP.lt (WP.len ((WP.pure a_ring).bind fun x => WP.pure x.l)) (WP.pure (4 : Int)))).bind fun b => WP.cond b ((WP.pure false).bind fun r2 => (WP.pure r2)) ((WP.range1 (WP.len ((WP.pure a_ring).bind fun x => WP.pure x.l))).bind fun xs3 => WP.after (WP.loop (γ := Bool) (fun c3 (y3 : Unit) => (WP.ix ((WP.pure a_ring).bind fun x => WP.pure x.l) (WP.pure c3)).bind fun a4_r_c => (WP.and (WP.pure a_water) (WP.or (WP.b3 (WP.pure a_chart) (WP.pure a4_r_c.1) (WP.pure a4_r_c.2) m__law_at) (WP.or (WP.not (WP.chain (fun i j => decide (i ≤ j)) (fun i j => decide (i ≤ j)) (WP.neg (WP.pure (1 : Int))) (WP.pure a4_r_c.1) (WP.len (WP.pure a_chart)))) (WP.not (WP.chain (fun i j => decide (i ≤ j)) (fun i j => decide (i ≤ j)) (WP.neg (WP.pure (1 : Int))) (WP.pure a4_r_c.2) (WP.lenS (WP.ix (WP.pure a_chart) (WP.pure (0 : Int))))))))).bind fun b => WP.cond b ((WP.pure false).bind fun r6 => (WP.pure (.rt r6))) ((WP.and (WP.not (WP.pure a_water)) (WP.or (WP.not (WP.b3 (WP.pure a_chart) (WP.pure a4_r_c.1) (WP.pure a4_r_c.2) m__law_at)) (WP.not (WP.inD (WP.ix ((WP.pure a_ring).bind fun x => WP.pure x.l) (WP.pure c3)) (WP.b1 (WP.ix ((WP.pure a_ring).bind fun x => WP.pure x.l) (WP.sub (WP.pure c3) (WP.pure (1 : Int)))) m__law_sides))))).bind fun b => WP.cond b ((WP.pure false).bind fun r8 => (WP.pure (.rt r8))) ((WP.not (WP.inD (WP.ix ((WP.pure a_ring).bind fun x => WP.pure x.l) (WP.pure c3)) (WP.b1 (WP.ix ((WP.pure a_ring).bind fun x => WP.pure x.l) (WP.sub (WP.pure c3) (WP.pure (1 : Int)))) m__law_around))).bind fun b => WP.cond b ((WP.pure false).bind fun r10 => (WP.pure (.rt r10))) ((WP.pure (.nx ())))))) xs3 ()) (fun (z3 : Unit) => (WP.pure true).bind fun r11 => (WP.pure r11)) (fun r => (WP.pure r)))
def sp__law_ring_right : Sp := fun vs H Q _ => ∃ (W : Wo) (a_chart : (List Str)) (a_ring : (Ls Sq)) (a_water : Bool) (v_chart v_ring v_water : V), vs = [v_chart, v_ring, v_water] ∧ W.H = H ∧ Good ef0 W ∧ Rp W a_chart v_chart ∧ Rp W a_ring v_ring ∧ Rp W a_water v_water ∧ (m__law_ring_right a_chart a_ring a_water).run W.n fun n r => ∀ v W', Gw ef0 W W' → W'.n = n → (sI (e := ef0) (α := Bool)).post W W' r v → Q v W'.H
theorem ev__law_ring_right {e : Ef} {σ : L2.St} {W : Wo} {E : XK} {t0 t1 t2 : TE} {w0 : WP (List Str)} {w1 : WP (Ls Sq)} {w2 : WP Bool} (h0 : EvW e t0 σ W sI w0) (h1 : EvW e t1 σ W sI w1) (h2 : EvW e t2 σ W sI w2) : EvW e (tCall sp__law_ring_right [] E (tCons t0 (tCons t1 (tCons t2 tNil)))) σ W (sI (α := Bool)) (WP.b3 w0 w1 w2 m__law_ring_right) := ew_call3N h0 h1 h2 fun W2 b0 b1 b2 x0 x1 x2 g2 r0 r1 r2 Q q E => by
  exact ⟨W2, b0, b1, b2, x0, x1, x2, rfl, rfl, g2.z, r0, r1, r2, WP.mono _ (fun n c h v W3 g3 hn p => h v W3 (Gw.up g2 g3) hn p) q⟩
theorem ok__law_ring_right (F : At K mg "_law_ring_right" s__law_ring_right P__law_ring_right) (G : Glb mg) (H__law_around : Has P w K mg base "_law_around" 1 P__law_around sp__law_around) (H__law_at : Has P w K mg base "_law_at" 1 P__law_at sp__law_at) (H__law_sides : Has P w K mg base "_law_sides" 1 P__law_sides sp__law_sides) : Has P w K mg base "_law_ring_right" 2 P__law_ring_right sp__law_ring_right := by
  refine Has.of F sc__law_ring_right (fun vs H Q E h => ?_) (fun f cdv A outer s H0 vs Q E hr h => ?_)
  · obtain ⟨W0, a_chart, a_ring, a_water, v_chart, v_ring, v_water, rfl, _⟩ := h
    rfl
  · obtain ⟨W0, a_chart, a_ring, a_water, v_chart, v_ring, v_water, rfl, rfl, g00, h_chart, h_ring, h_water, hm⟩ := h
    have sc := sc__law_ring_right
    have g0 := Gw.refl g00
    unfold m__law_ring_right at hm
    refine ⟨_, (pss_cons (ps_if (PW.pt (pw_or (pt_not (pt_val (pe_callB call_isi (by rfl) G.isinstance (by decide +kernel) (pa_cons (pv 1) (pa_cons (pe_bltn (v := .ty "list") (u := .type "list") rfl G.list (by decide +kernel) rfl) pa_nil))))) (pw_or1 (pt_cmpR op_lt (pe_callB call_len_seq (by rfl) G.len PySem.boot_len (pa_cons (pv 1) pa_nil)) pe_int (nomark _))))) (pss_one (ps_ret pe_bl)) pss_nil)
      (pss_cons (ps_for PassesOwn.never rfl (pi_range1 rfl G.range (pa_cons (pe_callB call_len_seq (by rfl) G.len PySem.boot_len (pa_cons (pv 1) pa_nil)) pa_nil)) (pg_name (i := 3) sc.nd rfl (Or.inl rfl))
      (pss_cons (ps_asg (pe_ix ix_list (pv 1) (pv 3) (fun _ _ => rfl)) (pg_tup rfl (pgs_cons (pg_name (i := 4) sc.nd rfl (Or.inl rfl)) (pgs_cons (pg_name (i := 5) sc.nd rfl (Or.inl rfl)) pgs_nil))))
      (pss_cons (ps_if (PW.pt (pw_and (pt_val (pv 2)) (pw_and1 (PW.pt (pw_or (pt_val (pe_user H__law_at (hr.mono (by decide)) rfl (pa_cons (pv 0) (pa_cons (pv 4) (pa_cons (pv 5) pa_nil))))) (pw_or (pt_not (pt_chain op_le op_le (pe_un un_neg pe_int) (pv 4) (pe_callB call_len_seq (by rfl) G.len PySem.boot_len (pa_cons (pv 0) pa_nil)))) (pw_or1 (pt_not (pt_chain op_le op_le (pe_un un_neg pe_int) (pv 5) (pe_callB call_len_str (by rfl) G.len PySem.boot_len (pa_cons (pe_ix ix_tup (pv 0) pe_int (fun _ _ => rfl)) pa_nil))))))))))) (pss_one (ps_ret pe_bl)) pss_nil)
      (pss_cons (ps_if (PW.pt (pw_and (pt_not (pt_val (pv 2))) (pw_and1 (PW.pt (pw_or (pt_not (pt_val (pe_user H__law_at (hr.mono (by decide)) rfl (pa_cons (pv 0) (pa_cons (pv 4) (pa_cons (pv 5) pa_nil)))))) (pw_or1 (pt_cmpR (op_notInD (hu65 hr)) (pe_ix ix_list (pv 1) (pv 3) (fun _ _ => rfl)) (pe_user H__law_sides (hr.mono (by decide)) rfl (pa_cons (pe_ix ix_list (pv 1) (pe_op op_sub (pv 3) pe_int) (fun _ _ => rfl)) pa_nil)) (by rfl)))))))) (pss_one (ps_ret pe_bl)) pss_nil)
      (pss_one (ps_if (pt_cmpR (op_notInD (hu65 hr)) (pe_ix ix_list (pv 1) (pv 3) (fun _ _ => rfl)) (pe_user H__law_around (hr.mono (by decide)) rfl (pa_cons (pe_ix ix_list (pv 1) (pe_op op_sub (pv 3) pe_int) (fun _ _ => rfl)) pa_nil)) (by rfl)) (pss_one (ps_ret pe_bl)) pss_nil))))))
      (pss_one (ps_ret pe_bl)))), ?_⟩
    refine q_if (W := W0) (et_or (et_not (et_B (ew_isiD "list" true (by decide +kernel) (ew_var (v := v_ring) rfl h_ring)))) (et_t (ew_lt (ew_lenL (ew_ls (ew_var (v := v_ring) rfl h_ring))) ew_int))) g0.ok hm (fun W1 g1 hm => ?_) (fun W1 g1 hm => ?_)
    ·
      have h_chart := PyI.st g1.st h_chart
      have h_ring := PyI.st g1.st h_ring
      have h_water := PyI.st g1.st h_water
      have g0 := g0.trans g1
      refine st_ret (W := W1) ew_bl g0.ok hm fun r2 v_ret W2 g2 hp hm => ?_
      exact hm v_ret W2 (g0.trans g2) rfl hp
    ·
      have h_chart := PyI.st g1.st h_chart
      have h_ring := PyI.st g1.st h_ring
      have h_water := PyI.st g1.st h_water
      have g0 := g0.trans g1
      refine st_next ?_
      refine q_forR1 (W := W1) (ew_lenL (ew_ls (ew_var (v := v_ring) rfl h_ring))) g0.ok hm fun W3 g3 => ?_
      have h_chart := PyI.st g3.st h_chart
      have h_ring := PyI.st g3.st h_ring
      have h_water := PyI.st g3.st h_water
      have g0 := g0.trans g3
      refine ⟨fun y σ' W' => ∃ (o_k : Option V) (o_r : Option V) (o_c : Option V), σ' = [some v_chart, some v_ring, some v_water, o_k, o_r, o_c] ∧ Gw ef0 W0 W' ∧ St W3 W', ⟨_, _, _, rfl, g0, (St.refl _)⟩, fun c3 y3 σi s2 Wi3 R3 nx3 ht hI hm kn3 kb3 kr3 => ?_, fun z3 σi Wi3 hI hm => ?_⟩
      ·
        obtain ⟨o_k, o_r, o_c, rfl, g0, sl3⟩ := hI
        have h_chart := PyI.st sl3 h_chart
        have h_ring := PyI.st sl3 h_ring
        have h_water := PyI.st sl3 h_water
        obtain ⟨v_k, rfl, h_k⟩ := ht
        refine q_un2 (W := Wi3) (ew_ixL (ew_ls (ew_var (v := v_ring) rfl h_ring)) (ew_var (v := v_k) rfl h_k)) g0.ok hm fun a4_r_c v_r v_c W4 g4 h_r h_c hm => ?_
        have h_chart := PyI.st g4.st h_chart
        have h_ring := PyI.st g4.st h_ring
        have h_water := PyI.st g4.st h_water
        have h_k := PyI.st g4.st h_k
        have sl3 := sl3.trans g4.st
        have g0 := g0.trans g4
        first | refine norm_st (σ' := [some v_chart, some v_ring, some v_water, some v_k, some v_r, some v_c]) rfl ?_ | skip
        refine q_if (W := W4) (et_and (et_B (ew_var (v := v_water) rfl h_water)) (et_or (et_B (ev__law_at (ew_var (v := v_chart) rfl h_chart) (ew_var (v := v_r) rfl h_r) (ew_var (v := v_c) rfl h_c))) (et_or (et_not (et_t (ew_chain (C := fun i j => decide (i ≤ j)) (C' := fun i j => decide (i ≤ j)) (ew_neg ew_int) (ew_var (v := v_r) rfl h_r) (ew_lenT (ew_var (v := v_chart) rfl h_chart))))) (et_not (et_t (ew_chain (C := fun i j => decide (i ≤ j)) (C' := fun i j => decide (i ≤ j)) (ew_neg ew_int) (ew_var (v := v_c) rfl h_c) (ew_lenS (ew_ixT (ew_var (v := v_chart) rfl h_chart) ew_int)))))))) g0.ok hm (fun W5 g5 hm => ?_) (fun W5 g5 hm => ?_)
        ·
          have h_chart := PyI.st g5.st h_chart
          have h_ring := PyI.st g5.st h_ring
          have h_water := PyI.st g5.st h_water
          have h_k := PyI.st g5.st h_k
          have h_r := PyI.st g5.st h_r
          have h_c := PyI.st g5.st h_c
          have sl3 := sl3.trans g5.st
          have g0 := g0.trans g5
          refine st_ret (W := W5) ew_bl g0.ok hm fun r6 v_ret W6 g6 hp hm => ?_
          have hm := kr3 _ _ hm
          exact hm v_ret W6 (g0.trans g6) rfl hp
        ·
          have h_chart := PyI.st g5.st h_chart
          have h_ring := PyI.st g5.st h_ring
          have h_water := PyI.st g5.st h_water
          have h_k := PyI.st g5.st h_k
          have h_r := PyI.st g5.st h_r
          have h_c := PyI.st g5.st h_c
          have sl3 := sl3.trans g5.st
          have g0 := g0.trans g5
          refine st_next ?_
          refine q_if (W := W5) (et_and (et_not (et_B (ew_var (v := v_water) rfl h_water))) (et_or (et_not (et_B (ev__law_at (ew_var (v := v_chart) rfl h_chart) (ew_var (v := v_r) rfl h_r) (ew_var (v := v_c) rfl h_c)))) (et_t (ew_notInD (ew_ixL (ew_ls (ew_var (v := v_ring) rfl h_ring)) (ew_var (v := v_k) rfl h_k)) (ew_rd (ev__law_sides (ew_ixL (ew_ls (ew_var (v := v_ring) rfl h_ring)) (ew_sub (ew_var (v := v_k) rfl h_k) ew_int)))))))) g0.ok hm (fun W7 g7 hm => ?_) (fun W7 g7 hm => ?_)
          ·
            have h_chart := PyI.st g7.st h_chart
            have h_ring := PyI.st g7.st h_ring
            have h_water := PyI.st g7.st h_water
            have h_k := PyI.st g7.st h_k
            have h_r := PyI.st g7.st h_r
            have h_c := PyI.st g7.st h_c
            have sl3 := sl3.trans g7.st
            have g0 := g0.trans g7
            refine st_ret (W := W7) ew_bl g0.ok hm fun r8 v_ret W8 g8 hp hm => ?_
            have hm := kr3 _ _ hm
            exact hm v_ret W8 (g0.trans g8) rfl hp
          ·
            have h_chart := PyI.st g7.st h_chart
            have h_ring := PyI.st g7.st h_ring
            have h_water := PyI.st g7.st h_water
            have h_k := PyI.st g7.st h_k
            have h_r := PyI.st g7.st h_r
            have h_c := PyI.st g7.st h_c
            have sl3 := sl3.trans g7.st
            have g0 := g0.trans g7
            refine st_next ?_
            refine st_if (W := W7) (et_t (ew_notInD (ew_ixL (ew_ls (ew_var (v := v_ring) rfl h_ring)) (ew_var (v := v_k) rfl h_k)) (ew_rd (ev__law_around (ew_ixL (ew_ls (ew_var (v := v_ring) rfl h_ring)) (ew_sub (ew_var (v := v_k) rfl h_k) ew_int)))))) g0.ok hm (fun W9 g9 hm => ?_) (fun W9 g9 hm => ?_)
            ·
              have h_chart := PyI.st g9.st h_chart
              have h_ring := PyI.st g9.st h_ring
              have h_water := PyI.st g9.st h_water
              have h_k := PyI.st g9.st h_k
              have h_r := PyI.st g9.st h_r
              have h_c := PyI.st g9.st h_c
              have sl3 := sl3.trans g9.st
              have g0 := g0.trans g9
              refine st_ret (W := W9) ew_bl g0.ok hm fun r10 v_ret W10 g10 hp hm => ?_
              have hm := kr3 _ _ hm
              exact hm v_ret W10 (g0.trans g10) rfl hp
            ·
              have h_chart := PyI.st g9.st h_chart
              have h_ring := PyI.st g9.st h_ring
              have h_water := PyI.st g9.st h_water
              have h_k := PyI.st g9.st h_k
              have h_r := PyI.st g9.st h_r
              have h_c := PyI.st g9.st h_c
              have sl3 := sl3.trans g9.st
              have g0 := g0.trans g9
              refine st_next ?_
              exact kn3 () _ W9 ⟨_, _, _, rfl, g0, sl3⟩ hm
      ·
        obtain ⟨o_k, o_r, o_c, rfl, g0, sl3⟩ := hI
        have h_chart := PyI.st sl3 h_chart
        have h_ring := PyI.st sl3 h_ring
        have h_water := PyI.st sl3 h_water
        refine st_ret (W := Wi3) ew_bl g0.ok hm fun r11 v_ret W11 g11 hp hm => ?_
        exact hm v_ret W11 (g0.trans g11) rfl hp
abbrev s__law_holds : Stmt := top 61
abbrev N__law_holds : List Str := ["chart", "square", "ring"]
abbrev P__law_holds : List Str := ["chart", "square", "ring"]
theorem sc__law_holds : FnScope N__law_holds P__law_holds (defScope s__law_holds) := ⟨rfl, rfl, rfl, by decide +kernel, rfl, by decide +kernel, by decide +kernel⟩
def m__law_holds (a_chart : (List Str)) (a_square : Sq) (a_ring : (Ls Sq)) : WP Bool := (WP.and (WP.b3 (WP.pure a_chart) (WP.pure a_ring) (WP.pure false) m__law_ring_right) (WP.b2 (WP.pure a_ring) (WP.pure a_square) m__law_inside)).bind fun r1 => (WP.pure r1)
def sp__law_holds : Sp := fun vs H Q _ => ∃ (W : Wo) (a_chart : (List Str)) (a_square : Sq) (a_ring : (Ls Sq)) (v_chart v_square v_ring : V), vs = [v_chart, v_square, v_ring] ∧ W.H = H ∧ Good ef0 W ∧ Rp W a_chart v_chart ∧ Rp W a_square v_square ∧ Rp W a_ring v_ring ∧ (m__law_holds a_chart a_square a_ring).run W.n fun n r => ∀ v W', Gw ef0 W W' → W'.n = n → (sI (e := ef0) (α := Bool)).post W W' r v → Q v W'.H
theorem ev__law_holds {e : Ef} {σ : L2.St} {W : Wo} {E : XK} {t0 t1 t2 : TE} {w0 : WP (List Str)} {w1 : WP Sq} {w2 : WP (Ls Sq)} (h0 : EvW e t0 σ W sI w0) (h1 : EvW e t1 σ W sI w1) (h2 : EvW e t2 σ W sI w2) : EvW e (tCall sp__law_holds [] E (tCons t0 (tCons t1 (tCons t2 tNil)))) σ W (sI (α := Bool)) (WP.b3 w0 w1 w2 m__law_holds) := ew_call3N h0 h1 h2 fun W2 b0 b1 b2 x0 x1 x2 g2 r0 r1 r2 Q q E => by
  exact ⟨W2, b0, b1, b2, x0, x1, x2, rfl, rfl, g2.z, r0, r1, r2, WP.mono _ (fun n c h v W3 g3 hn p => h v W3 (Gw.up g2 g3) hn p) q⟩
theorem ok__law_holds (F : At K mg "_law_holds" s__law_holds P__law_holds) (G : Glb mg) (H__law_inside : Has P w K mg base "_law_inside" 1 P__law_inside sp__law_inside) (H__law_ring_right : Has P w K mg base "_law_ring_right" 2 P__law_ring_right sp__law_ring_right) : Has P w K mg base "_law_holds" 3 P__law_holds sp__law_holds := by
  refine Has.of F sc__law_holds (fun vs H Q E h => ?_) (fun f cdv A outer s H0 vs Q E hr h => ?_)
  · obtain ⟨W0, a_chart, a_square, a_ring, v_chart, v_square, v_ring, rfl, _⟩ := h
    rfl
  · obtain ⟨W0, a_chart, a_square, a_ring, v_chart, v_square, v_ring, rfl, rfl, g00, h_chart, h_square, h_ring, hm⟩ := h
    have sc := sc__law_holds
    have g0 := Gw.refl g00
    unfold m__law_holds at hm
    refine ⟨_, (pss_one (ps_ret (pe_and (pe_user H__law_ring_right (hr.mono (by decide)) rfl (pa_cons (pv 0) (pa_cons (pv 2) (pa_cons pe_bl pa_nil)))) (pe_one (pe_user H__law_inside (hr.mono (by decide)) rfl (pa_cons (pv 2) (pa_cons (pv 1) pa_nil))))))), ?_⟩
    refine st_ret (W := W0) (ew_andV (ev__law_ring_right (ew_var (v := v_chart) rfl h_chart) (ew_var (v := v_ring) rfl h_ring) ew_bl) (ev__law_inside (ew_var (v := v_ring) rfl h_ring) (ew_var (v := v_square) rfl h_square))) g0.ok hm fun r1 v_ret W1 g1 hp hm => ?_
    exact hm v_ret W1 (g0.trans g1) rfl hp
abbrev s__law_pick : Stmt := top 63
abbrev N__law_pick : List Str := ["deal", "squares"]
abbrev P__law_pick : List Str := ["deal", "squares"]
theorem sc__law_pick : FnScope N__law_pick P__law_pick (defScope s__law_pick) := ⟨rfl, rfl, rfl, by decide +kernel, rfl, by decide +kernel, by decide +kernel⟩
def m__law_pick (_ : Unit) (a_squares : (List Sq)) : WP Sq := (WP.ix (WP.pure a_squares) (WP.b2 (WP.pure ()) (WP.len (WP.pure a_squares)) m_take)).bind fun r1 => (WP.pure r1)
def sp__law_pick : Sp := fun vs H Q _ => ∃ (d : Dl) (W : Wo) (a_squares : (List Sq)) (v_squares : V) (fp_squares : List Addr), vs = [.ref d.p, v_squares] ∧ W.H = H ∧ Good (efD d) W ∧ (kL Sq).own W fp_squares a_squares v_squares ∧ (∀ a ∈ fp_squares, ¬ (efD d).S a) ∧ (m__law_pick () a_squares).run W.n fun n r => ∀ v W', Gw (efD d) W W' → W'.n = n → (sI (e := (efD d)) (α := Sq)).post W W' r v → Q v W'.H
theorem ev__law_pick {d : Dl} {σ : L2.St} {W : Wo} {E : XK} {t0 t1 : TE} {w0 : WP Unit} {w1 : WP (List Sq)} (h0 : EvW (efD d) t0 σ W (sD d) w0) (h1 : EvW (efD d) t1 σ W (sR (kL Sq)) w1) : EvW (efD d) (tCall sp__law_pick [] E (tCons t0 (tCons t1 tNil))) σ W (sI (α := Sq)) (WP.b2 w0 w1 m__law_pick) := ew_call2N h0 h1 fun W2 b0 b1 x0 x1 g2 r0 ⟨fp1, r1, s1⟩ Q q E => by
  cases r0
  exact ⟨d, W2, b1, x1, fp1, rfl, rfl, g2, r1, s1, WP.mono _ (fun n c h v W3 g3 hn p => h v W3 g3 hn p) q⟩
theorem ok__law_pick (F : At K mg "_law_pick" s__law_pick P__law_pick) (G : Glb mg) (H__law_take : Has P w K mg base "_law_take" 1 P__law_take sp_take) : Has P w K mg base "_law_pick" 2 P__law_pick sp__law_pick := by
  refine Has.of F sc__law_pick (fun vs H Q E h => ?_) (fun f cdv A outer s H0 vs Q E hr h => ?_)
  · obtain ⟨d, W0, a_squares, v_squares, fp_squares, rfl, _⟩ := h
    rfl
  · obtain ⟨d, W0, a_squares, v_squares, fp_squares, rfl, rfl, g00, hb_squares, hS_squares, hm⟩ := h
    have sc := sc__law_pick
    have g0 := Gw.refl g00
    have hl_squares := (kL Sq).live hb_squares
    have hb0_squares := hb_squares
    unfold m__law_pick at hm
    refine ⟨_, (pss_one (ps_ret (pe_ix ix_list (pv 1) (pe_user H__law_take (hr.mono (by decide)) rfl (pa_cons (pv 0) (pa_cons (pe_callB call_len_seq (by rfl) G.len PySem.boot_len (pa_cons (pv 1) pa_nil)) pa_nil))) (fun _ _ => rfl)))), ?_⟩
    refine st_ret (W := W0) (ew_ixL (ew_varR rfl hS_squares hb_squares) (ev_take (ew_deal rfl) (ew_lenL (ew_varR rfl hS_squares hb_squares)))) g0.ok hm fun r1 v_ret W1 g1 hp hm => ?_
    exact hm v_ret W1 (g0.trans g1) rfl hp
abbrev s__law_relief : Stmt := top 64
abbrev N__law_relief : List Str := ["deal", "most", "rows", "columns", "range_of", "base", "style", "grid", "r", "row", "c", "high"]
abbrev P__law_relief : List Str := ["deal", "most"]
theorem sc__law_relief : FnScope N__law_relief P__law_relief (defScope s__law_relief) := ⟨rfl, rfl, rfl, by decide +kernel, rfl, by decide +kernel, by decide +kernel⟩
def m__law_relief (_ : Unit) (a_most : Int) : WP (List Str) := (WP.add (WP.pure (1 : Int)) (WP.b2 (WP.pure ()) (WP.pure a_most) m_take)).bind fun a1_rows => (WP.add (WP.pure (1 : Int)) (WP.b2 (WP.pure ()) (WP.pure a_most) m_take)).bind fun a2_columns => (WP.ix (WP.row (WP.consE (WP.pure (2 : Int)) (WP.consE (WP.pure (3 : Int)) (WP.consE (WP.pure (5 : Int)) (WP.consE (WP.pure (10 : Int)) (WP.pure ([] : List Int))))))) (WP.b2 (WP.pure ()) (WP.pure (4 : Int)) m_take)).bind fun a3_range_of => (WP.b2 (WP.pure ()) (WP.sub (WP.pure (11 : Int)) (WP.pure a3_range_of)) m_take).bind fun a4_base => (WP.b2 (WP.pure ()) (WP.pure (4 : Int)) m_take).bind fun a5_style => (WP.row (WP.pure ([] : List Str))).bind fun a6_grid => (WP.range1 (WP.pure a1_rows)).bind fun xs7 => WP.after (WP.loop (γ := (List Str)) (fun c7 (y7 : (List Str)) => (WP.pure (Str.ofString "")).bind fun a8_row => (WP.range1 (WP.pure a2_columns)).bind fun xs9 => WP.after (WP.loop (γ := (List Str)) (fun c9 (y9 : Str) => (WP.add (WP.pure a4_base) (WP.b2 (WP.pure ()) (WP.pure a3_range_of) m_take)).bind fun a10_high => ((WP.eq (WP.pure a5_style) (WP.pure (1 : Int))).bind fun b => WP.cond b ((WP.add (WP.pure a4_base) (WP.min2 (WP.sub (WP.pure a3_range_of) (WP.pure (1 : Int))) (WP.add (WP.min4 (WP.pure c7) (WP.pure c9) (WP.sub (WP.sub (WP.pure a1_rows) (WP.pure (1 : Int))) (WP.pure c7)) (WP.sub (WP.sub (WP.pure a2_columns) (WP.pure (1 : Int))) (WP.pure c9))) (WP.b2 (WP.pure ()) (WP.pure (2 : Int)) m_take)))).bind fun a15_high => (WP.pure a15_high)) ((WP.pure a10_high))).bind fun (y11 : Int) => ((WP.eq (WP.pure a5_style) (WP.pure (2 : Int))).bind fun b => WP.cond b ((WP.add (WP.pure a4_base) (WP.min2 (WP.sub (WP.pure a3_range_of) (WP.pure (1 : Int))) (WP.add (WP.abs (WP.sub (WP.pure c7) (WP.pure c9))) (WP.b2 (WP.pure ()) (WP.pure (2 : Int)) m_take)))).bind fun a14_high => (WP.pure a14_high)) ((WP.pure y11))).bind fun (y12 : Int) => (WP.catS (WP.pure y9) (WP.str' (WP.pure y12))).bind fun a13_row => (WP.pure (.nx a13_row))) xs9 a8_row) (fun (z9 : Str) => ((WP.pure z9).bind fun a => WP.req (y7.length < 100000) (y7 ++ [a])).bind fun a16_grid => (WP.pure (.nx a16_grid))) (fun r => (WP.pure (.rt r)))) xs7 a6_grid) (fun (z7 : (List Str)) => ((WP.pure z7).bind fun xs => WP.pure (α := List _) xs).bind fun r17 => (WP.pure r17)) (fun r => (WP.pure r))
def sp__law_relief : Sp := fun vs H Q _ => ∃ (d : Dl) (W : Wo) (a_most : Int) (v_most : V), vs = [.ref d.p, v_most] ∧ W.H = H ∧ Good (efD d) W ∧ Rp W a_most v_most ∧ (m__law_relief () a_most).run W.n fun n r => ∀ v W', Gw (efD d) W W' → W'.n = n → (sI (e := (efD d)) (α := (List Str))).post W W' r v → Q v W'.H
theorem ev__law_relief {d : Dl} {σ : L2.St} {W : Wo} {E : XK} {t0 t1 : TE} {w0 : WP Unit} {w1 : WP Int} (h0 : EvW (efD d) t0 σ W (sD d) w0) (h1 : EvW (efD d) t1 σ W sI w1) : EvW (efD d) (tCall sp__law_relief [] E (tCons t0 (tCons t1 tNil))) σ W (sI (α := (List Str))) (WP.b2 w0 w1 m__law_relief) := ew_call2N h0 h1 fun W2 b0 b1 x0 x1 g2 r0 r1 Q q E => by
  cases r0
  exact ⟨d, W2, b1, x1, rfl, rfl, g2, r1, WP.mono _ (fun n c h v W3 g3 hn p => h v W3 g3 hn p) q⟩
theorem ok__law_relief (F : At K mg "_law_relief" s__law_relief P__law_relief) (G : Glb mg) (H__law_take : Has P w K mg base "_law_take" 1 P__law_take sp_take) : Has P w K mg base "_law_relief" 2 P__law_relief sp__law_relief := by
  refine Has.of F sc__law_relief (fun vs H Q E h => ?_) (fun f cdv A outer s H0 vs Q E hr h => ?_)
  · obtain ⟨d, W0, a_most, v_most, rfl, _⟩ := h
    rfl
  · obtain ⟨d, W0, a_most, v_most, rfl, rfl, g00, h_most, hm⟩ := h
    have sc := sc__law_relief
    have g0 := Gw.refl g00
    unfold m__law_relief at hm
    refine ⟨_, (pss_cons (ps_set (i := 2) sc.nd rfl (Or.inl rfl) (pe_op op_add pe_int (pe_user H__law_take (hr.mono (by decide)) rfl (pa_cons (pv 0) (pa_cons (pv 1) pa_nil)))))
      (pss_cons (ps_set (i := 3) sc.nd rfl (Or.inl rfl) (pe_op op_add pe_int (pe_user H__law_take (hr.mono (by decide)) rfl (pa_cons (pv 0) (pa_cons (pv 1) pa_nil)))))
      (pss_cons (ps_set (i := 4) sc.nd rfl (Or.inl rfl) (pe_ix ix_list (pe_lst (pa_cons pe_int (pa_cons pe_int (pa_cons pe_int (pa_cons pe_int pa_nil))))) (pe_user H__law_take (hr.mono (by decide)) rfl (pa_cons (pv 0) (pa_cons pe_int pa_nil))) (fun _ _ => rfl)))
      (pss_cons (ps_set (i := 5) sc.nd rfl (Or.inl rfl) (pe_user H__law_take (hr.mono (by decide)) rfl (pa_cons (pv 0) (pa_cons (pe_op op_sub pe_int (pv 4)) pa_nil))))
      (pss_cons (ps_set (i := 6) sc.nd rfl (Or.inl rfl) (pe_user H__law_take (hr.mono (by decide)) rfl (pa_cons (pv 0) (pa_cons pe_int pa_nil))))
      (pss_cons (ps_set (i := 7) sc.nd rfl (Or.inl rfl) (pe_lst pa_nil))
      (pss_cons (ps_for PassesOwn.never rfl (pi_range1 rfl G.range (pa_cons (pv 2) pa_nil)) (pg_name (i := 8) sc.nd rfl (Or.inl rfl))
      (pss_cons (ps_set (i := 9) sc.nd rfl (Or.inl rfl) pe_str)
      (pss_cons (ps_for PassesOwn.never rfl (pi_range1 rfl G.range (pa_cons (pv 3) pa_nil)) (pg_name (i := 10) sc.nd rfl (Or.inl rfl))
      (pss_cons (ps_set (i := 11) sc.nd rfl (Or.inl rfl) (pe_op op_add (pv 5) (pe_user H__law_take (hr.mono (by decide)) rfl (pa_cons (pv 0) (pa_cons (pv 4) pa_nil)))))
      (pss_cons (ps_if (pt_cmpR op_eq (pv 6) pe_int (nomark _)) (pss_one (ps_set (i := 11) sc.nd rfl (Or.inl rfl) (pe_op op_add (pv 5) (pe_callB (call_min2 rfl) (by rfl) G.min (by decide +kernel) (pa_cons (pe_op op_sub (pv 4) pe_int) (pa_cons (pe_op op_add (pe_callB (call_min4 rfl) (by rfl) G.min (by decide +kernel) (pa_cons (pv 8) (pa_cons (pv 10) (pa_cons (pe_op op_sub (pe_op op_sub (pv 2) pe_int) (pv 8)) (pa_cons (pe_op op_sub (pe_op op_sub (pv 3) pe_int) (pv 10)) pa_nil))))) (pe_user H__law_take (hr.mono (by decide)) rfl (pa_cons (pv 0) (pa_cons pe_int pa_nil)))) pa_nil)))))) pss_nil)
      (pss_cons (ps_if (pt_cmpR op_eq (pv 6) pe_int (nomark _)) (pss_one (ps_set (i := 11) sc.nd rfl (Or.inl rfl) (pe_op op_add (pv 5) (pe_callB (call_min2 rfl) (by rfl) G.min (by decide +kernel) (pa_cons (pe_op op_sub (pv 4) pe_int) (pa_cons (pe_op op_add (pe_callB call_abs (by rfl) G.abs (by decide +kernel) (pa_cons (pe_op op_sub (pv 8) (pv 10)) pa_nil)) (pe_user H__law_take (hr.mono (by decide)) rfl (pa_cons (pv 0) (pa_cons pe_int pa_nil)))) pa_nil)))))) pss_nil)
      (pss_one (ps_set (i := 9) sc.nd rfl (Or.inl rfl) (pe_op op_add_str (pv 9) (pe_callTy call_str_int (by rfl) G.str (by decide +kernel) (pa_cons (pv 11) pa_nil)))))))))
      (pss_one (ps_expr (pe_bm PySem.F.plainAttrs_list PySem.F.slot_list_append PySem.F.type_list_append mt_append (pv 7) (pa_cons (pv 9) pa_nil)))))))
      (pss_one (ps_ret (pe_callTy call_tuple_of (by rfl) G.tuple (by decide +kernel) (pa_cons (pv 7) pa_nil))))))))))), ?_⟩
    refine q_asg (W := W0) (ew_add ew_int (ev_take (ew_deal rfl) (ew_var (v := v_most) rfl h_most))) g0.ok hm fun a1_rows v_rows W1 g1 h_rows hm => ?_
    have h_most := PyI.st g1.st h_most
    have g0 := g0.trans g1
    refine q_asg (W := W1) (ew_add ew_int (ev_take (ew_deal rfl) (ew_var (v := v_most) rfl h_most))) g0.ok hm fun a2_columns v_columns W2 g2 h_columns hm => ?_
    have h_most := PyI.st g2.st h_most
    have h_rows := PyI.st g2.st h_rows
    have g0 := g0.trans g2
    first | refine norm_st (σ' := [some (.ref d.p), some v_most, some v_rows, some v_columns, none, none, none, none, none, none, none, none]) rfl ?_ | skip
    refine q_asg (W := W2) (ew_ixL (ew_rd (ew_lst (eas_cons ew_int (eas_cons ew_int (eas_cons ew_int (eas_cons ew_int (eas_nil (α := Int)))))))) (ev_take (ew_deal rfl) ew_int)) g0.ok hm fun a3_range_of v_range_of W3 g3 h_range_of hm => ?_
    have h_most := PyI.st g3.st h_most
    have h_rows := PyI.st g3.st h_rows
    have h_columns := PyI.st g3.st h_columns
    have g0 := g0.trans g3
    refine q_asg (W := W3) (ev_take (ew_deal rfl) (ew_sub ew_int (ew_var (v := v_range_of) rfl h_range_of))) g0.ok hm fun a4_base v_base W4 g4 h_base hm => ?_
    have h_most := PyI.st g4.st h_most
    have h_rows := PyI.st g4.st h_rows
    have h_columns := PyI.st g4.st h_columns
    have h_range_of := PyI.st g4.st h_range_of
    have g0 := g0.trans g4
    first | refine norm_st (σ' := [some (.ref d.p), some v_most, some v_rows, some v_columns, some v_range_of, some v_base, none, none, none, none, none, none]) rfl ?_ | skip
    refine q_asg (W := W4) (ev_take (ew_deal rfl) ew_int) g0.ok hm fun a5_style v_style W5 g5 h_style hm => ?_
    have h_most := PyI.st g5.st h_most
    have h_rows := PyI.st g5.st h_rows
    have h_columns := PyI.st g5.st h_columns
    have h_range_of := PyI.st g5.st h_range_of
    have h_base := PyI.st g5.st h_base
    have g0 := g0.trans g5
    refine q_asg (W := W5) (ew_lst (eas_nil (α := Str))) g0.ok hm fun a6_grid v_grid W6 g6 ⟨fp_grid, ho0_grid, hf_grid⟩ hm => ?_
    have hz_grid : ∀ a ∈ fp_grid, W0.H a = none := fun a m => g0.live a (hf_grid a m).1
    have h_most := PyI.st g6.st h_most
    have h_rows := PyI.st g6.st h_rows
    have h_columns := PyI.st g6.st h_columns
    have h_range_of := PyI.st g6.st h_range_of
    have h_base := PyI.st g6.st h_base
    have h_style := PyI.st g6.st h_style
    have g0 := g0.trans g6
    have ho_grid : Var (kL Str) W0 W6 fp_grid a6_grid v_grid := ⟨ho0_grid, hz_grid, fun b m => (hf_grid b m).2.2⟩
    first | refine norm_st (σ' := [some (.ref d.p), some v_most, some v_rows, some v_columns, some v_range_of, some v_base, some v_style, some v_grid, none, none, none, none]) rfl ?_ | skip
    refine q_forR1 (W := W6) (ew_var (v := v_rows) rfl h_rows) g0.ok hm fun W7 g7 => ?_
    have h_most := PyI.st g7.st h_most
    have h_rows := PyI.st g7.st h_rows
    have h_columns := PyI.st g7.st h_columns
    have h_range_of := PyI.st g7.st h_range_of
    have h_base := PyI.st g7.st h_base
    have h_style := PyI.st g7.st h_style
    have ho_grid := ho_grid.go g00 g7
    have g0 := g0.trans g7
    refine ⟨fun y σ' W' => ∃ (v_grid : V) (fp_grid : List Addr) (o_r : Option V) (o_row : Option V) (o_c : Option V) (o_high : Option V), σ' = [some (.ref d.p), some v_most, some v_rows, some v_columns, some v_range_of, some v_base, some v_style, some v_grid, o_r, o_row, o_c, o_high] ∧ Gw (efD d) W0 W' ∧ St W7 W' ∧ Var (kL Str) W0 W' fp_grid y v_grid, ⟨v_grid, fp_grid, _, _, _, _, rfl, g0, (St.refl _), ho_grid⟩, fun c7 y7 σi s2 Wi7 R7 nx7 ht hI hm kn7 kb7 kr7 => ?_, fun z7 σi Wi7 hI hm => ?_⟩
    ·
      obtain ⟨v_grid, fp_grid, o_r, o_row, o_c, o_high, rfl, g0, sl7, ho_grid⟩ := hI
      have h_most := PyI.st sl7 h_most
      have h_rows := PyI.st sl7 h_rows
      have h_columns := PyI.st sl7 h_columns
      have h_range_of := PyI.st sl7 h_range_of
      have h_base := PyI.st sl7 h_base
      have h_style := PyI.st sl7 h_style
      obtain ⟨v_r, rfl, h_r⟩ := ht
      refine q_asg (W := Wi7) ew_str g0.ok hm fun a8_row v_row W8 g8 h_row hm => ?_
      have h_most := PyI.st g8.st h_most
      have h_rows := PyI.st g8.st h_rows
      have h_columns := PyI.st g8.st h_columns
      have h_range_of := PyI.st g8.st h_range_of
      have h_base := PyI.st g8.st h_base
      have h_style := PyI.st g8.st h_style
      have ho_grid := ho_grid.go g00 g8
      have h_r := PyI.st g8.st h_r
      have sl7 := sl7.trans g8.st
      have g0 := g0.trans g8
      refine q_forR1 (W := W8) (ew_var (v := v_columns) rfl h_columns) g0.ok hm fun W9 g9 => ?_
      have h_most := PyI.st g9.st h_most
      have h_rows := PyI.st g9.st h_rows
      have h_columns := PyI.st g9.st h_columns
      have h_range_of := PyI.st g9.st h_range_of
      have h_base := PyI.st g9.st h_base
      have h_style := PyI.st g9.st h_style
      have ho_grid := ho_grid.go g00 g9
      have h_r := PyI.st g9.st h_r
      have h_row := PyI.st g9.st h_row
      have sl7 := sl7.trans g9.st
      have g0 := g0.trans g9
      refine ⟨fun y σ' W' => ∃ (v_row : V) (o_c : Option V) (o_high : Option V), σ' = [some (.ref d.p), some v_most, some v_rows, some v_columns, some v_range_of, some v_base, some v_style, some v_grid, some v_r, some v_row, o_c, o_high] ∧ Gw (efD d) W0 W' ∧ St W9 W' ∧ Rp W' y v_row ∧ Var (kL Str) W0 W' fp_grid y7 v_grid, ⟨v_row, _, _, rfl, g0, (St.refl _), h_row, ho_grid⟩, fun c9 y9 σi s2 Wi9 R9 nx9 ht hI hm kn9 kb9 kr9 => ?_, fun z9 σi Wi9 hI hm => ?_⟩
      ·
        obtain ⟨v_row, o_c, o_high, rfl, g0, sl9, h_row, ho_grid⟩ := hI
        have h_most := PyI.st sl9 h_most
        have h_rows := PyI.st sl9 h_rows
        have h_columns := PyI.st sl9 h_columns
        have h_range_of := PyI.st sl9 h_range_of
        have h_base := PyI.st sl9 h_base
        have h_style := PyI.st sl9 h_style
        have h_r := PyI.st sl9 h_r
        have sl7 := sl7.trans sl9
        obtain ⟨v_c, rfl, h_c⟩ := ht
        refine q_asg (W := Wi9) (ew_add (ew_var (v := v_base) rfl h_base) (ev_take (ew_deal rfl) (ew_var (v := v_range_of) rfl h_range_of))) g0.ok hm fun a10_high v_high W10 g10 h_high hm => ?_
        have h_most := PyI.st g10.st h_most
        have h_rows := PyI.st g10.st h_rows
        have h_columns := PyI.st g10.st h_columns
        have h_range_of := PyI.st g10.st h_range_of
        have h_base := PyI.st g10.st h_base
        have h_style := PyI.st g10.st h_style
        have ho_grid := ho_grid.go g00 g10
        have h_r := PyI.st g10.st h_r
        have h_row := PyI.st g10.st h_row
        have h_c := PyI.st g10.st h_c
        have sl7 := sl7.trans g10.st
        have sl9 := sl9.trans g10.st
        have g0 := g0.trans g10
        first | refine norm_st (σ' := [some (.ref d.p), some v_most, some v_rows, some v_columns, some v_range_of, some v_base, some v_style, some v_grid, some v_r, some v_row, some v_c, some v_high]) rfl ?_ | skip
        refine q_join (W := W10) (s := Int) (fun y σ' W' => ∃ (v_high : V), σ' = [some (.ref d.p), some v_most, some v_rows, some v_columns, some v_range_of, some v_base, some v_style, some v_grid, some v_r, some v_row, some v_c, some v_high] ∧ Gw (efD d) W0 W' ∧ St W10 W' ∧ Rp W' y v_high ∧ Var (kL Str) W0 W' fp_grid y7 v_grid) (et_t (ew_eq (ew_var (v := v_style) rfl h_style) ew_int)) g0.ok hm (fun y11 σj Wj11 hI hm => ?_) (fun W11 R11 g11 hm kj => ?_) (fun W11 R11 g11 hm kj => ?_)
        ·
          obtain ⟨v_high, rfl, g0, sj11, h_high, ho_grid⟩ := hI
          have h_most := PyI.st sj11 h_most
          have h_rows := PyI.st sj11 h_rows
          have h_columns := PyI.st sj11 h_columns
          have h_range_of := PyI.st sj11 h_range_of
          have h_base := PyI.st sj11 h_base
          have h_style := PyI.st sj11 h_style
          have h_r := PyI.st sj11 h_r
          have h_row := PyI.st sj11 h_row
          have h_c := PyI.st sj11 h_c
          have sl7 := sl7.trans sj11
          have sl9 := sl9.trans sj11
          refine q_join (W := Wj11) (s := Int) (fun y σ' W' => ∃ (v_high : V), σ' = [some (.ref d.p), some v_most, some v_rows, some v_columns, some v_range_of, some v_base, some v_style, some v_grid, some v_r, some v_row, some v_c, some v_high] ∧ Gw (efD d) W0 W' ∧ St Wj11 W' ∧ Rp W' y v_high ∧ Var (kL Str) W0 W' fp_grid y7 v_grid) (et_t (ew_eq (ew_var (v := v_style) rfl h_style) ew_int)) g0.ok hm (fun y12 σj Wj12 hI hm => ?_) (fun W12 R12 g12 hm kj => ?_) (fun W12 R12 g12 hm kj => ?_)
          ·
            obtain ⟨v_high, rfl, g0, sj12, h_high, ho_grid⟩ := hI
            have h_most := PyI.st sj12 h_most
            have h_rows := PyI.st sj12 h_rows
            have h_columns := PyI.st sj12 h_columns
            have h_range_of := PyI.st sj12 h_range_of
            have h_base := PyI.st sj12 h_base
            have h_style := PyI.st sj12 h_style
            have h_r := PyI.st sj12 h_r
            have h_row := PyI.st sj12 h_row
            have h_c := PyI.st sj12 h_c
            have sl7 := sl7.trans sj12
            have sl9 := sl9.trans sj12
            refine st_asg (W := Wj12) (ew_catS (ew_var (v := v_row) rfl h_row) (ew_str' (ew_var (v := v_high) rfl h_high))) g0.ok hm fun a13_row v_row W13 g13 h_row hm => ?_
            have h_most := PyI.st g13.st h_most
            have h_rows := PyI.st g13.st h_rows
            have h_columns := PyI.st g13.st h_columns
            have h_range_of := PyI.st g13.st h_range_of
            have h_base := PyI.st g13.st h_base
            have h_style := PyI.st g13.st h_style
            have ho_grid := ho_grid.go g00 g13
            have h_r := PyI.st g13.st h_r
            have h_c := PyI.st g13.st h_c
            have h_high := PyI.st g13.st h_high
            have sl7 := sl7.trans g13.st
            have sl9 := sl9.trans g13.st
            have g0 := g0.trans g13
            exact kn9 a13_row _ W13 ⟨v_row, _, _, rfl, g0, sl9, h_row, ho_grid⟩ hm
          ·
            have h_most := PyI.st g12.st h_most
            have h_rows := PyI.st g12.st h_rows
            have h_columns := PyI.st g12.st h_columns
            have h_range_of := PyI.st g12.st h_range_of
            have h_base := PyI.st g12.st h_base
            have h_style := PyI.st g12.st h_style
            have ho_grid := ho_grid.go g00 g12
            have h_r := PyI.st g12.st h_r
            have h_row := PyI.st g12.st h_row
            have h_c := PyI.st g12.st h_c
            have h_high := PyI.st g12.st h_high
            have sl7 := sl7.trans g12.st
            have sl9 := sl9.trans g12.st
            have g0 := g0.trans g12
            have sj12 := g12.st
            refine st_asg (W := W12) (ew_add (ew_var (v := v_base) rfl h_base) (ew_min2 (ew_sub (ew_var (v := v_range_of) rfl h_range_of) ew_int) (ew_add (ew_abs (ew_sub (ew_var (v := v_r) rfl h_r) (ew_var (v := v_c) rfl h_c))) (ev_take (ew_deal rfl) ew_int)))) g0.ok hm fun a14_high v_high W14 g14 h_high hm => ?_
            have h_most := PyI.st g14.st h_most
            have h_rows := PyI.st g14.st h_rows
            have h_columns := PyI.st g14.st h_columns
            have h_range_of := PyI.st g14.st h_range_of
            have h_base := PyI.st g14.st h_base
            have h_style := PyI.st g14.st h_style
            have ho_grid := ho_grid.go g00 g14
            have h_r := PyI.st g14.st h_r
            have h_row := PyI.st g14.st h_row
            have h_c := PyI.st g14.st h_c
            have sl7 := sl7.trans g14.st
            have sl9 := sl9.trans g14.st
            have sj12 := sj12.trans g14.st
            have g0 := g0.trans g14
            exact kj a14_high _ W14 ⟨v_high, rfl, g0, sj12, h_high, ho_grid⟩ hm
          ·
            have h_most := PyI.st g12.st h_most
            have h_rows := PyI.st g12.st h_rows
            have h_columns := PyI.st g12.st h_columns
            have h_range_of := PyI.st g12.st h_range_of
            have h_base := PyI.st g12.st h_base
            have h_style := PyI.st g12.st h_style
            have ho_grid := ho_grid.go g00 g12
            have h_r := PyI.st g12.st h_r
            have h_row := PyI.st g12.st h_row
            have h_c := PyI.st g12.st h_c
            have h_high := PyI.st g12.st h_high
            have sl7 := sl7.trans g12.st
            have sl9 := sl9.trans g12.st
            have g0 := g0.trans g12
            have sj12 := g12.st
            refine st_next ?_
            exact kj y11 _ W12 ⟨v_high, rfl, g0, sj12, h_high, ho_grid⟩ hm
        ·
          have h_most := PyI.st g11.st h_most
          have h_rows := PyI.st g11.st h_rows
          have h_columns := PyI.st g11.st h_columns
          have h_range_of := PyI.st g11.st h_range_of
          have h_base := PyI.st g11.st h_base
          have h_style := PyI.st g11.st h_style
          have ho_grid := ho_grid.go g00 g11
          have h_r := PyI.st g11.st h_r
          have h_row := PyI.st g11.st h_row
          have h_c := PyI.st g11.st h_c
          have h_high := PyI.st g11.st h_high
          have sl7 := sl7.trans g11.st
          have sl9 := sl9.trans g11.st
          have g0 := g0.trans g11
          have sj11 := g11.st
          first | refine norm_st (σ' := [some (.ref d.p), some v_most, some v_rows, some v_columns, some v_range_of, some v_base, some v_style, some v_grid, some v_r, some v_row, some v_c, some v_high]) rfl ?_ | skip
          refine st_asg (W := W11) (ew_add (ew_var (v := v_base) rfl h_base) (ew_min2 (ew_sub (ew_var (v := v_range_of) rfl h_range_of) ew_int) (ew_add (ew_min4 (ew_var (v := v_r) rfl h_r) (ew_var (v := v_c) rfl h_c) (ew_sub (ew_sub (ew_var (v := v_rows) rfl h_rows) ew_int) (ew_var (v := v_r) rfl h_r)) (ew_sub (ew_sub (ew_var (v := v_columns) rfl h_columns) ew_int) (ew_var (v := v_c) rfl h_c))) (ev_take (ew_deal rfl) ew_int)))) g0.ok hm fun a15_high v_high W15 g15 h_high hm => ?_
          have h_most := PyI.st g15.st h_most
          have h_rows := PyI.st g15.st h_rows
          have h_columns := PyI.st g15.st h_columns
          have h_range_of := PyI.st g15.st h_range_of
          have h_base := PyI.st g15.st h_base
          have h_style := PyI.st g15.st h_style
          have ho_grid := ho_grid.go g00 g15
          have h_r := PyI.st g15.st h_r
          have h_row := PyI.st g15.st h_row
          have h_c := PyI.st g15.st h_c
          have sl7 := sl7.trans g15.st
          have sl9 := sl9.trans g15.st
          have sj11 := sj11.trans g15.st
          have g0 := g0.trans g15
          exact kj a15_high _ W15 ⟨v_high, rfl, g0, sj11, h_high, ho_grid⟩ hm
        ·
          have h_most := PyI.st g11.st h_most
          have h_rows := PyI.st g11.st h_rows
          have h_columns := PyI.st g11.st h_columns
          have h_range_of := PyI.st g11.st h_range_of
          have h_base := PyI.st g11.st h_base
          have h_style := PyI.st g11.st h_style
          have ho_grid := ho_grid.go g00 g11
          have h_r := PyI.st g11.st h_r
          have h_row := PyI.st g11.st h_row
          have h_c := PyI.st g11.st h_c
          have h_high := PyI.st g11.st h_high
          have sl7 := sl7.trans g11.st
          have sl9 := sl9.trans g11.st
          have g0 := g0.trans g11
          have sj11 := g11.st
          refine st_next ?_
          exact kj a10_high _ W11 ⟨v_high, rfl, g0, sj11, h_high, ho_grid⟩ hm
      ·
        obtain ⟨v_row, o_c, o_high, rfl, g0, sl9, h_row, ho_grid⟩ := hI
        have h_most := PyI.st sl9 h_most
        have h_rows := PyI.st sl9 h_rows
        have h_columns := PyI.st sl9 h_columns
        have h_range_of := PyI.st sl9 h_range_of
        have h_base := PyI.st sl9 h_base
        have h_style := PyI.st sl9 h_style
        have h_r := PyI.st sl9 h_r
        have sl7 := sl7.trans sl9
        refine st_app (W := Wi9) g00 g0 rfl ho_grid (ew_var (v := v_row) rfl h_row) hm fun a16_grid W16_ W16 l_grid el_grid g16 s g02 kk ff ho_grid hm => ?_
        have h_most := PyI.st g16.st h_most
        have h_rows := PyI.st g16.st h_rows
        have h_columns := PyI.st g16.st h_columns
        have h_range_of := PyI.st g16.st h_range_of
        have h_base := PyI.st g16.st h_base
        have h_style := PyI.st g16.st h_style
        have h_r := PyI.st g16.st h_r
        have h_row := PyI.st g16.st h_row
        have sl7 := sl7.trans g16.st
        have g0 := g0.trans g16
        have h_most := PyI.st s h_most
        have h_rows := PyI.st s h_rows
        have h_columns := PyI.st s h_columns
        have h_range_of := PyI.st s h_range_of
        have h_base := PyI.st s h_base
        have h_style := PyI.st s h_style
        have h_r := PyI.st s h_r
        have h_row := PyI.st s h_row
        have sl7 := sl7.trans s
        have g0 := g02
        exact kn7 a16_grid _ W16 ⟨v_grid, fp_grid, _, _, _, _, rfl, g0, sl7, ho_grid⟩ hm
    ·
      obtain ⟨v_grid, fp_grid, o_r, o_row, o_c, o_high, rfl, g0, sl7, ho_grid⟩ := hI
      have h_most := PyI.st sl7 h_most
      have h_rows := PyI.st sl7 h_rows
      have h_columns := PyI.st sl7 h_columns
      have h_range_of := PyI.st sl7 h_range_of
      have h_base := PyI.st sl7 h_base
      have h_style := PyI.st sl7 h_style
      refine st_ret (W := Wi7) (ew_tuple (ew_varR (v := v_grid) rfl (Var.nS g00 ho_grid) ho_grid.own)) g0.ok hm fun r17 v_ret W17 g17 hp hm => ?_
      exact hm v_ret W17 (g0.trans g17) rfl hp
abbrev s__law_square : Stmt := top 66
abbrev N__law_square : List Str := ["relief", "square", "own", "low", "level", "chart", "dry", "told", "ring"]
abbrev P__law_square : List Str := ["relief", "square"]
theorem sc__law_square : FnScope N__law_square P__law_square (defScope s__law_square) := ⟨rfl, rfl, rfl, by decide +kernel, rfl, by decide +kernel, by decide +kernel⟩
def m__law_square (a_relief : (List Str)) (a_square : Sq) : WP Bool := (WP.int' (WP.ixS (WP.ix (WP.pure a_relief) (WP.fst (WP.pure a_square))) (WP.snd (WP.pure a_square)))).bind fun a1_own => (WP.b2 (WP.pure a_relief) (WP.pure a_square) m_spill).bind fun a2_low => (WP.or (WP.not ((WP.pure a2_low).bind fun _ => WP.pure true)) (WP.or (WP.not (WP.chain (fun i j => decide (i ≤ j)) (fun i j => decide (i ≤ j)) (WP.pure a1_own) (WP.pure a2_low) (WP.pure (9 : Int)))) (WP.not (WP.b2 ((WP.b2 (WP.pure a_relief) (WP.pure a_square) m_pool).bind fun x => WP.pure (Dat.dat x)) ((WP.sub (WP.pure a2_low) (WP.pure a1_own)).bind fun x => WP.pure (Dat.dat x)) (m__law_same 6))))).bind fun b => WP.cond b ((WP.pure false).bind fun r4 => (WP.pure r4)) ((WP.range2 (WP.add (WP.pure a1_own) (WP.pure (1 : Int))) (WP.pure (11 : Int))).bind fun xs5 => WP.after (WP.loop (γ := Bool) (fun c5 (y5 : Unit) => (WP.b2 (WP.pure a_relief) (WP.pure c5) m_chart_at).bind fun a6_chart => (WP.lt (WP.pure a2_low) (WP.pure c5)).bind fun a7_dry => (WP.b2 (WP.pure a6_chart) (WP.pure a_square) m_drains).bind fun a8_told => (WP.or (WP.not ((WP.pure a8_told).bind fun _ => WP.pure true)) (WP.or (WP.ne (WP.pure a8_told) (WP.pure a7_dry)) (WP.ne (WP.b2 (WP.pure a6_chart) (WP.pure a_square) m__law_drained) (WP.pure a7_dry)))).bind fun b => WP.cond b ((WP.pure false).bind fun r10 => (WP.pure (.rt r10))) ((WP.b2 (WP.pure a6_chart) (WP.pure a_square) m_holding_ring).bind fun a11_ring => (WP.or (WP.ne (WP.isN (WP.pure a11_ring)) (WP.pure a7_dry)) (WP.eq (WP.isN (WP.b2 (WP.pure a6_chart) (WP.pure a_square) m_water_way)) (WP.pure a7_dry))).bind fun b => WP.cond b ((WP.pure false).bind fun r13 => (WP.pure (.rt r13))) ((WP.and (WP.not (WP.pure a7_dry)) (WP.not (WP.b3 (WP.pure a6_chart) (WP.pure a_square) (WP.the (WP.pure a11_ring)) m__law_holds))).bind fun b => WP.cond b ((WP.pure false).bind fun r15 => (WP.pure (.rt r15))) ((WP.pure (.nx ())))))) xs5 ()) (fun (z5 : Unit) => (WP.pure true).bind fun r16 => (WP.pure r16)) (fun r => (WP.pure r)))
def sp__law_square : Sp := fun vs H Q _ => ∃ (W : Wo) (a_relief : (List Str)) (a_square : Sq) (v_relief v_square : V), vs = [v_relief, v_square] ∧ W.H = H ∧ Good ef0 W ∧ Rp W a_relief v_relief ∧ Rp W a_square v_square ∧ (m__law_square a_relief a_square).run W.n fun n r => ∀ v W', Gw ef0 W W' → W'.n = n → (sI (e := ef0) (α := Bool)).post W W' r v → Q v W'.H
theorem ev__law_square {e : Ef} {σ : L2.St} {W : Wo} {E : XK} {t0 t1 : TE} {w0 : WP (List Str)} {w1 : WP Sq} (h0 : EvW e t0 σ W sI w0) (h1 : EvW e t1 σ W sI w1) : EvW e (tCall sp__law_square [] E (tCons t0 (tCons t1 tNil))) σ W (sI (α := Bool)) (WP.b2 w0 w1 m__law_square) := ew_call2N h0 h1 fun W2 b0 b1 x0 x1 g2 r0 r1 Q q E => by
  exact ⟨W2, b0, b1, x0, x1, rfl, rfl, g2.z, r0, r1, WP.mono _ (fun n c h v W3 g3 hn p => h v W3 (Gw.up g2 g3) hn p) q⟩
theorem ok__law_square (F : At K mg "_law_square" s__law_square P__law_square) (G : Glb mg) (H__law_drained : Has P w K mg base "_law_drained" 3 P__law_drained sp__law_drained) (H__law_holds : Has P w K mg base "_law_holds" 3 P__law_holds sp__law_holds) (H__law_same : Has P w K mg base "_law_same" 7 P__law_same (sp__law_same 6)) (H_chart_at : Has P w K mg base "chart_at" 1 P_chart_at sp_chart_at) (H_drains : Has P w K mg base "drains" 6 P_drains sp_drains) (H_holding_ring : Has P w K mg base "holding_ring" 9 P_holding_ring sp_holding_ring) (H_pool : Has P w K mg base "pool" 8 P_pool sp_pool) (H_spill : Has P w K mg base "spill" 7 P_spill sp_spill) (H_water_way : Has P w K mg base "water_way" 6 P_water_way sp_water_way) : Has P w K mg base "_law_square" 10 P__law_square sp__law_square := by
  refine Has.of F sc__law_square (fun vs H Q E h => ?_) (fun f cdv A outer s H0 vs Q E hr h => ?_)
  · obtain ⟨W0, a_relief, a_square, v_relief, v_square, rfl, _⟩ := h
    rfl
  · obtain ⟨W0, a_relief, a_square, v_relief, v_square, rfl, rfl, g00, h_relief, h_square, hm⟩ := h
    have sc := sc__law_square
    have g0 := Gw.refl g00
    unfold m__law_square at hm
    refine ⟨_, (pss_cons (ps_set (i := 2) sc.nd rfl (Or.inl rfl) (pe_callTy call_int_str (by rfl) G.int (by decide +kernel) (pa_cons (pe_ix ix_str (pe_ix ix_tup (pv 0) (pe_ix ix_tup (pv 1) pe_int (fun _ _ => rfl)) (fun _ _ => rfl)) (pe_ix ix_tup (pv 1) pe_int (fun _ _ => rfl)) (fun _ _ => rfl)) pa_nil)))
      (pss_cons (ps_set (i := 3) sc.nd rfl (Or.inl rfl) (pe_user H_spill (hr.mono (by decide)) rfl (pa_cons (pv 0) (pa_cons (pv 1) pa_nil))))
      (pss_cons (ps_if (PW.pt (pw_or (pt_not (pt_val (pe_callB call_isi (by rfl) G.isinstance (by decide +kernel) (pa_cons (pv 3) (pa_cons (pe_bltn (v := .ty "int") (u := .type "int") rfl G.int (by decide +kernel) rfl) pa_nil))))) (pw_or (pt_not (pt_chain op_le op_le (pv 2) (pv 3) pe_int)) (pw_or1 (pt_not (pt_val (pe_user H__law_same (hr.mono (by decide)) rfl (pa_cons (pe_user H_pool (hr.mono (by decide)) rfl (pa_cons (pv 0) (pa_cons (pv 1) pa_nil))) (pa_cons (pe_op op_sub (pv 3) (pv 2)) pa_nil))))))))) (pss_one (ps_ret pe_bl)) pss_nil)
      (pss_cons (ps_for PassesOwn.never rfl (pi_range2 rfl G.range (pa_cons (pe_op op_add (pv 2) pe_int) (pa_cons pe_int pa_nil))) (pg_name (i := 4) sc.nd rfl (Or.inl rfl))
      (pss_cons (ps_set (i := 5) sc.nd rfl (Or.inl rfl) (pe_user H_chart_at (hr.mono (by decide)) rfl (pa_cons (pv 0) (pa_cons (pv 4) pa_nil))))
      (pss_cons (ps_set (i := 6) sc.nd rfl (Or.inl rfl) (pe_cmpR op_lt (pv 3) (pv 4) (nomark _)))
      (pss_cons (ps_set (i := 7) sc.nd rfl (Or.inl rfl) (pe_user H_drains (hr.mono (by decide)) rfl (pa_cons (pv 5) (pa_cons (pv 1) pa_nil))))
      (pss_cons (ps_if (PW.pt (pw_or (pt_not (pt_val (pe_callB call_isi (by rfl) G.isinstance (by decide +kernel) (pa_cons (pv 7) (pa_cons (pe_bltn (v := .ty "bool") (u := .type "bool") rfl G.bool (by decide +kernel) rfl) pa_nil))))) (pw_or (pt_cmpR op_ne (pv 7) (pv 6) (nomark _)) (pw_or1 (pt_cmpR op_ne (pe_user H__law_drained (hr.mono (by decide)) rfl (pa_cons (pv 5) (pa_cons (pv 1) pa_nil))) (pv 6) (nomark _)))))) (pss_one (ps_ret pe_bl)) pss_nil)
      (pss_cons (ps_set (i := 8) sc.nd rfl (Or.inl rfl) (pe_user H_holding_ring (hr.mono (by decide)) rfl (pa_cons (pv 5) (pa_cons (pv 1) pa_nil))))
      (pss_cons (ps_if (PW.pt (pw_or (pt_cmpR op_ne (pe_cmp (pc_isN (pv 8))) (pv 6) (nomark _)) (pw_or1 (pt_cmpR op_eq (pe_cmp (pc_isN (pe_user H_water_way (hr.mono (by decide)) rfl (pa_cons (pv 5) (pa_cons (pv 1) pa_nil))))) (pv 6) (nomark _))))) (pss_one (ps_ret pe_bl)) pss_nil)
      (pss_one (ps_if (PW.pt (pw_and (pt_not (pt_val (pv 6))) (pw_and1 (pt_not (pt_val (pe_user H__law_holds (hr.mono (by decide)) rfl (pa_cons (pv 5) (pa_cons (pv 1) (pa_cons (pv 8) pa_nil))))))))) (pss_one (ps_ret pe_bl)) pss_nil)))))))))
      (pss_one (ps_ret pe_bl)))))), ?_⟩
    refine q_asg (W := W0) (ew_int' (ew_ixS (ew_ixT (ew_var (v := v_relief) rfl h_relief) (ew_fst (ew_var (v := v_square) rfl h_square))) (ew_snd (ew_var (v := v_square) rfl h_square)))) g0.ok hm fun a1_own v_own W1 g1 h_own hm => ?_
    have h_relief := PyI.st g1.st h_relief
    have h_square := PyI.st g1.st h_square
    have g0 := g0.trans g1
    first | refine norm_st (σ' := [some v_relief, some v_square, some v_own, none, none, none, none, none, none]) rfl ?_ | skip
    refine q_asg (W := W1) (ev_spill (ew_var (v := v_relief) rfl h_relief) (ew_var (v := v_square) rfl h_square)) g0.ok hm fun a2_low v_low W2 g2 h_low hm => ?_
    have h_relief := PyI.st g2.st h_relief
    have h_square := PyI.st g2.st h_square
    have h_own := PyI.st g2.st h_own
    have g0 := g0.trans g2
    refine q_if (W := W2) (et_or (et_not (et_B (ew_isi_int (ew_var (v := v_low) rfl h_low)))) (et_or (et_not (et_t (ew_chain (C := fun i j => decide (i ≤ j)) (C' := fun i j => decide (i ≤ j)) (ew_var (v := v_own) rfl h_own) (ew_var (v := v_low) rfl h_low) ew_int))) (et_not (et_B (ev__law_same (ew_dat (ev_pool (ew_var (v := v_relief) rfl h_relief) (ew_var (v := v_square) rfl h_square))) (ew_dat (ew_sub (ew_var (v := v_low) rfl h_low) (ew_var (v := v_own) rfl h_own)))))))) g0.ok hm (fun W3 g3 hm => ?_) (fun W3 g3 hm => ?_)
    ·
      have h_relief := PyI.st g3.st h_relief
      have h_square := PyI.st g3.st h_square
      have h_own := PyI.st g3.st h_own
      have h_low := PyI.st g3.st h_low
      have g0 := g0.trans g3
      refine st_ret (W := W3) ew_bl g0.ok hm fun r4 v_ret W4 g4 hp hm => ?_
      exact hm v_ret W4 (g0.trans g4) rfl hp
    ·
      have h_relief := PyI.st g3.st h_relief
      have h_square := PyI.st g3.st h_square
      have h_own := PyI.st g3.st h_own
      have h_low := PyI.st g3.st h_low
      have g0 := g0.trans g3
      refine st_next ?_
      refine q_forR2 (W := W3) (ew_add (ew_var (v := v_own) rfl h_own) ew_int) ew_int g0.ok hm fun W5 g5 => ?_
      have h_relief := PyI.st g5.st h_relief
      have h_square := PyI.st g5.st h_square
      have h_own := PyI.st g5.st h_own
      have h_low := PyI.st g5.st h_low
      have g0 := g0.trans g5
      refine ⟨fun y σ' W' => ∃ (o_level : Option V) (o_chart : Option V) (o_dry : Option V) (o_told : Option V) (o_ring : Option V), σ' = [some v_relief, some v_square, some v_own, some v_low, o_level, o_chart, o_dry, o_told, o_ring] ∧ Gw ef0 W0 W' ∧ St W5 W', ⟨_, _, _, _, _, rfl, g0, (St.refl _)⟩, fun c5 y5 σi s2 Wi5 R5 nx5 ht hI hm kn5 kb5 kr5 => ?_, fun z5 σi Wi5 hI hm => ?_⟩
      ·
        obtain ⟨o_level, o_chart, o_dry, o_told, o_ring, rfl, g0, sl5⟩ := hI
        have h_relief := PyI.st sl5 h_relief
        have h_square := PyI.st sl5 h_square
        have h_own := PyI.st sl5 h_own
        have h_low := PyI.st sl5 h_low
        obtain ⟨v_level, rfl, h_level⟩ := ht
        refine q_asg (W := Wi5) (ev_chart_at (ew_var (v := v_relief) rfl h_relief) (ew_var (v := v_level) rfl h_level)) g0.ok hm fun a6_chart v_chart W6 g6 h_chart hm => ?_
        have h_relief := PyI.st g6.st h_relief
        have h_square := PyI.st g6.st h_square
        have h_own := PyI.st g6.st h_own
        have h_low := PyI.st g6.st h_low
        have h_level := PyI.st g6.st h_level
        have sl5 := sl5.trans g6.st
        have g0 := g0.trans g6
        first | refine norm_st (σ' := [some v_relief, some v_square, some v_own, some v_low, some v_level, some v_chart, o_dry, o_told, o_ring]) rfl ?_ | skip
        refine q_asg (W := W6) (ew_lt (ew_var (v := v_low) rfl h_low) (ew_var (v := v_level) rfl h_level)) g0.ok hm fun a7_dry v_dry W7 g7 h_dry hm => ?_
        have h_relief := PyI.st g7.st h_relief
        have h_square := PyI.st g7.st h_square
        have h_own := PyI.st g7.st h_own
        have h_low := PyI.st g7.st h_low
        have h_level := PyI.st g7.st h_level
        have h_chart := PyI.st g7.st h_chart
        have sl5 := sl5.trans g7.st
        have g0 := g0.trans g7
        refine q_asg (W := W7) (ev_drains (ew_var (v := v_chart) rfl h_chart) (ew_var (v := v_square) rfl h_square)) g0.ok hm fun a8_told v_told W8 g8 h_told hm => ?_
        have h_relief := PyI.st g8.st h_relief
        have h_square := PyI.st g8.st h_square
        have h_own := PyI.st g8.st h_own
        have h_low := PyI.st g8.st h_low
        have h_level := PyI.st g8.st h_level
        have h_chart := PyI.st g8.st h_chart
        have h_dry := PyI.st g8.st h_dry
        have sl5 := sl5.trans g8.st
        have g0 := g0.trans g8
        first | refine norm_st (σ' := [some v_relief, some v_square, some v_own, some v_low, some v_level, some v_chart, some v_dry, some v_told, o_ring]) rfl ?_ | skip
        refine q_if (W := W8) (et_or (et_not (et_B (ew_isib_bool (ew_var (v := v_told) rfl h_told)))) (et_or (et_t (ew_ne (ew_var (v := v_told) rfl h_told) (ew_var (v := v_dry) rfl h_dry))) (et_t (ew_ne (ev__law_drained (ew_var (v := v_chart) rfl h_chart) (ew_var (v := v_square) rfl h_square)) (ew_var (v := v_dry) rfl h_dry))))) g0.ok hm (fun W9 g9 hm => ?_) (fun W9 g9 hm => ?_)
        ·
          have h_relief := PyI.st g9.st h_relief
          have h_square := PyI.st g9.st h_square
          have h_own := PyI.st g9.st h_own
          have h_low := PyI.st g9.st h_low
          have h_level := PyI.st g9.st h_level
          have h_chart := PyI.st g9.st h_chart
          have h_dry := PyI.st g9.st h_dry
          have h_told := PyI.st g9.st h_told
          have sl5 := sl5.trans g9.st
          have g0 := g0.trans g9
          refine st_ret (W := W9) ew_bl g0.ok hm fun r10 v_ret W10 g10 hp hm => ?_
          have hm := kr5 _ _ hm
          exact hm v_ret W10 (g0.trans g10) rfl hp
        ·
          have h_relief := PyI.st g9.st h_relief
          have h_square := PyI.st g9.st h_square
          have h_own := PyI.st g9.st h_own
          have h_low := PyI.st g9.st h_low
          have h_level := PyI.st g9.st h_level
          have h_chart := PyI.st g9.st h_chart
          have h_dry := PyI.st g9.st h_dry
          have h_told := PyI.st g9.st h_told
          have sl5 := sl5.trans g9.st
          have g0 := g0.trans g9
          refine st_next ?_
          refine q_asg (W := W9) (ev_holding_ring (ew_var (v := v_chart) rfl h_chart) (ew_var (v := v_square) rfl h_square)) g0.ok hm fun a11_ring v_ring W11 g11 h_ring hm => ?_
          have h_relief := PyI.st g11.st h_relief
          have h_square := PyI.st g11.st h_square
          have h_own := PyI.st g11.st h_own
          have h_low := PyI.st g11.st h_low
          have h_level := PyI.st g11.st h_level
          have h_chart := PyI.st g11.st h_chart
          have h_dry := PyI.st g11.st h_dry
          have h_told := PyI.st g11.st h_told
          have sl5 := sl5.trans g11.st
          have g0 := g0.trans g11
          refine q_if (W := W11) (et_or (et_t (ew_ne (ew_isN (ew_var (v := v_ring) rfl h_ring)) (ew_var (v := v_dry) rfl h_dry))) (et_t (ew_eq (ew_isN (ev_water_way (ew_var (v := v_chart) rfl h_chart) (ew_var (v := v_square) rfl h_square))) (ew_var (v := v_dry) rfl h_dry)))) g0.ok hm (fun W12 g12 hm => ?_) (fun W12 g12 hm => ?_)
          ·
            have h_relief := PyI.st g12.st h_relief
            have h_square := PyI.st g12.st h_square
            have h_own := PyI.st g12.st h_own
            have h_low := PyI.st g12.st h_low
            have h_level := PyI.st g12.st h_level
            have h_chart := PyI.st g12.st h_chart
            have h_dry := PyI.st g12.st h_dry
            have h_told := PyI.st g12.st h_told
            have h_ring := PyI.st g12.st h_ring
            have sl5 := sl5.trans g12.st
            have g0 := g0.trans g12
            refine st_ret (W := W12) ew_bl g0.ok hm fun r13 v_ret W13 g13 hp hm => ?_
            have hm := kr5 _ _ hm
            exact hm v_ret W13 (g0.trans g13) rfl hp
          ·
            have h_relief := PyI.st g12.st h_relief
            have h_square := PyI.st g12.st h_square
            have h_own := PyI.st g12.st h_own
            have h_low := PyI.st g12.st h_low
            have h_level := PyI.st g12.st h_level
            have h_chart := PyI.st g12.st h_chart
            have h_dry := PyI.st g12.st h_dry
            have h_told := PyI.st g12.st h_told
            have h_ring := PyI.st g12.st h_ring
            have sl5 := sl5.trans g12.st
            have g0 := g0.trans g12
            refine st_next ?_
            refine st_if (W := W12) (et_and (et_not (et_B (ew_var (v := v_dry) rfl h_dry))) (et_not (et_B (ev__law_holds (ew_var (v := v_chart) rfl h_chart) (ew_var (v := v_square) rfl h_square) (ew_the (ew_var (v := v_ring) rfl h_ring)))))) g0.ok hm (fun W14 g14 hm => ?_) (fun W14 g14 hm => ?_)
            ·
              have h_relief := PyI.st g14.st h_relief
              have h_square := PyI.st g14.st h_square
              have h_own := PyI.st g14.st h_own
              have h_low := PyI.st g14.st h_low
              have h_level := PyI.st g14.st h_level
              have h_chart := PyI.st g14.st h_chart
              have h_dry := PyI.st g14.st h_dry
              have h_told := PyI.st g14.st h_told
              have h_ring := PyI.st g14.st h_ring
              have sl5 := sl5.trans g14.st
              have g0 := g0.trans g14
              refine st_ret (W := W14) ew_bl g0.ok hm fun r15 v_ret W15 g15 hp hm => ?_
              have hm := kr5 _ _ hm
              exact hm v_ret W15 (g0.trans g15) rfl hp
            ·
              have h_relief := PyI.st g14.st h_relief
              have h_square := PyI.st g14.st h_square
              have h_own := PyI.st g14.st h_own
              have h_low := PyI.st g14.st h_low
              have h_level := PyI.st g14.st h_level
              have h_chart := PyI.st g14.st h_chart
              have h_dry := PyI.st g14.st h_dry
              have h_told := PyI.st g14.st h_told
              have h_ring := PyI.st g14.st h_ring
              have sl5 := sl5.trans g14.st
              have g0 := g0.trans g14
              refine st_next ?_
              exact kn5 () _ W14 ⟨_, _, _, _, _, rfl, g0, sl5⟩ hm
      ·
        obtain ⟨o_level, o_chart, o_dry, o_told, o_ring, rfl, g0, sl5⟩ := hI
        have h_relief := PyI.st sl5 h_relief
        have h_square := PyI.st sl5 h_square
        have h_own := PyI.st sl5 h_own
        have h_low := PyI.st sl5 h_low
        refine st_ret (W := Wi5) ew_bl g0.ok hm fun r16 v_ret W16 g16 hp hm => ?_
        exact hm v_ret W16 (g0.trans g16) rfl hp
abbrev s_law : Stmt := top 67
abbrev N_law : List Str := ["script", "deal", "relief", "squares", "turn", "square", "own", "low", "other", "down", "k"]
abbrev P_law : List Str := ["script"]
theorem sc_law : FnScope N_law P_law (defScope s_law) := ⟨rfl, rfl, rfl, by decide +kernel, rfl, by decide +kernel, by decide +kernel⟩
def m_law (a_script : List Int) : WP Bool := (WP.b2 (WP.pure ()) (WP.pure (6 : Int)) m__law_relief).bind fun a1_relief => (WP.b1 (WP.pure a1_relief) m__law_all).bind fun a2_squares => (WP.range1 (WP.pure (3 : Int))).bind fun xs3 => WP.after (WP.loop (γ := Bool) (fun c3 (y3 : Unit) => (WP.b2 (WP.pure ()) (WP.pure a2_squares) m__law_pick).bind fun a4_square => (WP.not (WP.b2 (WP.pure a1_relief) (WP.pure a4_square) m__law_square)).bind fun b => WP.cond b ((WP.pure false).bind fun r6 => (WP.pure (.rt r6))) ((WP.int' (WP.ixS (WP.ix (WP.pure a1_relief) (WP.fst (WP.pure a4_square))) (WP.snd (WP.pure a4_square)))).bind fun a7_own => (WP.b2 (WP.pure a1_relief) (WP.pure a4_square) m_spill).bind fun a8_low => (WP.b1 (WP.pure a4_square) m__law_around).bind fun xs9 => WP.after (WP.loop (γ := Bool) (fun c9 (y9 : Unit) => (WP.inD (WP.pure c9) (WP.pure a2_squares)).bind fun b => WP.cond b ((WP.gt (WP.pure a8_low) (WP.max2 (WP.pure a7_own) (WP.b2 (WP.pure a1_relief) (WP.pure c9) m_spill))).bind fun b => WP.cond b ((WP.pure false).bind fun r12 => (WP.pure (.rt r12))) ((WP.pure (.nx ())))) ((WP.ne (WP.pure a8_low) (WP.pure a7_own)).bind fun b => WP.cond b ((WP.pure false).bind fun r14 => (WP.pure (.rt r14))) ((WP.pure (.nx ()))))) xs9 ()) (fun (z9 : Unit) => (WP.b2 (WP.pure a1_relief) (WP.pure a4_square) m_course).bind fun a15_down => (WP.range1 (WP.sub (WP.len (WP.pure a15_down)) (WP.pure (1 : Int)))).bind fun xs16 => WP.after (WP.loop (γ := Bool) (fun c16 (y16 : Unit) => (WP.or (WP.gt (WP.b2 (WP.pure a1_relief) (WP.ix (WP.pure a15_down) (WP.add (WP.pure c16) (WP.pure (1 : Int)))) m_spill) (WP.b2 (WP.pure a1_relief) (WP.ix (WP.pure a15_down) (WP.pure c16)) m_spill)) (WP.ge (WP.b2 (WP.pure a1_relief) (WP.ix (WP.pure a15_down) (WP.add (WP.pure c16) (WP.pure (1 : Int)))) m_height) (WP.b2 (WP.pure a1_relief) (WP.ix (WP.pure a15_down) (WP.pure c16)) m_height))).bind fun b => WP.cond b ((WP.pure false).bind fun r18 => (WP.pure (.rt r18))) ((WP.pure (.nx ())))) xs16 ()) (fun (z16 : Unit) => (WP.or (WP.notN (WP.b2 (WP.pure a1_relief) (WP.ix (WP.pure a15_down) (WP.neg (WP.pure (1 : Int)))) m_next_square)) (WP.neD (WP.ix (WP.pure a15_down) (WP.pure (0 : Int))) (WP.pure a4_square))).bind fun b => WP.cond b ((WP.pure false).bind fun r20 => (WP.pure (.rt r20))) ((WP.pure (.nx ())))) (fun r => (WP.pure (.rt r)))) (fun r => (WP.pure (.rt r))))) xs3 ()) (fun (z3 : Unit) => (WP.pure true).bind fun r21 => (WP.pure r21)) (fun r => (WP.pure r))
theorem ok_law {fa : Addr} {fd : FuncData} (LT : ∀ ns : List Int, ns.length ≤ 63 → (m_law ns).run 0 fun _ b => b = true) (F : Fun K "law" "law" s_law fa fd) (G : Glb mg) (H__law_all : Has P w K mg base "_law_all" 1 P__law_all sp__law_all) (H__law_around : Has P w K mg base "_law_around" 1 P__law_around sp__law_around) (H__law_deal : Has P w K mg base "_law_deal" 1 P__law_deal (sp_deal K)) (H__law_pick : Has P w K mg base "_law_pick" 2 P__law_pick sp__law_pick) (H__law_relief : Has P w K mg base "_law_relief" 2 P__law_relief sp__law_relief) (H__law_square : Has P w K mg base "_law_square" 10 P__law_square sp__law_square) (H_course : Has P w K mg base "course" 3 P_course sp_course) (H_height : Has P w K mg base "height" 1 P_height sp_height) (H_next_square : Has P w K mg base "next_square" 2 P_next_square sp_next_square) (H_spill : Has P w K mg base "spill" 7 P_spill sp_spill) : FnOk P w K mg base CX0 11 fa fd P_law (sp_law K) := by
  refine F.ok sc_law (fun vs H Q E h => ?_) (fun cdv A outer s Hent vs Q E hr h => ?_)
  · obtain ⟨v_script, a_script, rfl, _⟩ := h
    rfl
  · obtain ⟨v_script, a_script, rfl, h_script, hlen, kret⟩ := h
    have hm := LT a_script hlen
    have g00 : Good ef0 ⟨Hent, fun _ => False, 0⟩ := ⟨fun _ z => z.elim, fun _ z => z.elim, True.intro⟩
    have sc := sc_law
    have g0 := Gw.refl g00
    unfold m_law at hm
    refine ⟨_, (pss_cons (ps_set (i := 1) sc.nd rfl (Or.inl rfl) (pe_user H__law_deal (hr.mono (by decide)) rfl (pa_cons (pv 0) pa_nil)))
      (pss_cons (ps_set (i := 2) sc.nd rfl (Or.inl rfl) (pe_user H__law_relief (hr.mono (by decide)) rfl (pa_cons (pv 1) (pa_cons pe_int pa_nil))))
      (pss_cons (ps_set (i := 3) sc.nd rfl (Or.inl rfl) (pe_user H__law_all (hr.mono (by decide)) rfl (pa_cons (pv 2) pa_nil)))
      (pss_cons (ps_for PassesOwn.never rfl (pi_range1 rfl G.range (pa_cons pe_int pa_nil)) (pg_name (i := 4) sc.nd rfl (Or.inl rfl))
      (pss_cons (ps_set (i := 5) sc.nd rfl (Or.inl rfl) (pe_user H__law_pick (hr.mono (by decide)) rfl (pa_cons (pv 1) (pa_cons (pv 3) pa_nil))))
      (pss_cons (ps_if (pt_not (pt_val (pe_user H__law_square (hr.mono (by decide)) rfl (pa_cons (pv 2) (pa_cons (pv 5) pa_nil))))) (pss_one (ps_ret pe_bl)) pss_nil)
      (pss_cons (ps_set (i := 6) sc.nd rfl (Or.inl rfl) (pe_callTy call_int_str (by rfl) G.int (by decide +kernel) (pa_cons (pe_ix ix_str (pe_ix ix_tup (pv 2) (pe_ix ix_tup (pv 5) pe_int (fun _ _ => rfl)) (fun _ _ => rfl)) (pe_ix ix_tup (pv 5) pe_int (fun _ _ => rfl)) (fun _ _ => rfl)) pa_nil)))
      (pss_cons (ps_set (i := 7) sc.nd rfl (Or.inl rfl) (pe_user H_spill (hr.mono (by decide)) rfl (pa_cons (pv 2) (pa_cons (pv 5) pa_nil))))
      (pss_cons (ps_for PassesOwn.never rfl (pi_list (pe_user H__law_around (hr.mono (by decide)) rfl (pa_cons (pv 5) pa_nil))) (pg_name (i := 8) sc.nd rfl (Or.inl rfl))
      (pss_one (ps_if (pt_cmpR (op_inD (hu65 hr)) (pv 8) (pv 3) (by rfl)) (pss_one (ps_if (pt_cmpR op_gt (pv 7) (pe_callB (call_max2 rfl) (by rfl) G.max (by decide +kernel) (pa_cons (pv 6) (pa_cons (pe_user H_spill (hr.mono (by decide)) rfl (pa_cons (pv 2) (pa_cons (pv 8) pa_nil))) pa_nil))) (nomark _)) (pss_one (ps_ret pe_bl)) pss_nil)) (pss_one (ps_if (pt_cmpR op_ne (pv 7) (pv 6) (nomark _)) (pss_one (ps_ret pe_bl)) pss_nil)))))
      (pss_cons (ps_set (i := 9) sc.nd rfl (Or.inl rfl) (pe_user H_course (hr.mono (by decide)) rfl (pa_cons (pv 2) (pa_cons (pv 5) pa_nil))))
      (pss_cons (ps_for PassesOwn.never rfl (pi_range1 rfl G.range (pa_cons (pe_op op_sub (pe_callB call_len_seq (by rfl) G.len PySem.boot_len (pa_cons (pv 9) pa_nil)) pe_int) pa_nil)) (pg_name (i := 10) sc.nd rfl (Or.inl rfl))
      (pss_one (ps_if (PW.pt (pw_or (pt_cmpR op_gt (pe_user H_spill (hr.mono (by decide)) rfl (pa_cons (pv 2) (pa_cons (pe_ix ix_list (pv 9) (pe_op op_add (pv 10) pe_int) (fun _ _ => rfl)) pa_nil))) (pe_user H_spill (hr.mono (by decide)) rfl (pa_cons (pv 2) (pa_cons (pe_ix ix_list (pv 9) (pv 10) (fun _ _ => rfl)) pa_nil))) (nomark _)) (pw_or1 (pt_cmpR op_ge (pe_user H_height (hr.mono (by decide)) rfl (pa_cons (pv 2) (pa_cons (pe_ix ix_list (pv 9) (pe_op op_add (pv 10) pe_int) (fun _ _ => rfl)) pa_nil))) (pe_user H_height (hr.mono (by decide)) rfl (pa_cons (pv 2) (pa_cons (pe_ix ix_list (pv 9) (pv 10) (fun _ _ => rfl)) pa_nil))) (nomark _))))) (pss_one (ps_ret pe_bl)) pss_nil)))
      (pss_one (ps_if (PW.pt (pw_or (pt_cmp (pc_notN (pe_user H_next_square (hr.mono (by decide)) rfl (pa_cons (pv 2) (pa_cons (pe_ix ix_list (pv 9) (pe_un un_neg pe_int) (fun _ _ => rfl)) pa_nil))))) (pw_or1 (pt_cmpR (op_neD hr.units) (pe_ix ix_list (pv 9) pe_int (fun _ _ => rfl)) (pv 5) (nomark _))))) (pss_one (ps_ret pe_bl)) pss_nil))))))))))
      (pss_one (ps_ret pe_bl)))))), ?_⟩
    refine q_deal (W := _) rfl h_script hlen g0.ok rfl fun d W1d g00 hn0 => ?_
    have hm := cast_n hn0 hm
    have g0 := Gw.refl g00
    first | refine norm_st (σ' := [some (.ref v_script), some (.ref d.p), none, none, none, none, none, none, none, none, none]) rfl ?_ | skip
    refine q_asg (W := W1d) (ev__law_relief (ew_deal rfl) ew_int) g0.ok hm fun a1_relief v_relief W1 g1 h_relief hm => ?_
    have g0 := g0.trans g1
    refine q_asg (W := W1) (ev__law_all (ew_var (v := v_relief) rfl h_relief)) g0.ok hm fun a2_squares v_squares W2 g2 ⟨fp_squares, ho0_squares, hf_squares⟩ hm => ?_
    have hz_squares : ∀ a ∈ fp_squares, W1d.H a = none := fun a m => g0.live a (hf_squares a m).1
    have h_relief := PyI.st g2.st h_relief
    have g0 := g0.trans g2
    have ho_squares : Var (kL Sq) W1d W2 fp_squares a2_squares v_squares := ⟨ho0_squares, hz_squares, fun b m => (hf_squares b m).2.2⟩
    first | refine norm_st (σ' := [some (.ref v_script), some (.ref d.p), some v_relief, some v_squares, none, none, none, none, none, none, none]) rfl ?_ | skip
    refine q_forR1 (W := W2) ew_int g0.ok hm fun W3 g3 => ?_
    have h_relief := PyI.st g3.st h_relief
    have ho_squares := ho_squares.go g00 g3
    have g0 := g0.trans g3
    refine ⟨fun y σ' W' => ∃ (o_turn : Option V) (o_square : Option V) (o_own : Option V) (o_low : Option V) (o_other : Option V) (o_down : Option V) (o_k : Option V), σ' = [some (.ref v_script), some (.ref d.p), some v_relief, some v_squares, o_turn, o_square, o_own, o_low, o_other, o_down, o_k] ∧ Gw (efD d) W1d W' ∧ St W3 W' ∧ Var (kL Sq) W1d W' fp_squares a2_squares v_squares, ⟨_, _, _, _, _, _, _, rfl, g0, (St.refl _), ho_squares⟩, fun c3 y3 σi s2 Wi3 R3 nx3 ht hI hm kn3 kb3 kr3 => ?_, fun z3 σi Wi3 hI hm => ?_⟩
    ·
      obtain ⟨o_turn, o_square, o_own, o_low, o_other, o_down, o_k, rfl, g0, sl3, ho_squares⟩ := hI
      have h_relief := PyI.st sl3 h_relief
      obtain ⟨v_turn, rfl, h_turn⟩ := ht
      refine q_asg (W := Wi3) (ev__law_pick (ew_deal rfl) (ew_varR (v := v_squares) rfl (Var.nS g00 ho_squares) ho_squares.own)) g0.ok hm fun a4_square v_square W4 g4 h_square hm => ?_
      have h_relief := PyI.st g4.st h_relief
      have ho_squares := ho_squares.go g00 g4
      have h_turn := PyI.st g4.st h_turn
      have sl3 := sl3.trans g4.st
      have g0 := g0.trans g4
      refine q_if (W := W4) (et_not (et_B (ev__law_square (ew_var (v := v_relief) rfl h_relief) (ew_var (v := v_square) rfl h_square)))) g0.ok hm (fun W5 g5 hm => ?_) (fun W5 g5 hm => ?_)
      ·
        have h_relief := PyI.st g5.st h_relief
        have ho_squares := ho_squares.go g00 g5
        have h_turn := PyI.st g5.st h_turn
        have h_square := PyI.st g5.st h_square
        have sl3 := sl3.trans g5.st
        have g0 := g0.trans g5
        refine st_ret (W := W5) ew_bl g0.ok hm fun r6 v_ret W6 g6 hp hm => ?_
        have hm := kr3 _ _ hm
        have hm : r6 = true := hm
        cases hp
        rw [hm]
        exact kret _
      ·
        have h_relief := PyI.st g5.st h_relief
        have ho_squares := ho_squares.go g00 g5
        have h_turn := PyI.st g5.st h_turn
        have h_square := PyI.st g5.st h_square
        have sl3 := sl3.trans g5.st
        have g0 := g0.trans g5
        refine st_next ?_
        refine q_asg (W := W5) (ew_int' (ew_ixS (ew_ixT (ew_var (v := v_relief) rfl h_relief) (ew_fst (ew_var (v := v_square) rfl h_square))) (ew_snd (ew_var (v := v_square) rfl h_square)))) g0.ok hm fun a7_own v_own W7 g7 h_own hm => ?_
        have h_relief := PyI.st g7.st h_relief
        have ho_squares := ho_squares.go g00 g7
        have h_turn := PyI.st g7.st h_turn
        have h_square := PyI.st g7.st h_square
        have sl3 := sl3.trans g7.st
        have g0 := g0.trans g7
        first | refine norm_st (σ' := [some (.ref v_script), some (.ref d.p), some v_relief, some v_squares, some v_turn, some v_square, some v_own, o_low, o_other, o_down, o_k]) rfl ?_ | skip
        refine q_asg (W := W7) (ev_spill (ew_var (v := v_relief) rfl h_relief) (ew_var (v := v_square) rfl h_square)) g0.ok hm fun a8_low v_low W8 g8 h_low hm => ?_
        have h_relief := PyI.st g8.st h_relief
        have ho_squares := ho_squares.go g00 g8
        have h_turn := PyI.st g8.st h_turn
        have h_square := PyI.st g8.st h_square
        have h_own := PyI.st g8.st h_own
        have sl3 := sl3.trans g8.st
        have g0 := g0.trans g8
        refine q_forN (W := W8) tk_N (ev__law_around (ew_var (v := v_square) rfl h_square)) g0.ok hm fun xs9 p_it9 vs_it9 W9 g9 hn_it9 hF_it9 hp_it9 hr_it9 => ?_
        have dj_it9_squares : ∀ b ∈ [p_it9], b ∉ fp_squares := fun b m z => by cases mem_one m; exact (kL Sq).live ho_squares.own _ z hn_it9
        have nS_it9 : ¬ (efD d).S p_it9 := fun z => g0.ok.S _ z hn_it9
        have h_relief := PyI.st g9.st h_relief
        have ho_squares := ho_squares.go g00 g9
        have h_turn := PyI.st g9.st h_turn
        have h_square := PyI.st g9.st h_square
        have h_own := PyI.st g9.st h_own
        have h_low := PyI.st g9.st h_low
        have sl3 := sl3.trans g9.st
        have g0 := g0.trans g9
        refine ⟨fun y σ' W' => ∃ (o_other : Option V), σ' = [some (.ref v_script), some (.ref d.p), some v_relief, some v_squares, some v_turn, some v_square, some v_own, some v_low, o_other, o_down, o_k] ∧ Gw (efD d) W1d W' ∧ St W9 W' ∧ Var (kL Sq) W1d W' fp_squares a2_squares v_squares ∧ W'.H p_it9 = some (.lst vs_it9), ⟨_, rfl, g0, (St.refl _), ho_squares, hp_it9⟩, fun _ _ _ hI => ?_, fun c9 y9 σi s2 Wi9 R9 nx9 ht hI hm kn9 kb9 kr9 => ?_, fun z9 σi Wi9 hI hm => ?_⟩
        · obtain ⟨o_other, rfl, g0, sl9, ho_squares, hp_it9⟩ := hI
          exact ⟨sl9, hp_it9⟩
        ·
          obtain ⟨o_other, rfl, g0, sl9, ho_squares, hp_it9⟩ := hI
          have h_relief := PyI.st sl9 h_relief
          have h_turn := PyI.st sl9 h_turn
          have h_square := PyI.st sl9 h_square
          have h_own := PyI.st sl9 h_own
          have h_low := PyI.st sl9 h_low
          have sl3 := sl3.trans sl9
          obtain ⟨v_other, rfl, h_other⟩ := ht
          refine st_if (W := Wi9) (et_t (ew_inD (ew_var (v := v_other) rfl h_other) (ew_varR (v := v_squares) rfl (Var.nS g00 ho_squares) ho_squares.own))) g0.ok hm (fun W10 g10 hm => ?_) (fun W10 g10 hm => ?_)
          ·
            have h_relief := PyI.st g10.st h_relief
            have ho_squares := ho_squares.go g00 g10
            have h_turn := PyI.st g10.st h_turn
            have h_square := PyI.st g10.st h_square
            have h_own := PyI.st g10.st h_own
            have h_low := PyI.st g10.st h_low
            have h_other := PyI.st g10.st h_other
            have sl3 := sl3.trans g10.st
            have sl9 := sl9.trans g10.st
            have hp_it9 := g10.keep _ _ hp_it9 nS_it9
            have g0 := g0.trans g10
            refine st_if (W := W10) (et_t (ew_gt (ew_var (v := v_low) rfl h_low) (ew_max2 (ew_var (v := v_own) rfl h_own) (ev_spill (ew_var (v := v_relief) rfl h_relief) (ew_var (v := v_other) rfl h_other))))) g0.ok hm (fun W11 g11 hm => ?_) (fun W11 g11 hm => ?_)
            ·
              have h_relief := PyI.st g11.st h_relief
              have ho_squares := ho_squares.go g00 g11
              have h_turn := PyI.st g11.st h_turn
              have h_square := PyI.st g11.st h_square
              have h_own := PyI.st g11.st h_own
              have h_low := PyI.st g11.st h_low
              have h_other := PyI.st g11.st h_other
              have sl3 := sl3.trans g11.st
              have sl9 := sl9.trans g11.st
              have hp_it9 := g11.keep _ _ hp_it9 nS_it9
              have g0 := g0.trans g11
              refine st_ret (W := W11) ew_bl g0.ok hm fun r12 v_ret W12 g12 hp hm => ?_
              have hm := kr9 _ _ hm
              have hm := kr3 _ _ hm
              have hm : r12 = true := hm
              cases hp
              rw [hm]
              exact kret _
            ·
              have h_relief := PyI.st g11.st h_relief
              have ho_squares := ho_squares.go g00 g11
              have h_turn := PyI.st g11.st h_turn
              have h_square := PyI.st g11.st h_square
              have h_own := PyI.st g11.st h_own
              have h_low := PyI.st g11.st h_low
              have h_other := PyI.st g11.st h_other
              have sl3 := sl3.trans g11.st
              have sl9 := sl9.trans g11.st
              have hp_it9 := g11.keep _ _ hp_it9 nS_it9
              have g0 := g0.trans g11
              refine st_next ?_
              try dsimp only
              exact kn9 () _ W11 ⟨_, rfl, g0, sl9, ho_squares, hp_it9⟩ hm
          ·
            have h_relief := PyI.st g10.st h_relief
            have ho_squares := ho_squares.go g00 g10
            have h_turn := PyI.st g10.st h_turn
            have h_square := PyI.st g10.st h_square
            have h_own := PyI.st g10.st h_own
            have h_low := PyI.st g10.st h_low
            have h_other := PyI.st g10.st h_other
            have sl3 := sl3.trans g10.st
            have sl9 := sl9.trans g10.st
            have hp_it9 := g10.keep _ _ hp_it9 nS_it9
            have g0 := g0.trans g10
            refine st_if (W := W10) (et_t (ew_ne (ew_var (v := v_low) rfl h_low) (ew_var (v := v_own) rfl h_own))) g0.ok hm (fun W13 g13 hm => ?_) (fun W13 g13 hm => ?_)
            ·
              have h_relief := PyI.st g13.st h_relief
              have ho_squares := ho_squares.go g00 g13
              have h_turn := PyI.st g13.st h_turn
              have h_square := PyI.st g13.st h_square
              have h_own := PyI.st g13.st h_own
              have h_low := PyI.st g13.st h_low
              have h_other := PyI.st g13.st h_other
              have sl3 := sl3.trans g13.st
              have sl9 := sl9.trans g13.st
              have hp_it9 := g13.keep _ _ hp_it9 nS_it9
              have g0 := g0.trans g13
              refine st_ret (W := W13) ew_bl g0.ok hm fun r14 v_ret W14 g14 hp hm => ?_
              have hm := kr9 _ _ hm
              have hm := kr3 _ _ hm
              have hm : r14 = true := hm
              cases hp
              rw [hm]
              exact kret _
            ·
              have h_relief := PyI.st g13.st h_relief
              have ho_squares := ho_squares.go g00 g13
              have h_turn := PyI.st g13.st h_turn
              have h_square := PyI.st g13.st h_square
              have h_own := PyI.st g13.st h_own
              have h_low := PyI.st g13.st h_low
              have h_other := PyI.st g13.st h_other
              have sl3 := sl3.trans g13.st
              have sl9 := sl9.trans g13.st
              have hp_it9 := g13.keep _ _ hp_it9 nS_it9
              have g0 := g0.trans g13
              refine st_next ?_
              try dsimp only
              exact kn9 () _ W13 ⟨_, rfl, g0, sl9, ho_squares, hp_it9⟩ hm
        ·
          obtain ⟨o_other, rfl, g0, sl9, ho_squares, hp_it9⟩ := hI
          have h_relief := PyI.st sl9 h_relief
          have h_turn := PyI.st sl9 h_turn
          have h_square := PyI.st sl9 h_square
          have h_own := PyI.st sl9 h_own
          have h_low := PyI.st sl9 h_low
          have sl3 := sl3.trans sl9
          refine q_asg (W := Wi9) (ev_course (ew_var (v := v_relief) rfl h_relief) (ew_var (v := v_square) rfl h_square)) g0.ok hm fun a15_down v_down W15 g15 ⟨fp_down, ho0_down, hf_down⟩ hm => ?_
          have dj_squares_down : ∀ b ∈ fp_squares, b ∉ fp_down := fun b m z => (kL Sq).live ho_squares.own b m (hf_down b z).1
          have hz_down : ∀ a ∈ fp_down, W1d.H a = none := fun a m => g0.live a (hf_down a m).1
          have h_relief := PyI.st g15.st h_relief
          have ho_squares := ho_squares.go g00 g15
          have h_turn := PyI.st g15.st h_turn
          have h_square := PyI.st g15.st h_square
          have h_own := PyI.st g15.st h_own
          have h_low := PyI.st g15.st h_low
          have sl3 := sl3.trans g15.st
          have g0 := g0.trans g15
          have ho_down : Var (kL Sq) W1d W15 fp_down a15_down v_down := ⟨ho0_down, hz_down, fun b m => (hf_down b m).2.2⟩
          first | refine norm_st (σ' := [some (.ref v_script), some (.ref d.p), some v_relief, some v_squares, some v_turn, some v_square, some v_own, some v_low, o_other, some v_down, o_k]) rfl ?_ | skip
          refine q_forR1 (W := W15) (ew_sub (ew_lenL (ew_varR (v := v_down) rfl (Var.nS g00 ho_down) ho_down.own)) ew_int) g0.ok hm fun W16 g16 => ?_
          have h_relief := PyI.st g16.st h_relief
          have ho_squares := ho_squares.go g00 g16
          have h_turn := PyI.st g16.st h_turn
          have h_square := PyI.st g16.st h_square
          have h_own := PyI.st g16.st h_own
          have h_low := PyI.st g16.st h_low
          have ho_down := ho_down.go g00 g16
          have sl3 := sl3.trans g16.st
          have g0 := g0.trans g16
          refine ⟨fun y σ' W' => ∃ (o_k : Option V), σ' = [some (.ref v_script), some (.ref d.p), some v_relief, some v_squares, some v_turn, some v_square, some v_own, some v_low, o_other, some v_down, o_k] ∧ Gw (efD d) W1d W' ∧ St W16 W' ∧ Var (kL Sq) W1d W' fp_squares a2_squares v_squares ∧ Var (kL Sq) W1d W' fp_down a15_down v_down, ⟨_, rfl, g0, (St.refl _), ho_squares, ho_down⟩, fun c16 y16 σi s2 Wi16 R16 nx16 ht hI hm kn16 kb16 kr16 => ?_, fun z16 σi Wi16 hI hm => ?_⟩
          ·
            obtain ⟨o_k, rfl, g0, sl16, ho_squares, ho_down⟩ := hI
            have h_relief := PyI.st sl16 h_relief
            have h_turn := PyI.st sl16 h_turn
            have h_square := PyI.st sl16 h_square
            have h_own := PyI.st sl16 h_own
            have h_low := PyI.st sl16 h_low
            have sl3 := sl3.trans sl16
            obtain ⟨v_k, rfl, h_k⟩ := ht
            refine st_if (W := Wi16) (et_or (et_t (ew_gt (ev_spill (ew_var (v := v_relief) rfl h_relief) (ew_ixL (ew_varR (v := v_down) rfl (Var.nS g00 ho_down) ho_down.own) (ew_add (ew_var (v := v_k) rfl h_k) ew_int))) (ev_spill (ew_var (v := v_relief) rfl h_relief) (ew_ixL (ew_varR (v := v_down) rfl (Var.nS g00 ho_down) ho_down.own) (ew_var (v := v_k) rfl h_k))))) (et_t (ew_ge (ev_height (ew_var (v := v_relief) rfl h_relief) (ew_ixL (ew_varR (v := v_down) rfl (Var.nS g00 ho_down) ho_down.own) (ew_add (ew_var (v := v_k) rfl h_k) ew_int))) (ev_height (ew_var (v := v_relief) rfl h_relief) (ew_ixL (ew_varR (v := v_down) rfl (Var.nS g00 ho_down) ho_down.own) (ew_var (v := v_k) rfl h_k)))))) g0.ok hm (fun W17 g17 hm => ?_) (fun W17 g17 hm => ?_)
            ·
              have h_relief := PyI.st g17.st h_relief
              have ho_squares := ho_squares.go g00 g17
              have h_turn := PyI.st g17.st h_turn
              have h_square := PyI.st g17.st h_square
              have h_own := PyI.st g17.st h_own
              have h_low := PyI.st g17.st h_low
              have ho_down := ho_down.go g00 g17
              have h_k := PyI.st g17.st h_k
              have sl3 := sl3.trans g17.st
              have sl16 := sl16.trans g17.st
              have g0 := g0.trans g17
              refine st_ret (W := W17) ew_bl g0.ok hm fun r18 v_ret W18 g18 hp hm => ?_
              have hm := kr16 _ _ hm
              have hm := kr3 _ _ hm
              have hm : r18 = true := hm
              cases hp
              rw [hm]
              exact kret _
            ·
              have h_relief := PyI.st g17.st h_relief
              have ho_squares := ho_squares.go g00 g17
              have h_turn := PyI.st g17.st h_turn
              have h_square := PyI.st g17.st h_square
              have h_own := PyI.st g17.st h_own
              have h_low := PyI.st g17.st h_low
              have ho_down := ho_down.go g00 g17
              have h_k := PyI.st g17.st h_k
              have sl3 := sl3.trans g17.st
              have sl16 := sl16.trans g17.st
              have g0 := g0.trans g17
              refine st_next ?_
              exact kn16 () _ W17 ⟨_, rfl, g0, sl16, ho_squares, ho_down⟩ hm
          ·
            obtain ⟨o_k, rfl, g0, sl16, ho_squares, ho_down⟩ := hI
            have h_relief := PyI.st sl16 h_relief
            have h_turn := PyI.st sl16 h_turn
            have h_square := PyI.st sl16 h_square
            have h_own := PyI.st sl16 h_own
            have h_low := PyI.st sl16 h_low
            have sl3 := sl3.trans sl16
            refine st_if (W := Wi16) (et_or (et_B (ew_notN (ev_next_square (ew_var (v := v_relief) rfl h_relief) (ew_ixL (ew_varR (v := v_down) rfl (Var.nS g00 ho_down) ho_down.own) (ew_neg ew_int))))) (et_t (ew_neD (ew_ixL (ew_varR (v := v_down) rfl (Var.nS g00 ho_down) ho_down.own) ew_int) (ew_var (v := v_square) rfl h_square)))) g0.ok hm (fun W19 g19 hm => ?_) (fun W19 g19 hm => ?_)
            ·
              have h_relief := PyI.st g19.st h_relief
              have ho_squares := ho_squares.go g00 g19
              have h_turn := PyI.st g19.st h_turn
              have h_square := PyI.st g19.st h_square
              have h_own := PyI.st g19.st h_own
              have h_low := PyI.st g19.st h_low
              have ho_down := ho_down.go g00 g19
              have sl3 := sl3.trans g19.st
              have g0 := g0.trans g19
              refine st_ret (W := W19) ew_bl g0.ok hm fun r20 v_ret W20 g20 hp hm => ?_
              have hm := kr3 _ _ hm
              have hm : r20 = true := hm
              cases hp
              rw [hm]
              exact kret _
            ·
              have h_relief := PyI.st g19.st h_relief
              have ho_squares := ho_squares.go g00 g19
              have h_turn := PyI.st g19.st h_turn
              have h_square := PyI.st g19.st h_square
              have h_own := PyI.st g19.st h_own
              have h_low := PyI.st g19.st h_low
              have ho_down := ho_down.go g00 g19
              have sl3 := sl3.trans g19.st
              have g0 := g0.trans g19
              refine st_next ?_
              exact kn3 () _ W19 ⟨_, _, _, _, _, _, _, rfl, g0, sl3, ho_squares⟩ hm
    ·
      obtain ⟨o_turn, o_square, o_own, o_low, o_other, o_down, o_k, rfl, g0, sl3, ho_squares⟩ := hI
      have h_relief := PyI.st sl3 h_relief
      refine st_ret (W := Wi3) ew_bl g0.ok hm fun r21 v_ret W21 g21 hp hm => ?_
      have hm : r21 = true := hm
      cases hp
      rw [hm]
      exact kret _
end
end W
/-! working with models -/
namespace Y
open PySem L2
namespace WP
variable {α β γ s : Type}
theorem run_cond {b : Bool} {A B : WP α} {n : Nat} {Q : Nat → α → Prop} : (cond b A B).run n Q = ((b = true → A.run n Q) ∧ (b = false → B.run n Q)) := by
  cases b with
  | true => exact propext ⟨fun h => ⟨fun _ => h, (fun z => by cases z)⟩, fun h => h.1 rfl⟩
  | false => exact propext ⟨fun h => ⟨(fun z => by cases z), fun _ => h⟩, fun h => h.2 rfl⟩
theorem run_range1 {w : WP Int} {n : Nat} {Q : Nat → List Int → Prop} : (range1 w).run n Q = w.run n (fun m k => (-100000000 ≤ k ∧ k ≤ 100000000) ∧ Q m (rangeL 0 k)) := rfl
theorem run_range2 {a b : WP Int} {n : Nat} {Q : Nat → List Int → Prop} : (range2 a b).run n Q = a.run n (fun m x => b.run m fun m y => (-100000000 ≤ x ∧ x ≤ 100000000 ∧ -100000000 ≤ y ∧ y ≤ 100000000) ∧ Q m (rangeL x y)) := rfl
def afterQ {ρ : Type} (f : s → WP ρ) (r : γ → WP ρ) (Q : Nat → ρ → Prop) : Nat → Ctl s γ → Prop
  | m, .nx y => (f y).run m Q
  | m, .bk y => (f y).run m Q
  | m, .rt q => (r q).run m Q
theorem after_of {ρ : Type} {w : WP (Ctl s γ)} {n : Nat} {f : s → WP ρ} {r : γ → WP ρ} {Q : Nat → ρ → Prop} (h : w.run n (afterQ f r Q)) : (after w f r).run n Q := w.mono (fun m c hc => by
  cases c with
  | nx z => exact hc
  | bk z => exact hc
  | rt q => exact hc) h
/-- what a turn may do: I for the next one, or the end -/
def turnQ {ρ : Type} (J : Nat → s → Prop) (f : s → WP ρ) (r : γ → WP ρ) (Q : Nat → ρ → Prop) : Nat → Ctl s γ → Prop
  | m, .nx y => J m y
  | m, .bk y => (f y).run m Q
  | m, .rt q => (r q).run m Q
/-- a loop, then what follows it -/
theorem after_inv {ρ : Type} {body : α → s → WP (Ctl s γ)} {xs : List α} {x : s} {n : Nat} {f : s → WP ρ} {r : γ → WP ρ} {Q : Nat → ρ → Prop} (I : Nat → Nat → s → Prop) (h0 : I 0 n x)
    (hs : ∀ i m a y, xs[i]? = some a → I i m y → (body a y).run m (turnQ (I (i + 1)) f r Q)) (hd : ∀ m y, I xs.length m y → (f y).run m Q) : (after (loop body xs x) f r).run n Q :=
  after_of (loop_inv I h0 (fun i m a y ha hi => (body a y).mono (fun m' c hc => by
    cases c with
    | nx z => exact hc
    | bk z => exact hc
    | rt q => exact hc) (hs i m a y ha hi)) hd)
end WP
/-- the weakest condition of a model, one step after another -/
theorem rangeL0_len {k : Int} : (rangeL 0 k).length = k.toNat := by rw [rangeL_len, Int.sub_zero]
theorem rangeL0_get {k a : Int} {i : Nat} (h : (rangeL 0 k)[i]? = some a) : a = (i : Int) ∧ (i : Int) < k := by
  have hl : i < (rangeL 0 k).length := (List.getElem?_eq_some_iff.mp h).1
  rw [rangeL0_len] at hl
  rw [rangeL_get (by rw [Int.sub_zero]; exact hl)] at h
  have := Option.some.inj h
  omega
end Y

/-! plain facts: charts, breadth first search -/
namespace Y
open PySem L2
/-- the model's value is a, without a draw -/
def Is {α : Type} (w : WP α) (a : α) : Prop := ∀ n Q, Q n a → w.run n Q
/-- the model's value keeps P, without a draw -/
def Gives {α : Type} (w : WP α) (P : α → Prop) : Prop := ∀ n Q, (∀ b, P b → Q n b) → w.run n Q
/-- the model's value keeps P, with at most k draws -/
def Draws {α : Type} (w : WP α) (k : Nat) (P : α → Prop) : Prop := ∀ n Q, n + k ≤ 1000000 → (∀ m b, n ≤ m → m ≤ n + k → P b → Q m b) → w.run n Q
def wid (ch : List Str) : Nat := (ixD ch 0).length
structure Ch (ch : List Str) : Prop where
  ne : 0 < ch.length
  hl : ch.length ≤ 300
  w : ∀ s ∈ ch, s.length = wid ch
  w0 : 0 < wid ch
  wl : wid ch ≤ 300
def isSq (ch : List Str) (q : Sq) : Bool := (decide (0 ≤ q.1) && decide (q.1 < (ch.length : Int))) && (decide (0 ≤ q.2) && decide (q.2 < (wid ch : Int)))
def isLd (ch : List Str) (q : Sq) : Bool := isSq ch q && decide (sgn (ixD ch q.1) q.2 = "x")
theorem isSq_iff {ch : List Str} {q : Sq} : isSq ch q = true ↔ 0 ≤ q.1 ∧ q.1 < (ch.length : Int) ∧ 0 ≤ q.2 ∧ q.2 < (wid ch : Int) := by
  unfold isSq
  simp only [Bool.and_eq_true, decide_eq_true_eq]
  exact ⟨fun ⟨⟨a, b⟩, c, d⟩ => ⟨a, b, c, d⟩, fun ⟨a, b, c, d⟩ => ⟨⟨a, b⟩, c, d⟩⟩
theorem isLd_iff {ch : List Str} {q : Sq} : isLd ch q = true ↔ isSq ch q = true ∧ sgn (ixD ch q.1) q.2 = "x" := by
  unfold isLd
  rw [Bool.and_eq_true, decide_eq_true_eq]
theorem isLd_sq {ch : List Str} {q : Sq} (h : isLd ch q = true) : isSq ch q = true := (isLd_iff.mp h).1
theorem ixD_get {α : Type} [Inhabited α] {xs : List α} {i : Int} (h0 : 0 ≤ i) (h : i < xs.length) : ∃ hl : i.toNat < xs.length, ixD xs i = xs[i.toNat] := by
  have hl : i.toNat < xs.length := by omega
  refine ⟨hl, ?_⟩
  have e : ixD xs ((i.toNat : Nat) : Int) = xs[i.toNat] := ixD_nat hl
  have e2 : ((i.toNat : Nat) : Int) = i := by omega
  rw [e2] at e
  exact e
theorem ixD_mem {α : Type} [Inhabited α] {xs : List α} {i : Int} (h0 : 0 ≤ i) (h : i < xs.length) : ixD xs i ∈ xs := by
  obtain ⟨hl, e⟩ := ixD_get h0 h
  rw [e]; exact List.getElem_mem hl
theorem ixD_of {α : Type} [Inhabited α] {xs : List α} {i : Nat} {a : α} (h : xs[i]? = some a) : ixD xs (i : Int) = a := by
  obtain ⟨hl, e⟩ := List.getElem?_eq_some_iff.mp h
  rw [ixD_nat hl, e]
section
variable {ch : List Str} {q : Sq} (c : Ch ch)
include c
theorem Ch.ok0 : okI ch.length 0 := ⟨by have := c.ne; omega, by have := c.ne; omega⟩
theorem Ch.wl0 : (ixD ch 0).length ≤ 100000 := by have := c.wl; unfold wid at this; omega
theorem Ch.ok1 (h : isSq ch q = true) : okI ch.length q.1 := by
  have := isSq_iff.mp h
  exact ⟨by omega, by omega⟩
theorem Ch.len1 (h : isSq ch q = true) : (ixD ch q.1).length = wid ch := by
  have := isSq_iff.mp h
  exact c.w _ (ixD_mem this.1 this.2.1)
theorem Ch.wl1 (h : isSq ch q = true) : (ixD ch q.1).length ≤ 100000 := by
  rw [c.len1 h]; have := c.wl; omega
theorem Ch.ok2 (h : isSq ch q = true) : okI (ixD ch q.1).length q.2 := by
  have := isSq_iff.mp h
  rw [c.len1 h]
  exact ⟨by omega, by omega⟩
end
def sides (q : Sq) : List Sq := [(q.1 - 1, q.2), (q.1, q.2 - 1), (q.1, q.2 + 1), (q.1 + 1, q.2)]
def ldBeside (ch : List Str) (q : Sq) : List Sq := (sides q).filter (isLd ch)
theorem sides_symm {p q : Sq} (h : q ∈ sides p) : p ∈ sides q := by
  obtain ⟨a, b⟩ := p
  obtain ⟨c, d⟩ := q
  simp only [sides, List.mem_cons, Prod.mk.injEq, List.not_mem_nil, or_false] at h ⊢
  omega
/-- every square of a chart -/
def allSq (ch : List Str) : List Sq := (List.range ch.length).flatMap fun (r : Nat) => (List.range (wid ch)).map fun (c : Nat) => (((r : Int), (c : Int)) : Sq)
theorem mem_allSq {ch : List Str} {q : Sq} : q ∈ allSq ch ↔ isSq ch q = true := by
  rw [isSq_iff]
  unfold allSq
  simp only [List.mem_flatMap, List.mem_map, List.mem_range]
  constructor
  · rintro ⟨r, hr, c, hc, rfl⟩
    exact ⟨by simp, by simpa using hr, by simp, by simpa using hc⟩
  · rintro ⟨h1, h2, h3, h4⟩
    exact ⟨q.1.toNat, by omega, q.2.toNat, by omega, by apply Prod.ext <;> simp <;> omega⟩
theorem flatMap_len {α β : Type} (xs : List α) (f : α → List β) (n : Nat) (h : ∀ x ∈ xs, (f x).length = n) : (xs.flatMap f).length = xs.length * n := by
  induction xs with
  | nil => simp
  | cons x xs ih =>
    rw [List.flatMap_cons, List.length_append, h x List.mem_cons_self, ih fun y hy => h y (List.mem_cons_of_mem _ hy), List.length_cons, Nat.succ_mul, Nat.add_comm]
theorem allSq_len (ch : List Str) : (allSq ch).length = ch.length * wid ch := by
  unfold allSq
  rw [flatMap_len _ _ (wid ch) (fun x _ => by simp), List.length_range]
theorem Ch.area {ch : List Str} (c : Ch ch) : (allSq ch).length ≤ 90000 := by
  rw [allSq_len]
  exact Nat.mul_le_mul c.hl c.wl
/-- no list without repeats in U is longer -/
theorem nodup_le {α : Type} [DecidableEq α] {xs U : List α} (nd : xs.Nodup) (h : ∀ x ∈ xs, x ∈ U) : xs.length ≤ U.length := by
  induction xs generalizing U with
  | nil => exact Nat.zero_le _
  | cons x xs ih =>
    have hx : x ∈ U := h x List.mem_cons_self
    have h1 : ∀ y ∈ xs, y ∈ U.erase x := fun y hy => by
      have : y ≠ x := fun z => (List.nodup_cons.mp nd).1 (z ▸ hy)
      exact (List.mem_erase_of_ne this).mpr (h y (List.mem_cons_of_mem _ hy))
    have h2 := ih (List.nodup_cons.mp nd).2 h1
    rw [List.length_erase_of_mem hx] at h2
    have : 0 < U.length := List.length_pos_of_mem hx
    rw [List.length_cons]; omega

/-! ### what steps lead to -/
inductive Rch (st : Sq → List Sq) (s : Sq) : Sq → Prop where
  | refl : Rch st s s
  | step {p q : Sq} : Rch st s p → q ∈ st p → Rch st s q
theorem Rch.trans {st : Sq → List Sq} {a b c : Sq} (h : Rch st a b) (h' : Rch st b c) : Rch st a c := by
  induction h' with
  | refl => exact h
  | step _ hq ih => exact .step ih hq
theorem Rch.one {st : Sq → List Sq} {a b : Sq} (h : b ∈ st a) : Rch st a b := .step .refl h
theorem Rch.mono {st st' : Sq → List Sq} {a b : Sq} (h : ∀ p q, q ∈ st p → q ∈ st' p) (r : Rch st a b) : Rch st' a b := by
  induction r with
  | refl => exact .refl
  | step _ hq ih => exact .step ih (h _ _ hq)
def Wk (st : Sq → List Sq) : Nat → Sq → Sq → Prop
  | 0, s, q => s = q
  | n + 1, s, q => ∃ p, Wk st n s p ∧ q ∈ st p
theorem Wk.rch {st : Sq → List Sq} : ∀ {n : Nat} {s q : Sq}, Wk st n s q → Rch st s q
  | 0, _, _, w => by cases w; exact .refl
  | _ + 1, _, _, ⟨_, w, h⟩ => .step w.rch h
theorem Rch.wk {st : Sq → List Sq} {s q : Sq} (r : Rch st s q) : ∃ n, Wk st n s q := by
  induction r with
  | refl => exact ⟨0, rfl⟩
  | step _ h ih => exact ⟨ih.choose + 1, _, ih.choose_spec, h⟩
/-! dicts -/
section
variable {β : Type}
theorem lookK_some {kvs : List (Sq × β)} {q : Sq} {d : β} (h : lookK kvs q = some d) : (q, d) ∈ kvs := by
  unfold lookK at h
  obtain ⟨p, hp, rfl⟩ := Option.map_eq_some_iff.mp h
  have h1 := List.find?_some hp
  have h2 := List.mem_of_find?_eq_some hp
  have : p.1 = q := of_decide_eq_true h1
  rw [← this]; exact h2
theorem lookK_none {kvs : List (Sq × β)} {q : Sq} (h : lookK kvs q = none) : q ∉ kvs.map (·.1) := by
  unfold lookK at h
  rw [Option.map_eq_none_iff, List.find?_eq_none] at h
  intro hm
  obtain ⟨p, hp, e⟩ := List.mem_map.mp hm
  exact h p hp (decide_eq_true e)
theorem hasK_iff {kvs : List (Sq × β)} {q : Sq} : hasK kvs q = true ↔ q ∈ kvs.map (·.1) := by
  unfold hasK
  constructor
  · intro h
    obtain ⟨d, hd⟩ := Option.isSome_iff_exists.mp h
    exact List.mem_map.mpr ⟨_, lookK_some hd, rfl⟩
  · intro h
    cases e : lookK kvs q with
    | none => exact absurd h (lookK_none e)
    | some d => rfl
theorem hasK_false {kvs : List (Sq × β)} {q : Sq} : hasK kvs q = false ↔ q ∉ kvs.map (·.1) := by
  rw [← hasK_iff, Bool.not_eq_true]
theorem lookK_mem {kvs : List (Sq × β)} (nd : (kvs.map (·.1)).Nodup) {q : Sq} {d : β} (h : (q, d) ∈ kvs) : lookK kvs q = some d := by
  cases e : lookK kvs q with
  | none => exact absurd (List.mem_map.mpr ⟨(q, d), h, rfl⟩) (lookK_none e)
  | some d' =>
    have h' := lookK_some e
    obtain ⟨i, hi, ei⟩ := List.mem_iff_getElem.mp h
    obtain ⟨j, hj, ej⟩ := List.mem_iff_getElem.mp h'
    have : i = j := by
      have hi' : i < (kvs.map (·.1)).length := by rw [List.length_map]; exact hi
      have hj' : j < (kvs.map (·.1)).length := by rw [List.length_map]; exact hj
      have : (kvs.map (·.1))[i] = (kvs.map (·.1))[j] := by simp [ei, ej]
      exact (List.getElem_inj nd).mp this
    subst this
    rw [ei] at ej
    injection ej with _ e2
    rw [e2]
theorem putQ_new {kvs : List (Sq × β)} {q : Sq} {b : β} (h : hasK kvs q = false) : putQ kvs q b = kvs ++ [(q, b)] := by
  unfold putQ
  rw [h]; rfl
theorem putQ_old {kvs : List (Sq × β)} {q : Sq} {b : β} (h : hasK kvs q = true) : putQ kvs q b = kvs.map (fun p => if p.1 = q then (p.1, b) else p) := by
  unfold putQ
  rw [h]; rfl
end
theorem get_snoc {α : Type} {xs : List α} {x y : α} {i : Nat} (h : (xs ++ [x])[i]? = some y) : xs[i]? = some y ∨ (i = xs.length ∧ y = x) := by
  by_cases hi : i < xs.length
  · rw [List.getElem?_append_left hi] at h
    exact .inl h
  · rw [List.getElem?_append_right (by omega)] at h
    have : i - xs.length = 0 := by
      cases e : i - xs.length with
      | zero => rfl
      | succ k => rw [e] at h; simp at h
    rw [this] at h
    simp at h
    exact .inr ⟨by omega, h.symm⟩
/-! ### a breadth first search with ghost distances: gs, at the place a -/
structure Bfs (st : Sq → List Sq) (s : Sq) (gs : List (Sq × Nat)) (a : Nat) : Prop where
  nd : (gs.map (·.1)).Nodup
  le : a ≤ gs.length
  pos : 0 < gs.length
  hd : gs[0]? = some (s, 0)
  wk : ∀ p ∈ gs, Wk st p.2 s p.1
  srt : ∀ (i j : Nat) (p q : Sq × Nat), i ≤ j → gs[i]? = some p → gs[j]? = some q → p.2 ≤ q.2
  top : ∀ (p : Sq × Nat), gs[a]? = some p → ∀ q ∈ gs, q.2 ≤ p.2 + 1
  don : ∀ (i : Nat) (p : Sq × Nat), i < a → gs[i]? = some p → ∀ q ∈ st p.1, ∃ r ∈ gs, r.1 = q ∧ r.2 ≤ p.2 + 1
/-- within the turn of the place a, i of the candidates L looked at -/
structure BfsI (st : Sq → List Sq) (s : Sq) (gs : List (Sq × Nat)) (a : Nat) (c : Sq) (d : Nat) (L : List Sq) (i : Nat) : Prop extends Bfs st s gs a where
  cur : gs[a]? = some (c, d)
  nb : ∀ q ∈ L.take i, ∃ r ∈ gs, r.1 = q ∧ r.2 ≤ d + 1
section
variable {st : Sq → List Sq} {s : Sq} {gs : List (Sq × Nat)} {a : Nat} {c : Sq} {d : Nat} {L : List Sq} {i : Nat} {q : Sq}
theorem Bfs.start : Bfs st s [(s, 0)] 0 where
  nd := by simp
  le := Nat.zero_le _
  pos := by simp
  hd := rfl
  wk := by intro p hp; simp at hp; subst hp; rfl
  srt := by
    intro i j p q _ h1 h2
    have e1 : p = (s, 0) := by
      cases i with
      | zero => simpa using h1.symm
      | succ i => simp at h1
    rw [e1]; exact Nat.zero_le _
  top := by intro p hp q hq; simp at hp hq; subst hp; subst hq; show 0 ≤ 0 + 1; decide
  don := by intro i p hi; omega
theorem Bfs.open (b : Bfs st s gs a) (h : gs[a]? = some (c, d)) : BfsI st s gs a c d L 0 :=
  { b with cur := h, nb := by intro q hq; simp at hq }
theorem BfsI.old (b : BfsI st s gs a c d L i) (h : L[i]? = some q) (hh : q ∈ gs.map (·.1)) : BfsI st s gs a c d L (i + 1) :=
  ⟨b.toBfs, b.cur, fun r hr => by
      rw [List.take_add_one, h] at hr
      rcases List.mem_append.mp hr with hr | hr
      · exact b.nb r hr
      · have : r = q := by simpa using hr
        subst this
        obtain ⟨p, hp, e⟩ := List.mem_map.mp hh
        exact ⟨p, hp, e, b.top _ b.cur p hp⟩⟩
theorem BfsI.new (b : BfsI st s gs a c d L i) (h : L[i]? = some q) (hs : q ∈ st c) (hnk : q ∉ gs.map (·.1)) : BfsI st s (gs ++ [(q, d + 1)]) a c d L (i + 1) := by
  have hal : a < gs.length := (List.getElem?_eq_some_iff.mp b.cur).1
  have top : ∀ p ∈ gs, p.2 ≤ d + 1 := fun p hp => b.top _ b.cur p hp
  refine { nd := ?_, le := ?_, pos := ?_, hd := ?_, wk := ?_, srt := ?_, top := ?_, don := ?_, cur := ?_, nb := ?_ }
  · rw [List.map_append, List.nodup_append]
    refine ⟨b.nd, by simp, fun x hx y hy => ?_⟩
    have : y = q := by simpa using hy
    subst this
    exact fun z => hnk (z ▸ hx)
  · rw [List.length_append]; have := b.le; omega
  · rw [List.length_append]; have := b.pos; omega
  · rw [List.getElem?_append_left b.pos]; exact b.hd
  · intro p hp
    rcases List.mem_append.mp hp with hp | hp
    · exact b.wk p hp
    · have : p = (q, d + 1) := by simpa using hp
      subst this
      exact ⟨c, b.wk _ (List.mem_of_getElem? b.cur), hs⟩
  · intro i j p r hij h1 h2
    rcases get_snoc h1 with h1 | ⟨e1, f1⟩
    · rcases get_snoc h2 with h2 | ⟨e2, f2⟩
      · exact b.srt i j p r hij h1 h2
      · rw [f2]; exact top p (List.mem_of_getElem? h1)
    · rcases get_snoc h2 with h2 | ⟨e2, f2⟩
      · have := (List.getElem?_eq_some_iff.mp h2).1
        omega
      · rw [f1, f2]; exact Nat.le_refl _
  · intro p hp r hr
    rw [List.getElem?_append_left hal, b.cur] at hp
    have := Option.some.inj hp
    subst this
    rcases List.mem_append.mp hr with hr | hr
    · exact top r hr
    · have : r = (q, d + 1) := by simpa using hr
      subst this; exact Nat.le_refl _
  · intro i p hi hp r hr
    rw [List.getElem?_append_left (by omega)] at hp
    obtain ⟨x, hx, e1, e2⟩ := b.don i p hi hp r hr
    exact ⟨x, List.mem_append_left _ hx, e1, e2⟩
  · rw [List.getElem?_append_left hal]; exact b.cur
  · intro r hr
    rw [List.take_add_one, h] at hr
    rcases List.mem_append.mp hr with hr | hr
    · obtain ⟨x, hx, e1, e2⟩ := b.nb r hr
      exact ⟨x, List.mem_append_left _ hx, e1, e2⟩
    · have : r = q := by simpa using hr
      subst this
      exact ⟨(r, d + 1), List.mem_append_right _ (by simp), rfl, Nat.le_refl _⟩
theorem BfsI.close (b : BfsI st s gs a c d (st c) (st c).length) : Bfs st s gs (a + 1) := by
  have hal : a < gs.length := (List.getElem?_eq_some_iff.mp b.cur).1
  refine { b.toBfs with le := by omega, top := ?_, don := ?_ }
  · intro p hp q hq
    have h1 := b.top _ b.cur q hq
    have h2 := b.srt a (a + 1) _ p (by omega) b.cur hp
    have h3 : d ≤ p.2 := h2
    have h4 : q.2 ≤ d + 1 := h1
    omega
  · intro i p hi hp q hq
    by_cases e : i = a
    · subst e
      rw [b.cur] at hp
      have := Option.some.inj hp
      subst this
      exact b.nb q (by rw [List.take_length]; exact hq)
    · exact b.don i p (by omega) hp q hq
end
/-- what a search has found in the end -/
structure Far (st : Sq → List Sq) (s : Sq) (gs : List (Sq × Nat)) : Prop where
  nd : (gs.map (·.1)).Nodup
  hd : gs[0]? = some (s, 0)
  wk : ∀ p ∈ gs, Wk st p.2 s p.1
  srt : ∀ (i j : Nat) (p q : Sq × Nat), i ≤ j → gs[i]? = some p → gs[j]? = some q → p.2 ≤ q.2
  all : ∀ (n : Nat) (q : Sq), Wk st n s q → ∃ r ∈ gs, r.1 = q ∧ r.2 ≤ n
theorem Bfs.far {st : Sq → List Sq} {s : Sq} {gs : List (Sq × Nat)} {a : Nat} (b : Bfs st s gs a) (h : gs.length ≤ a) : Far st s gs := by
  refine ⟨b.nd, b.hd, b.wk, b.srt, fun n => ?_⟩
  induction n with
  | zero =>
    intro q w
    cases w
    exact ⟨(s, 0), List.mem_of_getElem? b.hd, rfl, Nat.le_refl _⟩
  | succ n ih =>
    rintro q ⟨p, w, hq⟩
    obtain ⟨r, hr, e1, e2⟩ := ih p w
    obtain ⟨i, hi, ei⟩ := List.mem_iff_getElem.mp hr
    obtain ⟨x, hx, f1, f2⟩ := b.don i r (by omega) (by rw [List.getElem?_eq_getElem hi, ei]) q (by rw [e1]; exact hq)
    exact ⟨x, hx, f1, by omega⟩
/-- the dict of met_from beside the ghost -/
structure Par (st : Sq → List Sq) (s : Sq) (kvs : List (Sq × Option Sq)) (gs : List (Sq × Nat)) : Prop where
  keys : kvs.map (·.1) = gs.map (·.1)
  hd : kvs[0]? = some (s, none)
  non : ∀ q, (q, none) ∈ kvs → q = s
  par : ∀ q p, (q, some p) ∈ kvs → q ∈ st p ∧ ∃ d, (p, d) ∈ gs ∧ (q, d + 1) ∈ gs
/-- what met_from returns -/
structure Met (st : Sq → List Sq) (s : Sq) (kvs : List (Sq × Option Sq)) : Prop where
  ex : ∃ gs, Far st s gs ∧ Par st s kvs gs
section
variable {st : Sq → List Sq} {s : Sq} {kvs : List (Sq × Option Sq)} (m : Met st s kvs)
include m
theorem Met.nd : (kvs.map (·.1)).Nodup := by
  obtain ⟨gs, f, p⟩ := m.ex
  rw [p.keys]; exact f.nd
theorem Met.mem {q : Sq} : q ∈ kvs.map (·.1) ↔ Rch st s q := by
  obtain ⟨gs, f, p⟩ := m.ex
  rw [p.keys]
  constructor
  · intro h
    obtain ⟨r, hr, e⟩ := List.mem_map.mp h
    rw [← e]; exact (f.wk r hr).rch
  · intro h
    obtain ⟨n, w⟩ := h.wk
    obtain ⟨r, hr, e, _⟩ := f.all n q w
    exact List.mem_map.mpr ⟨r, hr, e⟩
theorem Met.has {q : Sq} : hasK kvs q = true ↔ Rch st s q := by rw [hasK_iff, m.mem]
end
/-! ### values without draws -/
section
variable {α β γ δ : Type}
theorem Is.pure {a : α} : Is (WP.pure a) a := fun _ _ q => q
theorem Is.bind {w : WP α} {a : α} {f : α → WP β} {b : β} (h : Is w a) (k : Is (f a) b) : Is (w.bind f) b := fun n Q q => h n _ (k n Q q)
theorem Is.req {P : Prop} {a : α} (p : P) : Is (WP.req P a) a := fun _ _ q => ⟨p, q⟩
theorem Is.eq {w : WP α} {a b : α} (h : Is w a) (e : a = b) : Is w b := e ▸ h
theorem Is.cond {b : Bool} {A B : WP α} {x : α} (h : b = true → Is A x) (k : b = false → Is B x) : Is (WP.cond b A B) x := by
  cases b with
  | true => exact h rfl
  | false => exact k rfl
theorem Is.and {a b : WP Bool} {x y : Bool} (h : Is a x) (k : x = true → Is b y) : Is (WP.and a b) (x && y) := h.bind (by
  cases x with
  | true => exact k rfl
  | false => exact Is.pure)
theorem Is.or {a b : WP Bool} {x y : Bool} (h : Is a x) (k : x = false → Is b y) : Is (WP.or a b) (x || y) := h.bind (by
  cases x with
  | true => exact Is.pure
  | false => exact k rfl)
theorem Is.not {a : WP Bool} {x : Bool} (h : Is a x) : Is (WP.not a) (!x) := h.bind Is.pure
theorem Is.ite {c : WP Bool} {a b : WP α} {x : Bool} {y z : α} (h : Is c x) (ha : x = true → Is a y) (hb : x = false → Is b z) : Is (WP.ite c a b) (if x then y else z) := h.bind (by
  cases x with
  | true => exact ha rfl
  | false => exact hb rfl)
theorem Is.b1 {a : WP α} {x : α} {f : α → WP β} {z : β} (h : Is a x) (k : Is (f x) z) : Is (WP.b1 a f) z := h.bind k
theorem Is.b2 {a : WP α} {b : WP β} {x : α} {y : β} {f : α → β → WP γ} {z : γ} (h : Is a x) (h' : Is b y) (k : Is (f x y) z) : Is (WP.b2 a b f) z := h.bind (h'.bind k)
theorem Is.b3 {a : WP α} {b : WP β} {c : WP γ} {x : α} {y : β} {z : γ} {f : α → β → γ → WP δ} {u : δ} (h : Is a x) (h' : Is b y) (h2 : Is c z) (k : Is (f x y z) u) : Is (WP.b3 a b c f) u := h.bind (h'.bind (h2.bind k))
theorem Is.chain {C C' : Int → Int → Bool} {a b c : WP Int} {x y z : Int} (h : Is a x) (h' : Is b y) (h2 : C x y = true → Is c z) : Is (WP.chain C C' a b c) (C x y && C' y z) := h.bind (h'.bind (by
  cases e : C x y with
  | true => exact (h2 e).bind Is.pure
  | false => exact Is.pure))
theorem Is.ret {w : WP α} {a : α} (h : Is w a) : Is (w.bind fun r => WP.pure r) a := h.bind Is.pure
theorem Is.comp {c : α → WP Bool} {f : α → WP β} {p : α → Bool} {g : α → β} : ∀ {xs : List α}, (∀ x ∈ xs, Is (c x) (p x)) → (∀ x ∈ xs, p x = true → Is (f x) (g x)) → Is (WP.comp c f xs) ((xs.filter p).map g)
  | [], _, _ => Is.pure
  | x :: xs, h, k => (h x List.mem_cons_self).bind (by
    have ih := Is.comp (xs := xs) (fun y m => h y (List.mem_cons_of_mem _ m)) (fun y m => k y (List.mem_cons_of_mem _ m))
    rw [List.filter_cons]
    cases e : p x with
    | true => exact (k x List.mem_cons_self e).bind (ih.bind Is.pure)
    | false => exact ih)
theorem Is.lc {w : WP (List α)} {xs : List α} {c : α → WP Bool} {f : α → WP β} {p : α → Bool} {g : α → β} (hw : Is w xs) (hl : xs.length ≤ 100000) (h : ∀ x ∈ xs, Is (c x) (p x)) (k : ∀ x ∈ xs, p x = true → Is (f x) (g x)) : Is (WP.lc w c f) ((xs.filter p).map g) :=
  hw.bind ((Is.req hl).bind (Is.comp h k))
theorem Is.lcM {w : WP (List α)} {xs : List α} {f : α → WP β} {g : α → β} (hw : Is w xs) (hl : xs.length ≤ 100000) (k : ∀ x ∈ xs, Is (f x) (g x)) : Is (WP.lc w (fun _ => WP.pure true) f) (xs.map g) := by
  have h := Is.lc (p := fun _ => true) hw hl (fun _ _ => Is.pure) (fun x m _ => k x m)
  rwa [List.filter_eq_self.mpr (fun _ _ => rfl)] at h
theorem Is.lcF {w : WP (List α)} {xs : List α} {c : α → WP Bool} {p : α → Bool} (hw : Is w xs) (hl : xs.length ≤ 100000) (h : ∀ x ∈ xs, Is (c x) (p x)) : Is (WP.lc w c fun x => WP.pure x) (xs.filter p) := by
  have h := Is.lc (g := id) hw hl h (fun x m _ => Is.pure)
  rwa [List.map_id] at h
/-- a loop by an invariant, then what follows -/
theorem Is.loop {s ρ : Type} {body : α → s → WP (Ctl s γ)} {xs : List α} {x : s} {f : s → WP ρ} {r : γ → WP ρ} (g : Nat → s) (h0 : g 0 = x) (hs : ∀ i a, xs[i]? = some a → Is (body a (g i)) (.nx (g (i + 1)))) {z : ρ} (hd : Is (f (g xs.length)) z) : Is (WP.after (WP.loop body xs x) f r) z := by
  intro n Q q
  refine WP.after_inv (fun i m y => m = n ∧ y = g i) ⟨rfl, h0.symm⟩ (fun i m a y ha hi => ?_) (fun m y hy => ?_)
  · obtain ⟨rfl, rfl⟩ := hi
    exact hs i a ha _ _ ⟨rfl, rfl⟩
  · obtain ⟨rfl, rfl⟩ := hy
    exact hd _ _ q
/-! values with draws -/
theorem Is.draws {w : WP α} {a : α} {k : Nat} (h : Is w a) : Draws w k (· = a) := fun n Q _ q => h n Q (q n a (Nat.le_refl _) (Nat.le_add_right _ _) rfl)
theorem Draws.bind {w : WP α} {k k' : Nat} {P : α → Prop} {P' : β → Prop} {f : α → WP β} (h : Draws w k P) (h' : ∀ a, P a → Draws (f a) k' P') : Draws (w.bind f) (k + k') P' := fun n Q hn q =>
  h n _ (by omega) fun m b h1 h2 hb => h' b hb m Q (by omega) fun m' c h3 h4 hc => q m' c (by omega) (by omega) hc
theorem Draws.pure {a : α} {P : α → Prop} (h : P a) : Draws (WP.pure a) 0 P := fun n Q _ q => q n a (Nat.le_refl _) (Nat.le_refl _) h
theorem Draws.imp {w : WP α} {k k' : Nat} {P P' : α → Prop} (h : Draws w k P) (hk : k ≤ k') (hp : ∀ a, P a → P' a) : Draws w k' P' := fun n Q hn q =>
  h n Q (by omega) fun m b h1 h2 hb => q m b h1 (by omega) (hp b hb)
theorem Draws.take {many : Int} (h : 0 < many) : Draws (WP.take many) 1 (fun x => 0 ≤ x ∧ x < many) := fun n Q hn q => ⟨by omega, h, fun x h1 h2 => q _ x (by omega) (by omega) ⟨h1, h2⟩⟩
end
namespace WP
variable {s γ ρ : Type}
/-- a while, then what follows it -/
theorem after_whilst {t : s → WP Bool} {body : s → WP (Ctl s γ)} {x : s} {n : Nat} {f : s → WP ρ} {r : γ → WP ρ} {Q : Nat → ρ → Prop} (I : Nat → Nat → s → Prop) (h0 : ∃ m, I m n x)
    (hs : ∀ m n y, I m n y → (t y).run n fun n' b => (b = true → (body y).run n' (turnQ (fun n2 z => ∃ m', m' < m ∧ I m' n2 z) f r Q)) ∧ (b = false → (f y).run n' Q)) : (after (whilst t body x) f r).run n Q :=
  after_of ⟨I, h0, fun m n y hi => (t y).mono (fun n' b h => by
    cases b with
    | true => exact (body y).mono (fun n2 c hc => by
        cases c with
        | nx z => exact hc
        | bk z => exact hc
        | rt q => exact hc) (h.1 rfl)
    | false => exact h.2 rfl) (hs m n y hi)⟩
end WP
theorem Par.new {st : Sq → List Sq} {s : Sq} {kvs : List (Sq × Option Sq)} {gs : List (Sq × Nat)} {q c : Sq} {d : Nat} (p : Par st s kvs gs) (hq : q ∈ st c) (hc : (c, d) ∈ gs) : Par st s (kvs ++ [(q, some c)]) (gs ++ [(q, d + 1)]) := by
  have h0 : 0 < kvs.length := (List.getElem?_eq_some_iff.mp p.hd).1
  refine ⟨by rw [List.map_append, List.map_append, p.keys]; rfl, by rw [List.getElem?_append_left h0]; exact p.hd, fun r hr => ?_, fun r o hr => ?_⟩
  · rcases List.mem_append.mp hr with hr | hr
    · exact p.non r hr
    · simp at hr
  · rcases List.mem_append.mp hr with hr | hr
    · obtain ⟨a, e, b, c⟩ := p.par r o hr
      exact ⟨a, e, List.mem_append_left _ b, List.mem_append_left _ c⟩
    · simp at hr
      obtain ⟨rfl, rfl⟩ := hr
      exact ⟨hq, d, List.mem_append_left _ hc, List.mem_append_right _ (by simp)⟩
def met_fromM (a_chart : (List Str)) (a_start : Sq) (a_steps : ((List Str) → Sq → WP (List Sq))) : WP (List (Sq × (Option Sq))) := (WP.b2 (WP.pure a_start) (WP.pure (none : (Option Sq))) fun x b => WP.pure [(x, b)]).bind fun a1_before => (WP.row (WP.consE (WP.pure a_start) (WP.pure ([] : List Sq)))).bind fun a2_queue => (WP.pure (0 : Int)).bind fun a3_at => WP.after (WP.whilst (γ := (List (Sq × (Option Sq)))) (fun (y4 : (List (Sq × (Option Sq))) × (List Sq) × Int) => (WP.lt (WP.pure y4.2.2) (WP.len (WP.pure y4.2.1)))) (fun (y4 : (List (Sq × (Option Sq))) × (List Sq) × Int) => (WP.b2 (WP.pure a_chart) (WP.ix (WP.pure y4.2.1) (WP.pure y4.2.2)) a_steps).bind fun xs5 => WP.after (WP.loop (γ := (List (Sq × (Option Sq)))) (fun c5 (y5 : (List (Sq × (Option Sq))) × (List Sq)) => ((WP.not (WP.din (WP.pure c5) (WP.pure y5.1))).bind fun b => WP.cond b ((WP.b2 (WP.some' (WP.ix (WP.pure y5.2) (WP.pure y4.2.2))) (WP.pure c5) fun b q => WP.req (y5.1.length < 100000) (putQ y5.1 q b)).bind fun a7_before => ((WP.pure c5).bind fun a => WP.req (y5.2.length < 100000) (y5.2 ++ [a])).bind fun a8_queue => (WP.pure (a7_before, a8_queue))) ((WP.pure (y5.1, y5.2)))).bind fun (y6 : (List (Sq × (Option Sq))) × (List Sq)) => (WP.pure (.nx (y6.1, y6.2)))) xs5 (y4.1, y4.2.1)) (fun (z5 : (List (Sq × (Option Sq))) × (List Sq)) => ((WP.pure (1 : Int)).bind fun b => WP.pure (y4.2.2 + b)).bind fun a9_at => (WP.pure (.nx (z5.1, z5.2, a9_at)))) (fun r => (WP.pure (.rt r)))) (a1_before, a2_queue, a3_at)) (fun (z4 : (List (Sq × (Option Sq))) × (List Sq) × Int) => (WP.pure z4.1)) (fun r => (WP.pure r))
theorem gets_map {gs : List (Sq × Nat)} {i : Nat} {c : Sq} {d : Nat} (h : gs[i]? = some (c, d)) : (gs.map (·.1))[i]? = some c := by
  rw [List.getElem?_map, h]; rfl
theorem met_gives {ch : List Str} {s : Sq} {steps : List Str → Sq → WP (List Sq)} {st : Sq → List Sq} {U : List Sq} (hst : ∀ q, Rch st s q → Is (steps ch q) (st q)) (hU : ∀ q, Rch st s q → q ∈ U) (hl : U.length < 100000) : Gives (met_fromM ch s steps) (Met st s) := by
  intro n Q hQ
  unfold met_fromM
  (simp only [WP.run_bind, WP.run_pure, WP.run_req, WP.run_any, WP.run_take, WP.run_cond, WP.run_range1, WP.run_range2, decide_eq_true_eq, decide_eq_false_iff_not, Bool.not_eq_true', Bool.not_eq_false'])
  refine ⟨by simp, ?_⟩
  have bnd : ∀ {gs : List (Sq × Nat)} {a : Nat}, Bfs st s gs a → gs.length ≤ U.length := fun {gs a} b => by
    have := nodup_le (U := U) b.nd fun x hx => by
      obtain ⟨p, hp, e⟩ := List.mem_map.mp hx
      rw [← e]; exact hU _ (b.wk p hp).rch
    rwa [List.length_map] at this
  refine WP.after_whilst (fun m n' y => n' = n ∧ ∃ gs a, Bfs st s gs a ∧ Par st s y.1 gs ∧ y.2.1 = gs.map (·.1) ∧ y.2.2 = (a : Int) ∧ m = U.length - a)
    ⟨U.length, rfl, [(s, 0)], 0, Bfs.start, ⟨rfl, rfl, by simp, by simp⟩, rfl, rfl, rfl⟩ ?_
  rintro m n' ⟨kvs, queue, at'⟩ ⟨rfl, gs, a, b, p, e1, e2, e3⟩
  dsimp only at e1 e2 e3 p
  subst e1; subst e2; subst e3
  (simp only [WP.run_bind, WP.run_pure, WP.run_req, WP.run_any, WP.run_take, WP.run_cond, WP.run_range1, WP.run_range2, decide_eq_true_eq, decide_eq_false_iff_not, Bool.not_eq_true', Bool.not_eq_false'])
  refine ⟨fun hlt => ?_, fun hge => hQ _ ⟨gs, b.far (by rw [List.length_map] at hge; omega), p⟩⟩
  rw [List.length_map] at hlt
  have hal : a < gs.length := by omega
  have hcur : gs[a]? = some (gs[a].1, gs[a].2) := List.getElem?_eq_getElem hal
  have ec : ixD (gs.map (·.1)) (a : Int) = gs[a].1 := ixD_of (gets_map hcur)
  refine ⟨⟨by omega, by rw [List.length_map]; omega⟩, ?_⟩
  rw [ec]
  refine hst _ (b.wk _ (List.getElem_mem hal)).rch _ _ ?_
  refine WP.after_inv (fun i m y => m = n' ∧ ∃ gs', BfsI st s gs' a gs[a].1 gs[a].2 (st gs[a].1) i ∧ Par st s y.1 gs' ∧ y.2 = gs'.map (·.1)) ⟨rfl, gs, b.open hcur, p, rfl⟩ ?_ ?_
  · rintro i m q ⟨kv, qu⟩ hq ⟨rfl, gs', b', p', e⟩
    dsimp only at e p'
    subst e
    (simp only [WP.run_bind, WP.run_pure, WP.run_req, WP.run_any, WP.run_take, WP.run_cond, WP.run_range1, WP.run_range2, decide_eq_true_eq, decide_eq_false_iff_not, Bool.not_eq_true', Bool.not_eq_false'])
    have hq' : q ∈ st gs[a].1 := List.mem_of_getElem? hq
    refine ⟨fun hn => ?_, fun hy => ?_⟩
    · have hnk : q ∉ gs'.map (·.1) := by
        rw [← p'.keys]; exact hasK_false.mp hn
      have b2 := b'.new hq hq' hnk
      have hb := bnd b2.toBfs
      rw [List.length_append, List.length_singleton] at hb
      have hkl : kv.length = gs'.length := by
        have := congrArg List.length p'.keys
        rwa [List.length_map, List.length_map] at this
      have hal' : a < gs'.length := (List.getElem?_eq_some_iff.mp b'.cur).1
      refine ⟨⟨by omega, by rw [List.length_map]; omega⟩, by omega, by rw [List.length_map]; omega, ?_⟩
      show _ ∧ _
      refine ⟨rfl, _, b2, ?_, by rw [List.map_append]; rfl⟩
      show Par st s (putQ kv q (some (ixD (gs'.map (·.1)) (a : Int)))) _
      rw [putQ_new hn, ixD_of (gets_map b'.cur)]
      exact p'.new hq' (List.mem_of_getElem? b'.cur)
    · have hk : q ∈ gs'.map (·.1) := by
        rw [← p'.keys]; exact hasK_iff.mp hy
      exact ⟨rfl, gs', b'.old hq hk, p', rfl⟩
  · rintro m ⟨kv, qu⟩ ⟨rfl, gs', b', p', e⟩
    (simp only [WP.run_bind, WP.run_pure, WP.run_req, WP.run_any, WP.run_take, WP.run_cond, WP.run_range1, WP.run_range2, decide_eq_true_eq, decide_eq_false_iff_not, Bool.not_eq_true', Bool.not_eq_false'])
    have b2 := b'.close
    have := bnd b2
    refine ⟨U.length - (a + 1), ?_, rfl, gs', a + 1, b2, p', e, by simp, rfl⟩
    have := b2.le
    omega
/-! ### the chart's functions -/
def is_squareM (ch : List Str) (q : Sq) : WP Bool := (WP.pure q).bind fun x => (WP.and (WP.chain (fun i j => decide (i ≤ j)) (fun i j => decide (i < j)) (WP.pure (0 : Int)) (WP.pure x.1) (WP.len (WP.pure ch))) (WP.chain (fun i j => decide (i ≤ j)) (fun i j => decide (i < j)) (WP.pure (0 : Int)) (WP.pure x.2) (WP.lenS (WP.ix (WP.pure ch) (WP.pure (0 : Int)))))).bind fun r2 => (WP.pure r2)
theorem Is.len {α : Type} {w : WP (List α)} {xs : List α} (h : Is w xs) : Is (WP.len w) ((xs.length : Nat) : Int) := h.bind Is.pure
theorem Is.wid0 {ch : List Str} (c : Ch ch) : Is (WP.lenS (WP.ix (WP.pure ch) (WP.pure (0 : Int)))) ((wid ch : Nat) : Int) := fun n Q q => by
  (simp only [WP.run_bind, WP.run_pure, WP.run_req, WP.run_any, WP.run_take, WP.run_cond, WP.run_range1, WP.run_range2, decide_eq_true_eq, decide_eq_false_iff_not, Bool.not_eq_true', Bool.not_eq_false'])
  exact ⟨c.ok0, c.wl0, q⟩
theorem is_square_is {ch : List Str} (c : Ch ch) (q : Sq) : Is (is_squareM ch q) (isSq ch q) :=
  Is.pure.bind (Is.ret (Is.and (Is.chain Is.pure Is.pure fun _ => Is.len Is.pure) fun _ => Is.chain Is.pure Is.pure fun _ => Is.wid0 c))
def is_landM (a_chart : (List Str)) (a_square : Sq) : WP Bool := (WP.and (WP.b2 (WP.pure a_chart) (WP.pure a_square) is_squareM) (WP.eq (WP.ixS (WP.ix (WP.pure a_chart) (WP.fst (WP.pure a_square))) (WP.snd (WP.pure a_square))) (WP.pure ("x" : Str)))).bind fun r1 => (WP.pure r1)
theorem Is.sign {ch : List Str} (c : Ch ch) {q : Sq} (h : isSq ch q = true) : Is (WP.ixS (WP.ix (WP.pure ch) (WP.fst (WP.pure q))) (WP.snd (WP.pure q))) (sgn (ixD ch q.1) q.2) := fun n Q z => by
  (simp only [WP.run_bind, WP.run_pure, WP.run_req, WP.run_any, WP.run_take, WP.run_cond, WP.run_range1, WP.run_range2, decide_eq_true_eq, decide_eq_false_iff_not, Bool.not_eq_true', Bool.not_eq_false'])
  exact ⟨c.ok1 h, ⟨c.wl1 h, c.ok2 h⟩, z⟩
theorem is_land_is {ch : List Str} (c : Ch ch) (q : Sq) : Is (is_landM ch q) (isLd ch q) :=
  Is.ret (Is.and (Is.b2 Is.pure Is.pure (is_square_is c q)) fun h => Is.b2 (Is.sign c h) Is.pure Is.pure)
def side_neighboursM (a_square : Sq) : WP (List Sq) := (WP.pure a_square).bind fun a1_row_column => (WP.row (WP.consE (WP.pair (WP.sub (WP.pure a1_row_column.1) (WP.pure (1 : Int))) (WP.pure a1_row_column.2)) (WP.consE (WP.pair (WP.pure a1_row_column.1) (WP.sub (WP.pure a1_row_column.2) (WP.pure (1 : Int)))) (WP.consE (WP.pair (WP.pure a1_row_column.1) (WP.add (WP.pure a1_row_column.2) (WP.pure (1 : Int)))) (WP.consE (WP.pair (WP.add (WP.pure a1_row_column.1) (WP.pure (1 : Int))) (WP.pure a1_row_column.2)) (WP.pure ([] : List Sq))))))).bind fun r2 => (WP.pure r2)
theorem side_neighbours_is (q : Sq) : Is (side_neighboursM q) (sides q) := fun n Q z => ⟨by simp, z⟩
theorem rch_land {ch : List Str} {s q : Sq} (h : Rch (ldBeside ch) s q) : q = s ∨ isLd ch q = true := by
  induction h with
  | refl => exact .inl rfl
  | step _ h _ => exact .inr (List.mem_filter.mp h).2
end Y

/-! plain facts: texts of signs, reliefs -/
namespace Y
open PySem L2
theorem join_nil (ys : List Str) : (Txt.join (Str.ofString "") ys).cps.toList = (ys.map fun y => y.cps.toList).flatten := by
  show (Builtin.Str.glued (Str.ofString "") ys).cps.toList = _
  rw [StrLaws.glued_eq_join]
  have := TL.tl_join (Str.ofString "") ys
  have e0 : TL.tl (Str.ofString "") = [] := by decide +kernel
  rw [e0] at this
  have e1 : ∀ l : List (List Nat), TL.joinL [] l = l.flatten := fun l => by
    induction l with
    | nil => rfl
    | cons a l ih => cases l with
      | nil => simp [TL.joinL]
      | cons b l =>
        show a ++ ([] ++ TL.joinL [] (b :: l)) = _
        rw [ih]; simp
  rw [e1] at this
  exact this
def mkS (cs : List Nat) : Str := ⟨cs.toArray⟩
theorem str_ext {a b : Str} (h : a.cps.toList = b.cps.toList) : a = b := by
  obtain ⟨a⟩ := a
  obtain ⟨b⟩ := b
  have : a = b := by
    have h' : a.toList = b.toList := h
    exact Array.toList_inj.mp h'
  rw [this]
theorem mkS_tl (s : Str) : mkS s.cps.toList = s := by
  obtain ⟨a⟩ := s
  unfold mkS
  simp
theorem tl_mkS (cs : List Nat) : (mkS cs).cps.toList = cs := by unfold mkS; simp
theorem mkS_len (cs : List Nat) : (mkS cs).length = cs.length := by
  show (mkS cs).cps.size = _
  unfold mkS; simp
theorem tl_len (s : Str) : s.cps.toList.length = s.length := Array.length_toList
theorem join1 (cs : List Nat) : Txt.join (Str.ofString "") (cs.map fun c => (⟨#[c]⟩ : Str)) = mkS cs := by
  apply str_ext
  rw [join_nil, tl_mkS, List.map_map]
  induction cs with
  | nil => rfl
  | cons c cs ih => rw [List.map_cons, List.flatten_cons, ih]; rfl
theorem ones (cs : List Nat) : ((cs.map fun c => (⟨#[c]⟩ : Str)).map (·.length)).sum = cs.length := by
  induction cs with
  | nil => rfl
  | cons c cs ih =>
    rw [List.map_cons, List.map_cons, List.sum_cons, ih, List.length_cons]
    have : (⟨#[c]⟩ : Str).length = 1 := rfl
    omega
theorem join1_is {w : WP (List Str)} {cs : List Nat} (h : Is w (cs.map fun c => (⟨#[c]⟩ : Str))) (hl : cs.length ≤ 100000) : Is (WP.join (WP.pure (Str.ofString "")) w) (mkS cs) := Is.pure.bind (h.bind ((Is.req (by
  rw [ones, List.length_map]
  have : (Str.ofString "").length = 0 := by decide +kernel
  rw [this]; omega)).eq (join1 cs)))
/-! digits -/
theorem dig_cases {P : Nat → Prop} {c : Nat} (h1 : 48 ≤ c) (h2 : c ≤ 57) (h : P 48 ∧ P 49 ∧ P 50 ∧ P 51 ∧ P 52 ∧ P 53 ∧ P 54 ∧ P 55 ∧ P 56 ∧ P 57) : P c := by
  have : c = 48 ∨ c = 49 ∨ c = 50 ∨ c = 51 ∨ c = 52 ∨ c = 53 ∨ c = 54 ∨ c = 55 ∨ c = 56 ∨ c = 57 := by omega
  rcases this with e | e | e | e | e | e | e | e | e | e <;> subst e <;> simp only [h]
theorem dig_int {c : Nat} (h1 : 48 ≤ c) (h2 : c ≤ 57) : PySem.intText? ⟨#[c]⟩ = some ((c : Int) - 48) :=
  dig_cases (P := fun c => PySem.intText? ⟨#[c]⟩ = some ((c : Int) - 48)) h1 h2 (by decide +kernel)
theorem dig_ix {c : Nat} (h1 : 48 ≤ c) (h2 : c ≤ 57) : Txt.index0 ("0123456789" : Str) ⟨#[c]⟩ = some (c - 48) :=
  dig_cases (P := fun c => Txt.index0 ("0123456789" : Str) ⟨#[c]⟩ = some (c - 48)) h1 h2 (by decide +kernel)
theorem dig_str {d : Int} (h1 : 0 ≤ d) (h2 : d ≤ 9) : (toString d : Str) = ⟨#[48 + d.toNat]⟩ := by
  have := dig_cases (c := 48 + d.toNat) (P := fun c => (toString ((c : Int) - 48) : Str) = ⟨#[c]⟩) (by omega) (by omega) (by decide +kernel)
  have e : (((48 + d.toNat : Nat) : Int) - 48) = d := by omega
  rw [e] at this
  exact this
structure Rel (rel : List Str) : Prop where
  ch : Ch rel
  dg : ∀ s ∈ rel, ∀ c ∈ s.cps.toList, 48 ≤ c ∧ c ≤ 57
def hg (rel : List Str) (q : Sq) : Int := ((ixD (ixD rel q.1).cps.toList q.2 : Nat) : Int) - 48
section
variable {rel : List Str} {q : Sq} (r : Rel rel)
include r
theorem Rel.at (h : isSq rel q = true) : 48 ≤ ixD (ixD rel q.1).cps.toList q.2 ∧ ixD (ixD rel q.1).cps.toList q.2 ≤ 57 := by
  have hh := isSq_iff.mp h
  refine r.dg _ (ixD_mem hh.1 hh.2.1) _ (ixD_mem hh.2.2.1 ?_)
  rw [tl_len, r.ch.len1 h]; exact hh.2.2.2
theorem Rel.hg (h : isSq rel q = true) : 0 ≤ hg rel q ∧ hg rel q ≤ 9 := by
  have := r.at h
  unfold Y.hg
  omega
theorem Rel.sgn (h : isSq rel q = true) : sgn (ixD rel q.1) q.2 = ⟨#[(48 + (Y.hg rel q).toNat)]⟩ := by
  have := r.at h
  unfold Y.sgn Y.hg
  congr 3
  omega
end
def heightM (a_relief : (List Str)) (a_square : Sq) : WP Int := (WP.index (WP.pure ("0123456789" : Str)) (WP.ixS (WP.ix (WP.pure a_relief) (WP.fst (WP.pure a_square))) (WP.snd (WP.pure a_square)))).bind fun r1 => (WP.pure r1)
theorem height_is {rel : List Str} {q : Sq} (r : Rel rel) (h : isSq rel q = true) : Is (heightM rel q) (hg rel q) := by
  have hb := r.hg h
  refine Is.ret (Is.pure.bind ((Is.sign r.ch h).bind ?_))
  rw [r.sgn h]
  show Is (WP.req ((Txt.index0 ("0123456789" : Str) _).isSome = true) _) _
  rw [dig_ix (by omega) (by omega)]
  refine (Is.req rfl).eq ?_
  show (((48 + (hg rel q).toNat - 48 : Nat)) : Int) = _
  omega
def law_highM (a_relief : (List Str)) (a_square : Sq) : WP Int := (WP.int' (WP.ixS (WP.ix (WP.pure a_relief) (WP.fst (WP.pure a_square))) (WP.snd (WP.pure a_square)))).bind fun r1 => (WP.pure r1)
theorem law_high_is {rel : List Str} {q : Sq} (r : Rel rel) (h : isSq rel q = true) : Is (law_highM rel q) (hg rel q) := by
  have hb := r.hg h
  refine Is.ret ((Is.sign r.ch h).bind ?_)
  rw [r.sgn h, dig_int (by omega) (by omega)]
  refine (Is.req ⟨rfl, by show 1 ≤ 640; decide⟩).eq ?_
  show ((48 + (hg rel q).toNat : Nat) : Int) - 48 = _
  omega
/-! the chart at a level -/
def lvS (L : Int) (s : Str) : Str := mkS (s.cps.toList.map fun (c : Nat) => if L ≤ (c : Int) - 48 then 120 else 46)
def lvl (rel : List Str) (L : Int) : List Str := rel.map (lvS L)
theorem lvS_len (L : Int) (s : Str) : (lvS L s).length = s.length := by
  unfold lvS
  rw [mkS_len, List.length_map, tl_len]
theorem ixD_map {α β : Type} [Inhabited α] [Inhabited β] {xs : List α} {f : α → β} {i : Int} (h0 : 0 ≤ i) (h : i < xs.length) : ixD (xs.map f) i = f (ixD xs i) := by
  obtain ⟨h1, e1⟩ := ixD_get h0 h
  obtain ⟨h2, e2⟩ := ixD_get (xs := xs.map f) h0 (by rw [List.length_map]; exact h)
  rw [e1, e2, List.getElem_map]
theorem lvl_wid {rel : List Str} (c : Ch rel) (L : Int) : wid (lvl rel L) = wid rel := by
  unfold wid lvl
  rw [ixD_map (by omega) (by have := c.ne; omega), lvS_len]
theorem lvl_sq {rel : List Str} (c : Ch rel) (L : Int) (q : Sq) : isSq (lvl rel L) q = isSq rel q := by
  unfold isSq
  rw [lvl_wid c]
  unfold lvl
  rw [List.length_map]
theorem lvl_ch {rel : List Str} (c : Ch rel) (L : Int) : Ch (lvl rel L) := by
  refine ⟨by unfold lvl; rw [List.length_map]; exact c.ne, by unfold lvl; rw [List.length_map]; exact c.hl, fun s hs => ?_, by rw [lvl_wid c]; exact c.w0, by rw [lvl_wid c]; exact c.wl⟩
  obtain ⟨t, ht, rfl⟩ := List.mem_map.mp hs
  rw [lvS_len, lvl_wid c]; exact c.w t ht
theorem lvl_ld {rel : List Str} (r : Ch rel) (L : Int) (q : Sq) : isLd (lvl rel L) q = (isSq rel q && decide (L ≤ hg rel q)) := by
  unfold isLd
  rw [lvl_sq r]
  cases h : isSq rel q with
  | false => rfl
  | true =>
    have hh := isSq_iff.mp h
    rw [Bool.true_and, Bool.true_and]
    have e : sgn (ixD (lvl rel L) q.1) q.2 = ⟨#[if L ≤ hg rel q then 120 else 46]⟩ := by
      unfold lvl
      rw [ixD_map hh.1 hh.2.1]
      unfold sgn lvS hg
      rw [tl_mkS, ixD_map hh.2.2.1 (by rw [tl_len, r.len1 h]; exact hh.2.2.2)]
    rw [e]
    by_cases g : L ≤ hg rel q
    · rw [if_pos g, decide_eq_true g]; decide +kernel
    · rw [if_neg g, decide_eq_false g]; decide +kernel
def chart_atM (a_relief : (List Str)) (a_level : Int) : WP (List Str) := (WP.row (WP.pure ([] : List Str))).bind fun a1_rows => (WP.pure a_relief).bind fun xs2 => WP.after (WP.loop (γ := (List Str)) (fun c2 (y2 : (List Str)) => ((WP.join (WP.pure (Str.ofString "")) (WP.lc (WP.signs (WP.pure c2)) (fun c1 => (WP.pure true)) (fun c1 => (WP.ite (WP.ge (WP.index (WP.pure ("0123456789" : Str)) (WP.pure c1)) (WP.pure a_level)) (WP.pure ("x" : Str)) (WP.pure ("." : Str)))))).bind fun a => WP.req (y2.length < 100000) (y2 ++ [a])).bind fun a3_rows => (WP.pure (.nx a3_rows))) xs2 a1_rows) (fun (z2 : (List Str)) => ((WP.pure z2).bind fun xs => WP.pure (α := List _) xs).bind fun r4 => (WP.pure r4)) (fun r => (WP.pure r))
theorem signs_map (s : Str) : signs s = s.cps.toList.map fun c => (⟨#[c]⟩ : Str) := rfl
theorem chart_at_is {rel : List Str} (r : Rel rel) (L : Int) : Is (chart_atM rel L) (lvl rel L) := by
  refine (Is.req (by simp)).bind (Is.pure.bind ?_)
  refine Is.loop (fun i => (rel.take i).map (lvS L)) rfl (fun i s hs => ?_) ?_
  · have hm := List.mem_of_getElem? hs
    have hil : i < rel.length := (List.getElem?_eq_some_iff.mp hs).1
    have hhl := r.ch.hl
    have hw := r.ch.w s hm
    have hwl := r.ch.wl
    refine Is.bind (a := (rel.take (i + 1)).map (lvS L)) (Is.bind (a := lvS L s) ?_ ((Is.req (by rw [List.length_map, List.length_take]; omega)).eq ?_)) Is.pure
    · refine join1_is (h := ?_) (by rw [List.length_map, tl_len]; omega)
      rw [List.map_map]
      have e : Is (WP.lc (WP.signs (WP.pure s)) (fun c1 => (WP.pure true)) (fun c1 => (WP.ite (WP.ge (WP.index (WP.pure ("0123456789" : Str)) (WP.pure c1)) (WP.pure L)) (WP.pure ("x" : Str)) (WP.pure ("." : Str))))) ((signs s).map fun z => if L ≤ (((Txt.index0 ("0123456789" : Str) z).getD 0 : Nat) : Int) then ("x" : Str) else ("." : Str)) :=
        Is.lcM (Is.pure.bind Is.pure) (by rw [signs_map, List.length_map, tl_len]; omega) fun x hx => by
          rw [signs_map] at hx
          obtain ⟨c, hc, rfl⟩ := List.mem_map.mp hx
          obtain ⟨h1, h2⟩ := r.dg s hm c hc
          refine Is.eq (Is.ite (x := decide (L ≤ _)) (Is.b2 (Is.b2 Is.pure Is.pure (Is.req ?_)) Is.pure Is.pure) (fun _ => Is.pure) (fun _ => Is.pure)) ?_
          · rw [dig_ix h1 h2]; rfl
          · simp only [decide_eq_true_eq]
      refine e.eq ?_
      rw [signs_map, List.map_map]
      refine List.map_congr_left fun c hc => ?_
      obtain ⟨h1, h2⟩ := r.dg s hm c hc
      show (if L ≤ (((Txt.index0 ("0123456789" : Str) ⟨#[c]⟩).getD 0 : Nat) : Int) then ("x" : Str) else ("." : Str)) = (⟨#[if L ≤ (c : Int) - 48 then 120 else 46]⟩ : Str)
      rw [dig_ix h1 h2]
      show (if L ≤ ((c - 48 : Nat) : Int) then ("x" : Str) else ("." : Str)) = _
      have e : ((c - 48 : Nat) : Int) = (c : Int) - 48 := by omega
      rw [e]
      by_cases g : L ≤ (c : Int) - 48
      · rw [if_pos g, if_pos g]; decide +kernel
      · rw [if_neg g, if_neg g]; decide +kernel
    · rw [List.take_add_one, hs]
      simp
  · rw [List.take_length]
    exact Is.pure
/-! joined at a level -/
def Jn (rel : List Str) (L : Int) (a b : Sq) : Prop := Rch (ldBeside (lvl rel L)) a b
theorem mem_ldB {ch : List Str} {p q : Sq} : q ∈ ldBeside ch p ↔ q ∈ sides p ∧ isLd ch q = true := by
  unfold ldBeside
  rw [List.mem_filter]
theorem rch_symm {ch : List Str} {a b : Sq} (ha : isLd ch a = true) (h : Rch (ldBeside ch) a b) : Rch (ldBeside ch) b a := by
  induction h with
  | refl => exact .refl
  | @step p q hp hq ih =>
    have hp' : isLd ch p = true := by
      rcases rch_land hp with e | e
      · rw [e]; exact ha
      · exact e
    exact (Rch.one (mem_ldB.mpr ⟨sides_symm (mem_ldB.mp hq).1, hp'⟩)).trans ih
theorem Jn.mono {rel : List Str} {L L' : Int} {a b : Sq} (r : Rel rel) (hl : L ≤ L') (h : Jn rel L' a b) : Jn rel L a b :=
  Rch.mono (fun p q hq => by
    obtain ⟨h1, h2⟩ := mem_ldB.mp hq
    rw [lvl_ld r.ch, Bool.and_eq_true, decide_eq_true_eq] at h2
    refine mem_ldB.mpr ⟨h1, ?_⟩
    rw [lvl_ld r.ch, Bool.and_eq_true, decide_eq_true_eq]
    exact ⟨h2.1, by omega⟩) h
theorem Jn.symm {rel : List Str} {L : Int} {a b : Sq} (r : Rel rel) (ha : isSq rel a = true) (hl : L ≤ hg rel a) (h : Jn rel L a b) : Jn rel L b a :=
  rch_symm (by rw [lvl_ld r.ch, ha, decide_eq_true hl]; rfl) h
/-- in a chart that is all land all is joined -/
theorem rch_full {ch : List Str} (h : ∀ q, isSq ch q = true → isLd ch q = true) {a b : Sq} (ha : isSq ch a = true) (hb : isSq ch b = true) : Rch (ldBeside ch) a b := by
  have step : ∀ {p q : Sq}, isSq ch q = true → q ∈ sides p → Rch (ldBeside ch) p q := fun hq hs => Rch.one (mem_ldB.mpr ⟨hs, h _ hq⟩)
  have rows : ∀ n : Nat, ∀ c : Int, isSq ch ((n : Int), c) = true → Rch (ldBeside ch) (0, c) ((n : Int), c) := fun n => by
    induction n with
    | zero => intro c _; exact .refl
    | succ n ih =>
      intro c hc
      have hh := isSq_iff.mp hc
      have : isSq ch ((n : Int), c) = true := isSq_iff.mpr ⟨by show (0 : Int) ≤ n; omega, by have := hh.2.1; simp only at this ⊢; omega, hh.2.2⟩
      refine (ih c this).trans (step hc ?_)
      simp [sides]
  have cols : ∀ n : Nat, isSq ch (0, (n : Int)) = true → Rch (ldBeside ch) (0, 0) (0, (n : Int)) := fun n => by
    induction n with
    | zero => intro _; exact .refl
    | succ n ih =>
      intro hc
      have hh := isSq_iff.mp hc
      have : isSq ch (0, (n : Int)) = true := isSq_iff.mpr ⟨hh.1, hh.2.1, by show (0 : Int) ≤ n; omega, by have := hh.2.2.2; simp only at this ⊢; omega⟩
      refine (ih this).trans (step hc ?_)
      simp [sides]
  have zero : ∀ q : Sq, isSq ch q = true → isSq ch (0, 0) = true ∧ Rch (ldBeside ch) (0, 0) q := fun q hq => by
    have hh := isSq_iff.mp hq
    obtain ⟨r, c⟩ := q
    simp only at hh
    have h0 : isSq ch (0, c) = true := isSq_iff.mpr ⟨Int.le_refl _, by show (0 : Int) < _; omega, hh.2.2⟩
    have h00 : isSq ch (0, 0) = true := isSq_iff.mpr ⟨Int.le_refl _, by show (0 : Int) < _; omega, Int.le_refl _, by show (0 : Int) < _; omega⟩
    have e1 : ((r.toNat : Nat) : Int) = r := by omega
    have e2 : ((c.toNat : Nat) : Int) = c := by omega
    have g1 := cols c.toNat (by rw [e2]; exact h0)
    have g2 := rows r.toNat c (by rw [e1]; exact hq)
    rw [e2] at g1
    rw [e1] at g2
    exact ⟨h00, g1.trans g2⟩
  have g := zero a ha
  exact (rch_symm (h _ g.1) g.2).trans (zero b hb).2
theorem Jn.zero {rel : List Str} (r : Rel rel) {a b : Sq} (ha : isSq rel a = true) (hb : isSq rel b = true) : Jn rel 0 a b := by
  refine rch_full (fun q hq => ?_) (by rw [lvl_sq r.ch]; exact ha) (by rw [lvl_sq r.ch]; exact hb)
  rw [lvl_sq r.ch] at hq
  rw [lvl_ld r.ch, hq, decide_eq_true (r.hg hq).1]; rfl
structure Sad (rel : List Str) (a b : Sq) (L : Int) : Prop where
  lo : 0 ≤ L
  la : L ≤ hg rel a
  lb : L ≤ hg rel b
  j : Jn rel L a b
  top : ∀ L', L < L' → L' ≤ hg rel a → L' ≤ hg rel b → ¬ Jn rel L' a b
theorem Sad.inj {rel : List Str} {a b : Sq} {L L' : Int} (h : Sad rel a b L) (h' : Sad rel a b L') : L = L' := by
  rcases Int.lt_trichotomy L L' with g | g | g
  · exact absurd h'.j (h.top L' g h'.la h'.lb)
  · exact g
  · exact absurd h.j (h'.top L g h.la h.lb)
theorem Sad.symm {rel : List Str} (r : Rel rel) {a b : Sq} (ha : isSq rel a = true) (hb : isSq rel b = true) {L : Int} (h : Sad rel a b L) : Sad rel b a L :=
  ⟨h.lo, h.lb, h.la, h.j.symm r ha h.la, fun L' h1 h2 h3 h4 => h.top L' h1 h3 h2 (h4.symm r hb h2)⟩
end Y

/-! plain facts: draws, drawn reliefs, tables over all squares -/
namespace Y
open PySem L2
/-! all squares, gone through -/
def colsTo (r j : Nat) : List Sq := (List.range j).map fun (c : Nat) => (((r : Int), (c : Int)) : Sq)
def rowsTo (ch : List Str) (i : Nat) : List Sq := (List.range i).flatMap fun (r : Nat) => colsTo r (wid ch)
theorem colsTo_succ (r j : Nat) : colsTo r (j + 1) = colsTo r j ++ [((r : Int), (j : Int))] := by
  unfold colsTo
  rw [List.range_succ, List.map_append]; rfl
theorem rowsTo_succ {ch : List Str} {i : Nat} : rowsTo ch i ++ colsTo i (wid ch) = rowsTo ch (i + 1) := by
  unfold rowsTo
  rw [List.range_succ, List.flatMap_append]
  simp
theorem rowsTo_all (ch : List Str) : rowsTo ch ch.length = allSq ch := rfl
theorem rowsTo_len (ch : List Str) (i : Nat) : (rowsTo ch i).length = i * wid ch := by
  unfold rowsTo
  rw [flatMap_len _ _ (wid ch) (fun x _ => by unfold colsTo; simp), List.length_range]
theorem all_small {ch : List Str} (c : Ch ch) {i j : Nat} (hi : i < ch.length) (hj : j < wid ch) : (rowsTo ch i ++ colsTo i j).length < 100000 := by
  have h2 : (colsTo i j).length = j := by unfold colsTo; simp
  rw [List.length_append, rowsTo_len, h2]
  have := Nat.mul_le_mul (show i ≤ 300 by have := c.hl; omega) c.wl
  have := c.wl
  omega
def law_allM (a_relief : (List Str)) : WP (List Sq) := (WP.row (WP.pure ([] : List Sq))).bind fun a1_found => (WP.range1 (WP.len (WP.pure a_relief))).bind fun xs2 => WP.after (WP.loop (γ := (List Sq)) (fun c2 (y2 : (List Sq)) => (WP.range1 (WP.lenS (WP.ix (WP.pure a_relief) (WP.pure (0 : Int))))).bind fun xs3 => WP.after (WP.loop (γ := (List Sq)) (fun c3 (y3 : (List Sq)) => ((WP.pair (WP.pure c2) (WP.pure c3)).bind fun a => WP.req (y3.length < 100000) (y3 ++ [a])).bind fun a4_found => (WP.pure (.nx a4_found))) xs3 y2) (fun (z3 : (List Sq)) => (WP.pure (.nx z3))) (fun r => (WP.pure (.rt r)))) xs2 a1_found) (fun (z2 : (List Sq)) => (WP.pure z2)) (fun r => (WP.pure r))
theorem Is.range1 {w : WP Int} {k : Nat} (h : Is w (k : Int)) (hk : k ≤ 100000) : Is (WP.range1 w) (rangeL 0 (k : Int)) := h.bind (Is.req ⟨by omega, by omega⟩)
theorem law_all_is {ch : List Str} (c : Ch ch) : Is (law_allM ch) (allSq ch) := by
  have hh := c.hl
  have hw := c.wl
  refine (Is.req (by simp)).bind ((Is.range1 (Is.len Is.pure) (by omega)).bind ?_)
  refine Is.loop (fun i => rowsTo ch i) rfl (fun i a ha => ?_) ?_
  · obtain ⟨rfl, hi⟩ := rangeL0_get ha
    refine (Is.range1 (Is.wid0 c) (by omega)).bind ?_
    refine Is.loop (fun j => rowsTo ch i ++ colsTo i j) (by simp [colsTo]) (fun j b hb => ?_) ?_
    · obtain ⟨rfl, hj⟩ := rangeL0_get hb
      refine Is.bind (a := rowsTo ch i ++ colsTo i (j + 1)) (Is.bind (Is.b2 Is.pure Is.pure Is.pure) ((Is.req (all_small c (by omega) (by omega))).eq ?_)) Is.pure
      rw [colsTo_succ, List.append_assoc]
    · rw [rangeL0_len, Int.toNat_natCast, rowsTo_succ]
      exact Is.pure
  · rw [rangeL0_len, Int.toNat_natCast, rowsTo_all]
    exact Is.pure
/-! tables -/
section
variable {β : Type}
end
/-! ### the widest ways, by raising -/
structure Snd (rel : List Str) (s : Sq) (f : Sq → Int) : Prop where
  at' : f s = hg rel s
  all : ∀ q, isSq rel q = true → f q = -1 ∨ (0 ≤ f q ∧ f q ≤ hg rel q ∧ f q ≤ hg rel s ∧ Jn rel (f q) s q)
def law_sidesM (a_square : Sq) : WP (List Sq) := side_neighboursM a_square
/-- within a round -/
structure Rn (rel : List Str) (s : Sq) (f f' : Sq → Int) (c : Bool) : Prop where
  snd : Snd rel s f'
  le : ∀ q, isSq rel q = true → f q ≤ f' q
  same : c = false → f' = f
end Y

/-! plain facts: what laws draw -/
namespace Y
open PySem L2
theorem Draws.comp {α β : Type} {f : α → WP β} {k : Nat} {P : β → Prop} : ∀ {xs : List α}, (∀ x ∈ xs, Draws (f x) k P) → Draws (WP.comp (fun _ => WP.pure true) f xs) (xs.length * k) (fun ys => ys.length = xs.length ∧ ∀ y ∈ ys, P y)
  | [], _ => fun n Q _ q => q n [] (Nat.le_refl _) (by omega) ⟨rfl, fun _ h => by cases h⟩
  | x :: xs, h => fun n Q hn q => by
    have e : (x :: xs).length * k = xs.length * k + k := by rw [List.length_cons, Nat.succ_mul]
    refine h x List.mem_cons_self n _ (by omega) fun m y h1 h2 hy => ?_
    refine Draws.comp (fun z m => h z (List.mem_cons_of_mem _ m)) m _ (by omega) fun m' ys h3 h4 ⟨hl, hys⟩ => ?_
    refine q m' (y :: ys) (by omega) (by omega) ⟨by rw [List.length_cons, List.length_cons, hl], fun z hz => ?_⟩
    rcases List.mem_cons.mp hz with e | hz
    · rw [e]; exact hy
    · exact hys z hz
theorem Draws.lcM {α β : Type} {w : WP (List α)} {xs : List α} {f : α → WP β} {k : Nat} {P : β → Prop} (hw : Is w xs) (hl : xs.length ≤ 100000) (h : ∀ x ∈ xs, Draws (f x) k P) : Draws (WP.lc w (fun _ => WP.pure true) f) (xs.length * k) (fun ys => ys.length = xs.length ∧ ∀ y ∈ ys, P y) := fun n Q hn q =>
  hw n _ ⟨hl, Draws.comp h n Q hn q⟩
/-- what a grid of numbers is -/
structure NGrid (G : List (List Int)) (k m : Nat) : Prop where
  len : G.length = k
  row : ∀ r ∈ G, r.length = m ∧ ∀ d ∈ r, 0 ≤ d ∧ d ≤ 9
def rowT (r : List Int) : Str := mkS (r.map fun d => 48 + d.toNat)
theorem rel_of {G : List (List Int)} {k m : Nat} (g : NGrid G k m) (hk : 0 < k) (hk2 : k ≤ 300) (hm : 0 < m) (hm2 : m ≤ 300) : Rel (G.map rowT) ∧ (G.map rowT).length = k ∧ wid (G.map rowT) = m := by
  have hw : ∀ s ∈ G.map rowT, s.length = m := fun s hs => by
    obtain ⟨r, hr, rfl⟩ := List.mem_map.mp hs
    unfold rowT
    rw [mkS_len, List.length_map]
    exact (g.row r hr).1
  have hl : (G.map rowT).length = k := by rw [List.length_map]; exact g.len
  have hwid : wid (G.map rowT) = m := hw _ (ixD_mem (by omega) (by omega))
  refine ⟨⟨⟨by omega, by omega, fun s hs => by rw [hwid]; exact hw s hs, by omega, by omega⟩, fun s hs c hc => ?_⟩, hl, hwid⟩
  obtain ⟨r, hr, rfl⟩ := List.mem_map.mp hs
  unfold rowT at hc
  rw [tl_mkS] at hc
  obtain ⟨d, hd, rfl⟩ := List.mem_map.mp hc
  have := (g.row r hr).2 d hd
  omega
theorem setL_mem {α : Type} {xs : List α} {r : Int} {v x : α} (h : x ∈ setL xs r v) : x ∈ xs ∨ x = v := by
  unfold setL at h
  split at h
  · exact (List.mem_or_eq_of_mem_set h)
  · exact .inl h
theorem setL_len {α : Type} (xs : List α) (r : Int) (v : α) : (setL xs r v).length = xs.length := by
  unfold setL
  split
  · rw [List.length_set]
  · rfl
theorem NGrid.set {G : List (List Int)} {k m : Nat} (g : NGrid G k m) {r c v : Int} (hr : 0 ≤ r) (hr2 : r < k) (h0 : 0 ≤ v) (h9 : v ≤ 9) : NGrid (setG G r c v) k m := by
  unfold setG
  refine ⟨by rw [setL_len]; exact g.len, fun x hx => ?_⟩
  rcases setL_mem hx with hx | rfl
  · exact g.row x hx
  · have hm := ixD_mem (xs := G) hr (by rw [g.len]; exact hr2)
    refine ⟨by rw [setL_len]; exact (g.row _ hm).1, fun d hd => ?_⟩
    rcases setL_mem hd with hd | rfl
    · exact (g.row _ hm).2 d hd
    · exact ⟨h0, h9⟩
theorem Draws.loop {s α γ ρ : Type} {body : α → s → WP (Ctl s γ)} {xs : List α} {x : s} {f : s → WP ρ} {r : γ → WP ρ} (I : Nat → s → Prop) (k : Nat) {k' : Nat} {P : ρ → Prop} (h0 : I 0 x) (hs : ∀ i a y, xs[i]? = some a → I i y → Draws (body a y) k fun c => ∃ z, c = .nx z ∧ I (i + 1) z) (hd : ∀ y, I xs.length y → Draws (f y) k' P) : Draws (WP.after (WP.loop body xs x) f r) (xs.length * k + k') P := by
  intro n Q hn q
  refine WP.after_inv (fun i m y => i ≤ xs.length ∧ n ≤ m ∧ m ≤ n + i * k ∧ I i y) ⟨Nat.zero_le _, Nat.le_refl _, by omega, h0⟩ (fun i m a y ha hi => ?_) (fun m y hy => ?_)
  · obtain ⟨_, h1, h2, h3⟩ := hi
    have hil : i < xs.length := (List.getElem?_eq_some_iff.mp ha).1
    have := Nat.mul_le_mul_right k (show i + 1 ≤ xs.length from hil)
    have e : (i + 1) * k = i * k + k := Nat.succ_mul i k
    refine hs i a y ha h3 m _ (by omega) fun m' c g1 g2 ⟨z, hz, hI⟩ => ?_
    subst hz
    exact ⟨hil, by omega, by omega, hI⟩
  · obtain ⟨_, h1, h2, h3⟩ := hy
    exact hd y h3 m Q (by omega) fun m' b g1 g2 hb => q m' b (by omega) (by omega) hb
end Y

/-! plain facts: loops that look at all, comprehensions of two clauses, more of the charts -/
namespace Y
open PySem L2
section
variable {α β γ ρ : Type}
theorem Is.loopAll {body : α → Unit → WP (Ctl Unit γ)} {xs : List α} {p : α → Bool} {no : γ} (h : ∀ x ∈ xs, Is (body x ()) (if p x then .nx () else .rt no)) : Is (WP.loop body xs ()) (if xs.all p then .nx () else .rt no) := by
  induction xs with
  | nil => exact Is.pure
  | cons x xs ih =>
    have ih := ih fun y m => h y (List.mem_cons_of_mem _ m)
    refine (h x List.mem_cons_self).bind ?_
    rw [List.all_cons]
    cases e : p x with
    | true => exact ih
    | false => exact Is.pure
theorem Is.afterAll {w : WP (Ctl Unit γ)} {b : Bool} {no : γ} {f : Unit → WP ρ} {r : γ → WP ρ} {z : ρ} (h : Is w (if b then .nx () else .rt no)) (h1 : b = true → Is (f ()) z) (h2 : b = false → Is (r no) z) : Is (WP.after w f r) z := by
  refine h.bind ?_
  cases b with
  | true => exact h1 rfl
  | false => exact h2 rfl
theorem Is.comp1 {c : β → WP Bool} {f : β → WP γ} {p : β → Bool} {g : β → γ} : ∀ {xs : List β} {k : Nat}, k + xs.length ≤ 100000 → (∀ x ∈ xs, Is (c x) (p x)) → (∀ x ∈ xs, p x = true → Is (f x) (g x)) → Is (WP.comp1 c f k xs) ((xs.filter p).map g)
  | [], _, _, _, _ => Is.pure
  | x :: xs, k, hk, h, h' => (h x List.mem_cons_self).bind (by
    rw [List.length_cons] at hk
    rw [List.filter_cons]
    cases e : p x with
    | true => exact (h' x List.mem_cons_self e).bind ((Is.req (by omega)).bind ((Is.comp1 (by omega) (fun y m => h y (List.mem_cons_of_mem _ m)) (fun y m => h' y (List.mem_cons_of_mem _ m))).bind Is.pure))
    | false => exact Is.comp1 (by omega) (fun y m => h y (List.mem_cons_of_mem _ m)) (fun y m => h' y (List.mem_cons_of_mem _ m)))
theorem Is.comp2 {c : α → WP Bool} {w : α → WP (List β)} {c1 : α → β → WP Bool} {f : α → β → WP γ} {ys : α → List β} {g : α → β → γ} : ∀ {xs : List α} {k : Nat}, k + (xs.flatMap fun x => (ys x).map (g x)).length ≤ 100000 → (∀ x ∈ xs, Is (c x) true) → (∀ x ∈ xs, Is (w x) (ys x)) → (∀ x ∈ xs, ∀ y ∈ ys x, Is (c1 x y) true) → (∀ x ∈ xs, ∀ y ∈ ys x, Is (f x y) (g x y)) → Is (WP.comp2 c w c1 f k xs) (xs.flatMap fun x => (ys x).map (g x))
  | [], _, _, _, _, _, _ => Is.pure
  | x :: xs, k, hk, h1, h2, h3, h4 => (h1 x List.mem_cons_self).bind ((h2 x List.mem_cons_self).bind (by
    rw [List.flatMap_cons, List.length_append, List.length_map] at hk
    have e : Is (WP.comp1 (c1 x) (f x) k (ys x)) ((ys x).map (g x)) := by
      have := Is.comp1 (k := k) (p := fun _ => true) (g := g x) (by omega) (fun y m => h3 x List.mem_cons_self y m) (fun y m _ => h4 x List.mem_cons_self y m)
      rwa [List.filter_eq_self.mpr (fun _ _ => rfl)] at this
    refine e.bind ((Is.comp2 (by rw [List.length_map]; omega) (fun y m => h1 y (List.mem_cons_of_mem _ m)) (fun y m => h2 y (List.mem_cons_of_mem _ m)) (fun y m => h3 y (List.mem_cons_of_mem _ m)) (fun y m => h4 y (List.mem_cons_of_mem _ m))).bind ?_)
    rw [List.flatMap_cons]
    exact Is.pure))
theorem Is.ne {α : Type} [DecidableEq α] {a b : WP α} {x y : α} (h : Is a x) (h' : Is b y) : Is (WP.ne a b) (!decide (x = y)) := h.bind (h'.bind Is.pure)
theorem Is.eqv {α : Type} [DecidableEq α] {a b : WP α} {x y : α} (h : Is a x) (h' : Is b y) : Is (WP.eq a b) (decide (x = y)) := h.bind (h'.bind Is.pure)
theorem Is.lenS {w : WP Str} {z : Str} (h : Is w z) (hz : z.length ≤ 100000) : Is (WP.lenS w) ((z.length : Nat) : Int) := h.bind (Is.req hz)
theorem Is.ix [Inhabited α] {w : WP (List α)} {k : WP Int} {xs : List α} {i : Int} (h : Is w xs) (h' : Is k i) (ho : okI xs.length i) : Is (WP.ix w k) (ixD xs i) := h.bind (h'.bind (Is.req ho))
/-- if no: return, else go on -/
theorem Is.guard {s : Type} {t : WP Bool} {b : Bool} {no : γ} {w : WP (Ctl s γ)} {x : Ctl s γ} (h : Is t (!b)) (h1 : b = true → Is w x) : Is (t.bind fun b => WP.cond b ((WP.pure no).bind fun r => WP.pure (.rt r)) w) (if b then x else .rt no) := h.bind (by
  cases b with
  | true => exact h1 rfl
  | false => exact Is.pure)
end
def squares_ofM (a_chart : (List Str)) : WP (List Sq) := (WP.lc2 (WP.range1 (WP.len (WP.pure a_chart))) (fun c1 => (WP.pure true)) (fun c1 => (WP.range1 (WP.lenS (WP.ix (WP.pure a_chart) (WP.pure (0 : Int)))))) (fun c1 d1 => (WP.pure true)) (fun c1 d1 => (WP.pair (WP.pure c1) (WP.pure d1)))).bind fun r1 => (WP.pure r1)
theorem squares_of_is {ch : List Str} (c : Ch ch) : Is (squares_ofM ch) (allSq ch) := by
  have hh := c.hl
  have hw := c.wl
  have e : allSq ch = (rangeL 0 (ch.length : Int)).flatMap fun r => (rangeL 0 (wid ch : Int)).map fun c => (r, c) := by
    unfold allSq rangeL
    simp [List.flatMap_map]
    rfl
  refine Is.ret ((Is.range1 (Is.len Is.pure) (by omega)).bind ?_)
  rw [e]
  refine Is.comp2 (by rw [← e]; have := c.area; omega) (fun _ _ => Is.pure) (fun _ _ => Is.range1 (Is.wid0 c) (by omega)) (fun _ _ _ _ => Is.pure) (fun _ _ _ _ => Is.b2 Is.pure Is.pure Is.pure)
theorem one_eq {c d : Nat} : ((⟨#[c]⟩ : Str) = ⟨#[d]⟩) ↔ c = d := by
  constructor
  · intro h
    injection h with h
    have := congrArg Array.toList h
    simpa using this
  · intro h; rw [h]
theorem x_str : ("x" : Str) = ⟨#[120]⟩ := by decide +kernel
end Y

/-! plain facts: parts of texts and rows -/
namespace Y
open PySem L2
theorem sIx_nat' {n d : Nat} {i : Int} (h0 : 0 ≤ i) (h : i ≤ n) : HT.sIx n d (some i) = i.toNat := by
  have e : i = ((i.toNat : Nat) : Int) := by omega
  rw [e, HT.sIx_nat]
  omega
theorem cutL_hi {α : Type} {xs : List α} {i : Int} (h0 : 0 ≤ i) (h : i ≤ xs.length) : cutL xs (some i) none = xs.drop i.toNat := by
  unfold cutL
  rw [HT.sIx_none, sIx_nat' h0 h]
  exact List.take_of_length_le (by rw [List.length_drop]; omega)
theorem tl_app (a b : Str) : (a ++ b).cps.toList = a.cps.toList ++ b.cps.toList := by
  show (a.cps ++ b.cps).toList = _
  simp
theorem len_appS (a b : Str) : (a ++ b).length = a.length + b.length := by
  rw [← tl_len, tl_app, List.length_append, tl_len, tl_len]
end Y

/-! == of data is equality -/
namespace Y
open PySem L2
open Dat (dat)
class EqD (α : Type) [PyI α] [Dat α] where
  ok : α → Prop
  dep : Nat
  lay : ∀ a : α, ok a → PyData.canLay0 (dat a) = true
  depth : ∀ a : α, PyData.depth (dat a) ≤ dep
  eqv : ∀ a b : α, PyData.eqv (dat a) (dat b) = true ↔ a = b
instance : EqD Int := ⟨fun _ => True, 0, fun _ _ => by simp only [dat, PyData.canLay0], fun _ => by simp only [dat, PyData.depth]; exact Nat.le_refl _, fun a b => by simp only [dat, PyData.eqv]; exact beq_iff_eq⟩
instance : EqD Bool := ⟨fun _ => True, 0, fun _ _ => by simp only [dat, PyData.canLay0], fun _ => by simp only [dat, PyData.depth]; exact Nat.le_refl _, fun a b => by simp only [dat, PyData.eqv]; exact beq_iff_eq⟩
theorem str_beq {a b : Str} : (a == b) = true ↔ a = b := by
  first
    | exact beq_iff_eq
    | simp
instance : EqD Str := ⟨fun s => PyData.canLay0 (.str s) = true, 0, fun _ h => h, fun _ => by simp only [dat, PyData.depth]; exact Nat.le_refl _, fun a b => by simp only [dat, PyData.eqv]; exact str_beq⟩
section
variable {α β : Type} [PyI α] [PyI β] [Dat α] [Dat β] [EqD α] [EqD β]
instance : EqD (α × β) := ⟨fun c => EqD.ok c.1 ∧ EqD.ok c.2, max (EqD.dep α) (EqD.dep β) + 1, fun c h => by
  simp only [dat, PyData.canLay0, PyData.canLayAll0, Bool.and_true]
  rw [Bool.and_eq_true]
  exact ⟨EqD.lay _ h.1, EqD.lay _ h.2⟩, fun c => by
  have h1 := EqD.depth c.1
  have h2 := EqD.depth c.2
  simp only [dat, PyData.depth, PyData.depthAll] at h1 h2 ⊢
  omega, fun a b => by
  have h1 := EqD.eqv a.1 b.1
  have h2 := EqD.eqv a.2 b.2
  obtain ⟨a1, a2⟩ := a
  obtain ⟨b1, b2⟩ := b
  simp only [dat, PyData.eqv, PyData.eqvAll, Bool.and_true] at h1 h2 ⊢
  rw [Bool.and_eq_true, h1, h2, Prod.mk.injEq]⟩
theorem lay_all {xs : List α} (h : ∀ a ∈ xs, EqD.ok a) : PyData.canLayAll0 (xs.map dat) = true := by
  induction xs with
  | nil => simp only [List.map_nil, PyData.canLayAll0]
  | cons x xs ih =>
    simp only [List.map_cons, PyData.canLayAll0]
    rw [Bool.and_eq_true]
    exact ⟨EqD.lay x (h x List.mem_cons_self), ih fun a m => h a (List.mem_cons_of_mem _ m)⟩
theorem depth_all (xs : List α) : PyData.depthAll (xs.map dat) ≤ EqD.dep α := by
  induction xs with
  | nil => simp only [List.map_nil, PyData.depthAll]; exact Nat.zero_le _
  | cons x xs ih =>
    have := EqD.depth x
    simp only [List.map_cons, PyData.depthAll]
    omega
theorem eqv_all : ∀ xs ys : List α, PyData.eqvAll (xs.map dat) (ys.map dat) = true ↔ xs = ys
  | [], [] => by simp [PyData.eqvAll]
  | [], _ :: _ => by simp [PyData.eqvAll]
  | _ :: _, [] => by simp [PyData.eqvAll]
  | x :: xs, y :: ys => by
    simp only [List.map_cons, PyData.eqvAll]
    rw [Bool.and_eq_true, EqD.eqv, eqv_all xs ys, List.cons.injEq]
instance : EqD (List α) := ⟨fun xs => ∀ a ∈ xs, EqD.ok a, EqD.dep α + 1, fun xs h => by
  simp only [dat, PyData.canLay0]
  exact lay_all h, fun xs => by
  have := depth_all xs
  simp only [dat, PyData.depth] at this ⊢
  omega, fun a b => by
  have := eqv_all a b
  simp only [dat, PyData.eqv] at this ⊢
  exact this⟩
instance : EqD (Ls α) := ⟨fun xs => ∀ a ∈ xs.l, EqD.ok a, EqD.dep α + 1, fun xs h => by
  simp only [dat, PyData.canLay0]
  exact lay_all h, fun xs => by
  have := depth_all xs.l
  simp only [dat, PyData.depth] at this ⊢
  omega, fun a b => by
  have := eqv_all a.l b.l
  obtain ⟨a⟩ := a
  obtain ⟨b⟩ := b
  simp only [dat, PyData.eqv] at this ⊢
  rw [this, Ls.mk.injEq]⟩
theorem shaped_of {a : α} (h : EqD.ok a) (hd : EqD.dep α ≤ 64 := by decide) : SeqAt.shaped (dat a) = true := by
  show ((dat a).canLay0 && decide ((dat a).depth ≤ 64)) = true
  rw [Bool.and_eq_true]
  exact ⟨EqD.lay a h, decide_eq_true (Nat.le_trans (EqD.depth a) hd)⟩
theorem shaped_L {xs : List α} (h : ∀ a ∈ xs, EqD.ok a) (hd : EqD.dep α ≤ 63 := by decide) : SeqAt.shaped (.list (xs.map dat)) = true := by
  show (PyData.canLay0 (.list (xs.map dat)) && decide (PyData.depth (.list (xs.map dat)) ≤ 64)) = true
  rw [Bool.and_eq_true]
  have := depth_all xs
  exact ⟨by simp only [PyData.canLay0]; exact lay_all h, decide_eq_true (by simp only [PyData.depth]; omega)⟩
theorem eqv_dec [DecidableEq α] (a b : α) : PyData.eqv (dat a) (dat b) = decide (a = b) := by
  have := EqD.eqv a b
  by_cases h : a = b
  · rw [decide_eq_true h]; exact this.mpr h
  · rw [decide_eq_false h]
    cases e : PyData.eqv (dat a) (dat b) with
    | true => exact absurd (this.mp e) h
    | false => rfl
theorem Is.eqD [DecidableEq α] {a b : WP α} {x y : α} (ha : Is a x) (hb : Is b y) (hx : EqD.ok x) (hy : EqD.ok y) (hd : EqD.dep α ≤ 64 := by decide) : Is (WP.eqD a b) (decide (x = y)) := ha.bind (hb.bind ((Is.req ⟨shaped_of hx hd, shaped_of hy hd⟩).eq (eqv_dec x y)))
theorem Is.neD [DecidableEq α] {a b : WP α} {x y : α} (ha : Is a x) (hb : Is b y) (hx : EqD.ok x) (hy : EqD.ok y) (hd : EqD.dep α ≤ 64 := by decide) : Is (WP.neD a b) (!decide (x = y)) := ha.bind (hb.bind ((Is.req ⟨shaped_of hx hd, shaped_of hy hd⟩).eq (by rw [eqv_dec])))
end
theorem ok_sq (q : Sq) : EqD.ok q := ⟨trivial, trivial⟩
end Y

/-! plain facts: drawn charts, squares set -/
namespace Y
open PySem L2
structure ChO (n m : Int) (ch : List Str) : Prop where
  good : Ch ch
  len : (ch.length : Int) = n
  wd : (wid ch : Int) = m
  sg : ∀ s ∈ ch, ∀ c ∈ s.cps.toList, c = 120 ∨ c = 46
/-- a grid of signs -/
structure SGrid (G : List (List Str)) (k m : Nat) : Prop where
  len : G.length = k
  row : ∀ r ∈ G, r.length = m ∧ ∀ d ∈ r, d = ⟨#[120]⟩ ∨ d = ⟨#[46]⟩
theorem SGrid.set {G : List (List Str)} {k m : Nat} (g : SGrid G k m) {r c : Int} {v : Str} (hr : 0 ≤ r) (hr2 : r < k) (hv : v = ⟨#[120]⟩ ∨ v = ⟨#[46]⟩) : SGrid (setG G r c v) k m := by
  unfold setG
  refine ⟨by rw [setL_len]; exact g.len, fun x hx => ?_⟩
  rcases setL_mem hx with hx | rfl
  · exact g.row x hx
  · have hm := ixD_mem (xs := G) hr (by rw [g.len]; exact hr2)
    refine ⟨by rw [setL_len]; exact (g.row _ hm).1, fun d hd => ?_⟩
    rcases setL_mem hd with hd | rfl
    · exact (g.row _ hm).2 d hd
    · exact hv
theorem Gives.bind {α β : Type} {w : WP α} {P : α → Prop} {f : α → WP β} {P' : β → Prop} (h : Gives w P) (h' : ∀ a, P a → Gives (f a) P') : Gives (w.bind f) P' := fun n Q q => h n _ fun a ha => h' a ha n Q q
theorem Gives.pure {α : Type} {a : α} {P : α → Prop} (h : P a) : Gives (WP.pure a) P := fun n Q q => q a h
theorem Is.gives {α : Type} {w : WP α} {a : α} {P : α → Prop} (h : Is w a) (hp : P a) : Gives w P := fun n Q q => h n Q (q a hp)
theorem Gives.draws {α : Type} {w : WP α} {P : α → Prop} {k : Nat} (h : Gives w P) : Draws w k P := fun n Q _ q => h n Q fun a ha => q n a (Nat.le_refl _) (by omega) ha
theorem Gives.cond {α : Type} {b : Bool} {A B : WP α} {P : α → Prop} (h : b = true → Gives A P) (k : b = false → Gives B P) : Gives (WP.cond b A B) P := by
  cases b with
  | true => exact h rfl
  | false => exact k rfl
theorem Draws.cond {α : Type} {b : Bool} {A B : WP α} {k : Nat} {P : α → Prop} (h : b = true → Draws A k P) (h' : b = false → Draws B k P) : Draws (WP.cond b A B) k P := by
  cases b with
  | true => exact h rfl
  | false => exact h' rfl
abbrev tt {α : Type} : α → Prop := fun _ => True
/-! squares drawn and set -/
def setCh (ch : List Str) (q : Sq) (k : Nat) : List Str := ch.set q.1.toNat (mkS ((ixD ch q.1).cps.toList.set q.2.toNat k))
theorem ixD_set {α : Type} [Inhabited α] {xs : List α} {n : Nat} {a : α} {i : Int} (h0 : 0 ≤ i) (h : i < xs.length) : ixD (xs.set n a) i = if n = i.toNat then a else ixD xs i := by
  obtain ⟨h1, e1⟩ := ixD_get h0 h
  obtain ⟨h2, e2⟩ := ixD_get (xs := xs.set n a) h0 (by rw [List.length_set]; exact h)
  rw [e1, e2, List.getElem_set]
section
variable {ch : List Str} {q : Sq} (c : Ch ch) (h : isSq ch q = true) (k : Nat)
include c h
theorem setCh_wid : wid (setCh ch q k) = wid ch := by
  unfold wid setCh
  rw [ixD_set (by omega) (by have := c.ne; omega)]
  split
  · rw [mkS_len, List.length_set, tl_len, c.len1 h]; rfl
  · rfl
theorem setCh_sq (p : Sq) : isSq (setCh ch q k) p = isSq ch p := by
  unfold isSq
  rw [setCh_wid c h k]
  unfold setCh
  rw [List.length_set]
theorem setCh_ch : Ch (setCh ch q k) := by
  have hl : (setCh ch q k).length = ch.length := by unfold setCh; rw [List.length_set]
  refine ⟨by rw [hl]; exact c.ne, by rw [hl]; exact c.hl, fun s hs => ?_, by rw [setCh_wid c h]; exact c.w0, by rw [setCh_wid c h]; exact c.wl⟩
  rw [setCh_wid c h]
  rcases List.mem_or_eq_of_mem_set hs with hs | hs
  · exact c.w s hs
  · rw [hs, mkS_len, List.length_set, tl_len, c.len1 h]
theorem setCh_ld (p : Sq) : isLd (setCh ch q k) p = if p = q then decide (k = 120) else isLd ch p := by
  have hh := isSq_iff.mp h
  unfold isLd
  rw [setCh_sq c h k]
  cases e : isSq ch p with
  | false =>
    rw [Bool.false_and]
    split
    · rename_i g; subst g; rw [e] at h; cases h
    · rfl
  | true =>
    have hp := isSq_iff.mp e
    rw [Bool.true_and, Bool.true_and]
    have e1 : ixD (setCh ch q k) p.1 = if q.1.toNat = p.1.toNat then mkS ((ixD ch q.1).cps.toList.set q.2.toNat k) else ixD ch p.1 := by
      unfold setCh
      exact ixD_set hp.1 hp.2.1
    rw [e1]
    by_cases g1 : q.1.toNat = p.1.toNat
    · rw [if_pos g1]
      have g1' : q.1 = p.1 := by omega
      have e2 : sgn (mkS ((ixD ch q.1).cps.toList.set q.2.toNat k)) p.2 = ⟨#[if q.2.toNat = p.2.toNat then k else ixD (ixD ch q.1).cps.toList p.2]⟩ := by
        unfold sgn
        rw [tl_mkS, ixD_set hp.2.2.1 (by rw [tl_len, c.len1 h]; exact hp.2.2.2)]
      rw [e2]
      by_cases g2 : q.2.toNat = p.2.toNat
      · have : p = q := by apply Prod.ext <;> omega
        rw [if_pos g2, if_pos this, x_str]
        simp only [one_eq]
      · have : p ≠ q := fun z => g2 (by rw [z])
        rw [if_neg g2, if_neg this, g1']
        rfl
    · have : p ≠ q := fun z => g1 (by rw [z])
      rw [if_neg g1, if_neg this]
end
end Y

/-! plain facts: charts whose signs are told, squares filled one after another -/
namespace Y
open PySem L2
structure GC (ch : List Str) : Prop where
  good : Ch ch
  sg : ∀ s ∈ ch, ∀ c ∈ s.cps.toList, c = 120 ∨ c = 46
theorem GC.of {n m : Int} {c : List Str} (h : ChO n m c) : GC c := ⟨h.good, h.sg⟩
theorem GC.ok {c : List Str} (h : GC c) : EqD.ok c := fun s hs => by
  show PyData.canLay0 (.str s) = true
  simp only [PyData.canLay0]
  unfold PyData.strOk
  rw [Array.all_eq_true_iff_forall_mem]
  intro x hx
  have := h.sg s hs x (by simpa using hx)
  rcases this with e | e <;> rw [e] <;> decide
/-- the same size -/
structure Sz (a b : List Str) : Prop where
  l : a.length = b.length
  w : wid a = wid b
theorem Sz.sq {a b : List Str} (h : Sz a b) (q : Sq) : isSq a q = isSq b q := by unfold isSq; rw [h.l, h.w]
theorem Sz.all {a b : List Str} (h : Sz a b) : allSq a = allSq b := by unfold allSq; rw [h.l, h.w]
theorem Sz.refl (a : List Str) : Sz a a := ⟨rfl, rfl⟩
theorem Sz.symm {a b : List Str} (h : Sz a b) : Sz b a := ⟨h.l.symm, h.w.symm⟩
theorem Sz.trans {a b c : List Str} (h : Sz a b) (h' : Sz b c) : Sz a c := ⟨h.l.trans h'.l, h.w.trans h'.w⟩
theorem sz_set {ch : List Str} {q : Sq} (c : Ch ch) (h : isSq ch q = true) (k : Nat) : Sz (setCh ch q k) ch := ⟨by unfold setCh; rw [List.length_set], setCh_wid c h k⟩
/-! ### squares that lie between -/
def btwB (ch : List Str) (q : Sq) : Bool := ((rangeL 0 q.2).any (fun c => isLd ch (q.1, c)) && (rangeL (q.2 + 1) (wid ch : Int)).any (fun c => isLd ch (q.1, c))) || ((rangeL 0 q.1).any (fun r => isLd ch (r, q.2)) && (rangeL (q.1 + 1) (ch.length : Int)).any (fun r => isLd ch (r, q.2)))
theorem Is.range2 {a b : WP Int} {x y : Int} (h : Is a x) (h' : Is b y) (hx : -1000 ≤ x) (hx' : x ≤ 1000) (hy : -1000 ≤ y) (hy' : y ≤ 1000) : Is (WP.range2 a b) (rangeL x y) := Is.b2 h h' (Is.req ⟨by omega, by omega, by omega, by omega⟩)
theorem Is.range1' {w : WP Int} {k : Int} (h : Is w k) (h0 : -1000 ≤ k) (h1 : k ≤ 1000) : Is (WP.range1 w) (rangeL 0 k) := h.bind (Is.req ⟨by omega, by omega⟩)
def Sub (a b : List Str) : Prop := ∀ q, isLd a q = true → isLd b q = true
theorem btw_mono {a b : List Str} (hs : Sz a b) (h : Sub a b) {q : Sq} (hb : btwB a q = true) : btwB b q = true := by
  unfold btwB at hb ⊢
  rw [← hs.l, ← hs.w]
  have mono : ∀ (xs : List Int) (f : Int → Sq), xs.any (fun c => isLd a (f c)) = true → xs.any (fun c => isLd b (f c)) = true := fun xs f hx => by
    rw [List.any_eq_true] at hx ⊢
    obtain ⟨x, h1, h2⟩ := hx
    exact ⟨x, h1, h _ h2⟩
  rw [Bool.or_eq_true, Bool.and_eq_true, Bool.and_eq_true] at hb ⊢
  rcases hb with ⟨h1, h2⟩ | ⟨h1, h2⟩
  · exact .inl ⟨mono _ (fun c => (q.1, c)) h1, mono _ (fun c => (q.1, c)) h2⟩
  · exact .inr ⟨mono _ (fun r => (r, q.2)) h1, mono _ (fun r => (r, q.2)) h2⟩
def opens (ch : List Str) : List Sq := (allSq ch).filter fun q => !isLd ch q && btwB ch q
theorem mem_opens {ch : List Str} {q : Sq} : q ∈ opens ch ↔ isSq ch q = true ∧ isLd ch q = false ∧ btwB ch q = true := by
  unfold opens
  rw [List.mem_filter, mem_allSq, Bool.and_eq_true, Bool.not_eq_true']
/-! ### one after another -/
def Val : List Str → List Sq → Prop
  | _, [] => True
  | ch, q :: qs => (isSq ch q = true ∧ isLd ch q = false ∧ btwB ch q = true) ∧ Val (setCh ch q 120) qs
def Fin' (ch : List Str) (qs : List Sq) : List Str := qs.foldl (fun c q => setCh c q 120) ch
/-- what is filled lies within every closed chart around -/
theorem within : ∀ {qs : List Sq} {ch D : List Str}, Ch ch → Sz ch D → Val ch qs → Sub ch D → opens D = [] → Sub (Fin' ch qs) D
  | [], _, _, _, _, _, h, _ => h
  | q :: qs, ch, D, c, z, ⟨hq, hv⟩, h, ho => by
    show Sub (Fin' (setCh ch q 120) qs) D
    refine within (setCh_ch c hq.1 120) ((sz_set c hq.1 120).trans z) hv (fun p hp => ?_) ho
    rw [setCh_ld c hq.1] at hp
    split at hp
    · rename_i e
      subst e
      cases e : isLd D p with
      | true => rfl
      | false =>
        have : p ∈ opens D := mem_opens.mpr ⟨by rw [← z.sq]; exact hq.1, e, btw_mono z h hq.2.2⟩
        rw [ho] at this
        cases this
    · exact h p hp
theorem Is.loopNx {s α γ ρ : Type} {body : α → s → WP (Ctl s γ)} {a : α} {as : List α} {x y : s} {f : s → WP ρ} {r : γ → WP ρ} {z : ρ} (h : Is (body a x) (.nx y)) (h' : Is (WP.after (WP.loop body as y) f r) z) : Is (WP.after (WP.loop body (a :: as) x) f r) z := fun n Q q => h n _ (h' n Q q)
theorem Is.loopNil {s α γ ρ : Type} {body : α → s → WP (Ctl s γ)} {x : s} {f : s → WP ρ} {r : γ → WP ρ} {z : ρ} (h : Is (f x) z) : Is (WP.after (WP.loop body [] x) f r) z := fun n Q q => h n Q q
/-! grids of signs of a chart -/
end Y

/-! plain facts: squares of land soaked one after another -/
namespace Y
open PySem L2
def wets (ch : List Str) (q : Sq) : List Sq := (sides q).filter fun p => isSq ch p && !isLd ch p
/-! the wet rim -/
def rimOf (ch : List Str) (q : Sq) : Int := if isLd ch q then 0 else 4 - (((wets ch q).length : Nat) : Int)
def rim (ch : List Str) : Int := ((allSq ch).map (rimOf ch)).sum
end Y

/-! in for data; lengths of displays; chains -/
namespace Y
open PySem L2
open Dat (dat)
theorem any_eqv {α : Type} [PyI α] [Dat α] [EqD α] [DecidableEq α] (x : α) (ys : List α) : ((ys.map dat).any fun z => PyData.eqv z (dat x)) = decide (x ∈ ys) := by
  rw [Bool.eq_iff_iff, List.any_eq_true, decide_eq_true_eq]
  constructor
  · rintro ⟨z, hz, e⟩
    obtain ⟨y, hy, rfl⟩ := List.mem_map.mp hz
    rw [← (EqD.eqv y x).mp e]; exact hy
  · intro h
    exact ⟨dat x, List.mem_map.mpr ⟨x, h, rfl⟩, (EqD.eqv x x).mpr rfl⟩
theorem Is.inD {α : Type} [PyI α] [Dat α] [EqD α] [DecidableEq α] {a : WP α} {b : WP (List α)} {x : α} {ys : List α} (ha : Is a x) (hb : Is b ys) (hx : EqD.ok x) (hy : ∀ y ∈ ys, EqD.ok y) (hd : EqD.dep α ≤ 63 := by decide) : Is (WP.inD a b) (decide (x ∈ ys)) :=
  (Is.b2 ha hb (Is.req ⟨shaped_of hx (by omega), shaped_L hy hd⟩)).eq (any_eqv x ys)
/-! lengths -/
def Le {α : Type} (n : Nat) (xs : List α) : Prop := xs.length ≤ n
theorem Gives.imp {α : Type} {w : WP α} {P P' : α → Prop} (h : Gives w P) (k : ∀ a, P a → P' a) : Gives w P' := fun n Q q => h n Q fun a ha => q a (k a ha)
theorem Gives.b2 {α β γ : Type} {a : WP α} {b : WP β} {f : α → β → WP γ} {P : α → Prop} {P' : β → Prop} {P2 : γ → Prop} (h : Gives a P) (h' : Gives b P') (k : ∀ x y, P x → P' y → Gives (f x y) P2) : Gives (WP.b2 a b f) P2 := h.bind fun x hx => h'.bind fun y hy => k x y hx hy
theorem Gives.req {α : Type} {p : Prop} {a : α} {P : α → Prop} (h : p) (k : P a) : Gives (WP.req p a) P := fun n Q q => ⟨h, q a k⟩
theorem Gives.cat {α : Type} {a b : WP (List α)} {n m : Nat} (h : Gives a (Le n)) (h' : Gives b (Le m)) (k : n + m ≤ 100000) : Gives (WP.cat a b) (Le (n + m)) :=
  Gives.b2 h h' fun xs ys hx hy => Gives.req (by unfold Le at hx hy; omega) (by unfold Le at *; rw [List.length_append]; omega)
theorem cutL_le {α : Type} (xs : List α) (a b : Option Int) : (cutL xs a b).length ≤ xs.length := by
  unfold cutL
  rw [List.length_take, List.length_drop]; omega
theorem Gives.cut {α : Type} {w : WP (List α)} {l h : WP (Option Int)} {n : Nat} (hw : Gives w (Le n)) (hl : Gives l tt) (hh : Gives h tt) : Gives (WP.cut w l h) (Le n) :=
  hw.bind fun xs hx => hl.bind fun _ _ => hh.bind fun _ _ => Gives.pure (Nat.le_trans (cutL_le _ _ _) hx)
theorem Gives.none {α : Type} : Gives (WP.pure (none : Option α)) tt := Gives.pure trivial
theorem Gives.some {w : WP Int} (h : Gives w tt) : Gives (w.bind fun x => WP.pure (some x)) tt := h.bind fun _ _ => Gives.pure trivial
theorem Gives.any {α : Type} {a : α} : Gives (WP.pure a) tt := Gives.pure trivial
theorem Gives.frz {α : Type} {w : WP (List α)} {n : Nat} (h : Gives w (Le n)) : Gives (w.bind fun xs => WP.pure (⟨xs⟩ : Ls α)) (fun x => Le n x.l) := h.bind fun _ hx => Gives.pure hx
/-- a display whose items all keep P -/
def All {α : Type} (P : α → Prop) (n : Nat) (xs : List α) : Prop := xs.length ≤ n ∧ ∀ x ∈ xs, P x
theorem Gives.consE {α : Type} {w : WP α} {ws : WP (List α)} {P : α → Prop} {n : Nat} (h : Gives w P) (h' : Gives ws (All P n)) : Gives (WP.consE w ws) (All P (n + 1)) :=
  Gives.b2 h h' fun x xs hx hs => Gives.pure ⟨by rw [List.length_cons]; have := hs.1; omega, fun y hy => by
    rcases List.mem_cons.mp hy with e | e
    · rw [e]; exact hx
    · exact hs.2 y e⟩
theorem Gives.row {α : Type} {ws : WP (List α)} {P : α → Prop} {n : Nat} (h : Gives ws (All P n)) (hn : n ≤ 100000) : Gives (WP.row ws) (All P n) := h.bind fun xs hx => Gives.req (by have := hx.1; omega) hx
theorem Gives.app {α : Type} {w : WP α} {y : List α} {P : α → Prop} {n : Nat} (h : Gives w P) (hy : All P n y) (hn : n < 100000) : Gives (w.bind fun a => WP.req (y.length < 100000) (y ++ [a])) (All P (n + 1)) := h.bind fun a ha => Gives.req (by have := hy.1; omega) ⟨by have := hy.1; rw [List.length_append, List.length_singleton]; omega, fun z hz => by
    rcases List.mem_append.mp hz with e | e
    · exact hy.2 z e
    · rw [List.mem_singleton.mp e]; exact ha⟩
theorem Gives.pair {α β : Type} {a : WP α} {b : WP β} {P : α → Prop} {P' : β → Prop} (h : Gives a P) (h' : Gives b P') : Gives (WP.pair a b) (fun c => P c.1 ∧ P' c.2) := Gives.b2 h h' fun x y hx hy => Gives.pure ⟨hx, hy⟩
theorem Gives.ix {α : Type} [Inhabited α] {xs : List α} {k : WP Int} {P : α → Prop} {i : Int} (h : Is k i) (ho : okI xs.length i) (hp : P (ixD xs i)) : Gives (WP.ix (WP.pure xs) k) P := (Is.pure.bind (h.bind (Is.req ho)) : Is (WP.ix (WP.pure xs) k) (ixD xs i)).gives hp
theorem Gives.lcM {α β : Type} {w : WP (List α)} {f : α → WP β} {P : β → Prop} {n : Nat} (hw : Gives w (Le n)) (hn : n ≤ 100000) (h : ∀ x, Gives (f x) P) : Gives (WP.lc w (fun _ => WP.pure true) f) (All P n) := by
  intro m Q q
  refine hw m _ fun xs hx => ?_
  unfold Le at hx
  have key : ∀ (ys : List α) (m : Nat) (Q : Nat → List β → Prop), (∀ zs, All P ys.length zs → Q m zs) → (WP.comp (fun _ => WP.pure true) f ys).run m Q := fun ys => by
    induction ys with
    | nil => intro m Q q; exact q [] ⟨Nat.le_refl _, fun _ h => by cases h⟩
    | cons y ys ih =>
      intro m Q q
      refine h y m _ fun z hz => ih m _ fun zs hzs => q _ ⟨by rw [List.length_cons, List.length_cons]; have := hzs.1; omega, fun t ht => ?_⟩
      rcases List.mem_cons.mp ht with e | e
      · rw [e]; exact hz
      · exact hzs.2 t e
  first
    | exact ⟨by omega, key xs m _ fun zs hzs => q zs ⟨by have := hzs.1; omega, hzs.2⟩⟩
    | exact key xs m _ fun zs hzs => q zs ⟨by have := hzs.1; omega, hzs.2⟩
/-! the same with draws -/
theorem Draws.any {α : Type} {a : α} : Draws (WP.pure a) 0 tt := Draws.pure trivial
theorem Draws.b2 {α β γ : Type} {a : WP α} {b : WP β} {f : α → β → WP γ} {P : α → Prop} {P' : β → Prop} {P2 : γ → Prop} {k k' k2 : Nat} (h : Draws a k P) (h' : Draws b k' P') (g : ∀ x y, P x → P' y → Draws (f x y) k2 P2) : Draws (WP.b2 a b f) (k + (k' + k2)) P2 := h.bind fun x hx => h'.bind fun y hy => g x y hx hy
theorem Draws.req {α : Type} {p : Prop} {a : α} {P : α → Prop} (h : p) (k : P a) : Draws (WP.req p a) 0 P := Gives.draws (Gives.req h k)
theorem Draws.cat {α : Type} {a b : WP (List α)} {n m k k' : Nat} (h : Draws a k (Le n)) (h' : Draws b k' (Le m)) (g : n + m ≤ 100000) : Draws (WP.cat a b) (k + (k' + 0)) (Le (n + m)) :=
  Draws.b2 h h' fun xs ys hx hy => Draws.req (by unfold Le at hx hy; omega) (by unfold Le at *; rw [List.length_append]; omega)
theorem Draws.cut {α : Type} {w : WP (List α)} {l h : WP (Option Int)} {n k : Nat} (hw : Draws w k (Le n)) (hl : Gives l tt) (hh : Gives h tt) : Draws (WP.cut w l h) (k + 0) (Le n) :=
  hw.bind fun xs hx => Gives.draws (hl.bind fun _ _ => hh.bind fun _ _ => Gives.pure (Nat.le_trans (cutL_le _ _ _) hx))
theorem Draws.frz {α : Type} {w : WP (List α)} {n k : Nat} (N : Nat) (h : Draws w k (Le n)) (hn : n ≤ N) : Draws (w.bind fun xs => WP.pure (⟨xs⟩ : Ls α)) (k + 0) (fun x => Le N x.l) := h.bind fun _ hx => Draws.pure (Nat.le_trans hx hn)
theorem Draws.consE {α : Type} {w : WP α} {ws : WP (List α)} {P : α → Prop} {n k k' : Nat} (h : Draws w k P) (h' : Draws ws k' (All P n)) : Draws (WP.consE w ws) (k + (k' + 0)) (All P (n + 1)) :=
  Draws.b2 h h' fun x xs hx hs => Draws.pure ⟨by rw [List.length_cons]; have := hs.1; omega, fun y hy => by
    rcases List.mem_cons.mp hy with e | e
    · rw [e]; exact hx
    · exact hs.2 y e⟩
theorem Draws.row {α : Type} {ws : WP (List α)} {P : α → Prop} {n k : Nat} (h : Draws ws k (All P n)) (hn : n ≤ 100000) : Draws (WP.row ws) (k + 0) (All P n) := h.bind fun xs hx => Draws.req (by have := hx.1; omega) hx
theorem Draws.app {α : Type} {w : WP α} {y : List α} {P : α → Prop} {n k : Nat} (h : Draws w k P) (hy : All P n y) (hn : n < 100000) : Draws (w.bind fun a => WP.req (y.length < 100000) (y ++ [a])) (k + 0) (All P (n + 1)) := h.bind fun a ha => Draws.req (by have := hy.1; omega) ⟨by have := hy.1; rw [List.length_append, List.length_singleton]; omega, fun z hz => by
    rcases List.mem_append.mp hz with e | e
    · exact hy.2 z e
    · rw [List.mem_singleton.mp e]; exact ha⟩
/-! chains -/
def Chn {α : Type} (R : α → α → Prop) : List α → Prop
  | [] => True
  | [_] => True
  | a :: b :: l => R a b ∧ Chn R (b :: l)
theorem Chn.tail {α : Type} {R : α → α → Prop} : ∀ {a : α} {l : List α}, Chn R (a :: l) → Chn R l
  | _, [], _ => trivial
  | _, _ :: _, h => h.2
theorem Chn.app {α : Type} {R : α → α → Prop} : ∀ {xs ys : List α}, Chn R xs → Chn R ys → (∀ a b, xs.getLast? = some a → ys.head? = some b → R a b) → Chn R (xs ++ ys)
  | [], _, _, h, _ => h
  | [x], [], _, _, _ => trivial
  | [x], y :: ys, _, h, k => ⟨k x y rfl rfl, h⟩
  | x :: y :: l, ys, h, h', k => ⟨h.1, Chn.app (xs := y :: l) h.2 h' fun a b e e' => k a b (by rw [List.getLast?_cons_cons]; exact e) e'⟩
theorem Chn.left {α : Type} {R : α → α → Prop} : ∀ {xs ys : List α}, Chn R (xs ++ ys) → Chn R xs
  | [], _, _ => trivial
  | [_], _, _ => trivial
  | _ :: y :: l, ys, h => ⟨h.1, Chn.left (xs := y :: l) (ys := ys) h.2⟩
theorem Chn.right {α : Type} {R : α → α → Prop} : ∀ {xs ys : List α}, Chn R (xs ++ ys) → Chn R ys
  | [], _, h => h
  | _ :: l, ys, h => Chn.right (xs := l) (Chn.tail (l := l ++ ys) h)
theorem Chn.take {α : Type} {R : α → α → Prop} {xs : List α} (h : Chn R xs) (n : Nat) : Chn R (xs.take n) := Chn.left (ys := xs.drop n) (by rw [List.take_append_drop]; exact h)
theorem Chn.drop {α : Type} {R : α → α → Prop} {xs : List α} (h : Chn R xs) (n : Nat) : Chn R (xs.drop n) := Chn.right (xs := xs.take n) (by rw [List.take_append_drop]; exact h)
theorem Chn.map {α β : Type} {R : α → α → Prop} {R' : β → β → Prop} {f : α → β} (k : ∀ a b, R a b → R' (f a) (f b)) : ∀ {xs : List α}, Chn R xs → Chn R' (xs.map f)
  | [], _ => trivial
  | [_], _ => trivial
  | _ :: y :: l, h => ⟨k _ _ h.1, Chn.map k (xs := y :: l) h.2⟩
theorem Chn.get {α : Type} {R : α → α → Prop} : ∀ {xs : List α}, Chn R xs → ∀ {i : Nat} {a b : α}, xs[i]? = some a → xs[i + 1]? = some b → R a b
  | [], _, _, _, _, h, _ => by cases h
  | [_], _, 0, _, _, _, h => by cases h
  | [_], _, _ + 1, _, _, h, _ => by cases h
  | x :: y :: l, h, 0, _, _, e, e' => by cases e; cases e'; exact h.1
  | x :: y :: l, h, i + 1, _, _, e, e' => Chn.get (xs := y :: l) h.2 (i := i) e e'
theorem Chn.snoc {α : Type} {R : α → α → Prop} {xs : List α} {b : α} (h : Chn R xs) (k : ∀ a, xs.getLast? = some a → R a b) : Chn R (xs ++ [b]) := h.app trivial fun a c e e' => by cases e'; exact k a e
end Y

/-! sizes: what is drawn and built stays small; rules by the form of the code -/
namespace Y
open PySem L2
class Bdd (α : Type) where
  bd : Nat → α → Prop
  mono : ∀ {n m : Nat} {a : α}, n ≤ m → bd n a → bd m a
instance : Bdd Int := ⟨fun n i => -(n : Int) ≤ i ∧ i ≤ n, fun h q => ⟨by omega, by omega⟩⟩
instance : Bdd Bool := ⟨fun _ _ => True, fun _ q => q⟩
instance : Bdd Unit := ⟨fun _ _ => True, fun _ q => q⟩
instance : Bdd Str := ⟨fun n s => s.length ≤ n, fun h q => Nat.le_trans q h⟩
section
variable {α β γ δ ε s : Type} [Bdd α] [Bdd β] [Bdd γ] [Bdd δ] [Bdd ε] [Bdd s]
instance : Bdd (Option α) := ⟨fun n o => ∀ a, o = some a → Bdd.bd n a, fun h q a e => Bdd.mono h (q a e)⟩
instance : Bdd (α × β) := ⟨fun n c => Bdd.bd n c.1 ∧ Bdd.bd n c.2, fun h q => ⟨Bdd.mono h q.1, Bdd.mono h q.2⟩⟩
instance : Bdd (Tri α β γ) := ⟨fun n c => Bdd.bd n c.a ∧ Bdd.bd n c.b ∧ Bdd.bd n c.c, fun h q => ⟨Bdd.mono h q.1, Bdd.mono h q.2.1, Bdd.mono h q.2.2⟩⟩
instance : Bdd (T4 α β γ δ) := ⟨fun n c => Bdd.bd n c.a ∧ Bdd.bd n c.b ∧ Bdd.bd n c.c ∧ Bdd.bd n c.d, fun h q => ⟨Bdd.mono h q.1, Bdd.mono h q.2.1, Bdd.mono h q.2.2.1, Bdd.mono h q.2.2.2⟩⟩
instance : Bdd (HL2 α β) := ⟨fun n c => Bdd.bd n c.a ∧ Bdd.bd n c.b, fun h q => ⟨Bdd.mono h q.1, Bdd.mono h q.2⟩⟩
instance : Bdd (HL3 α β γ) := ⟨fun n c => Bdd.bd n c.a ∧ Bdd.bd n c.b ∧ Bdd.bd n c.c, fun h q => ⟨Bdd.mono h q.1, Bdd.mono h q.2.1, Bdd.mono h q.2.2⟩⟩
instance : Bdd (List α) := ⟨fun n xs => xs.length ≤ n ∧ ∀ x ∈ xs, Bdd.bd n x, fun h q => ⟨Nat.le_trans q.1 h, fun x m => Bdd.mono h (q.2 x m)⟩⟩
instance : Bdd (Ls α) := ⟨fun n xs => Bdd.bd n xs.l, fun h q => Bdd.mono (α := List α) h q⟩
instance : Bdd (Fd α) := ⟨fun n d => Bdd.bd n d.kvs, fun h q => Bdd.mono (α := List (Sq × α)) h q⟩
instance : Bdd (Ctl s γ) := ⟨fun n c => match c with | .nx z => Bdd.bd n z | .bk z => Bdd.bd n z | .rt r => Bdd.bd n r, fun {n m a} h q => by
  cases a with
  | nx z => exact Bdd.mono (α := s) h q
  | bk z => exact Bdd.mono (α := s) h q
  | rt r => exact Bdd.mono (α := γ) h q⟩
/-- safe, with at most k draws, its value at most n -/
abbrev Sf {α : Type} [Bdd α] (w : WP α) (k n : Nat) : Prop := Draws w k (Bdd.bd n)
theorem Sf.imp {w : WP α} {k k' n n' : Nat} (h : Sf w k n) (hk : k ≤ k') (hn : n ≤ n') : Sf w k' n' := Draws.imp h hk fun _ q => Bdd.mono hn q
theorem Sf.of_is {w : WP α} {a : α} {n : Nat} (h : Is w a) (hb : Bdd.bd n a) : Sf w 0 n := Gives.draws (h.gives hb)
theorem Sf.pure {a : α} {n : Nat} (h : Bdd.bd n a) : Sf (WP.pure a) 0 n := Draws.pure h
theorem Sf.int {i : Int} : Sf (WP.pure i) 0 i.natAbs := Draws.pure ⟨by omega, by omega⟩
theorem Sf.bool {b : Bool} : Sf (WP.pure b) 0 0 := Draws.pure trivial
theorem Sf.nil : Sf (WP.pure ([] : List α)) 0 0 := Draws.pure ⟨Nat.le_refl _, fun _ h => by cases h⟩
theorem Sf.non : Sf (WP.pure (none : Option α)) 0 0 := Draws.pure fun _ h => by cases h
theorem Sf.some {w : WP α} {k n : Nat} (h : Sf w k n) : Sf (w.bind fun x => WP.pure (some x)) k n := Draws.imp (k := k + 0) (h.bind fun a ha => Draws.pure (fun b e => by cases e; exact ha)) (Nat.le_refl _) fun _ h => h
theorem Sf.bind {w : WP α} {f : α → WP β} {k k' n n' : Nat} (h : Sf w k n) (h' : ∀ a, Bdd.bd n a → Sf (f a) k' n') : Sf (w.bind f) (k + k') n' := Draws.bind h h'
theorem Sf.req {P : Prop} {a : α} {n : Nat} (h : Bdd.bd n a) (p : P) : Sf (WP.req P a) 0 n := Draws.req p h
theorem Sf.b2 {a : WP α} {b : WP β} {f : α → β → WP γ} {k k' k2 n n' n2 : Nat} (h : Sf a k n) (h' : Sf b k' n') (g : ∀ x y, Bdd.bd n x → Bdd.bd n' y → Sf (f x y) k2 n2) : Sf (WP.b2 a b f) (k + (k' + k2)) n2 := h.bind fun x hx => h'.bind fun y hy => g x y hx hy
theorem Sf.b3 {a : WP α} {b : WP β} {c : WP δ} {f : α → β → δ → WP γ} {k k' k2 k3 n n' n2 n3 : Nat} (h : Sf a k n) (h' : Sf b k' n') (h2 : Sf c k2 n2) (g : ∀ x y z, Bdd.bd n x → Bdd.bd n' y → Bdd.bd n2 z → Sf (f x y z) k3 n3) : Sf (WP.b3 a b c f) (k + (k' + (k2 + k3))) n3 := h.bind fun x hx => h'.bind fun y hy => h2.bind fun z hz => g x y z hx hy hz
theorem Sf.add {a b : WP Int} {k k' n n' : Nat} (h : Sf a k n) (h' : Sf b k' n') : Sf (WP.add a b) (k + k') (n + n') := Sf.b2 (k2 := 0) h h' fun x y hx hy => Draws.pure ⟨by have := hx.1; have := hy.1; omega, by have := hx.2; have := hy.2; omega⟩
theorem Sf.sub {a b : WP Int} {k k' n n' : Nat} (h : Sf a k n) (h' : Sf b k' n') : Sf (WP.sub a b) (k + k') (n + n') := Sf.b2 (k2 := 0) h h' fun x y hx hy => Draws.pure ⟨by have := hx.1; have := hy.2; omega, by have := hx.2; have := hy.1; omega⟩
theorem abs_mul_le {x y : Int} {n m : Nat} (hx : x.natAbs ≤ n) (hy : y.natAbs ≤ m) : (x * y).natAbs ≤ n * m := by rw [Int.natAbs_mul]; exact Nat.mul_le_mul hx hy
theorem Sf.mul {a b : WP Int} {k k' n n' : Nat} (h : Sf a k n) (h' : Sf b k' n') (hn : n < 2 ^ 64) : Sf (WP.mul a b) (k + k') (n * n') := Sf.b2 (k2 := 0) h h' fun x y hx hy => Draws.req (.inl ⟨by have := hx.1; omega, by have := hx.2; omega⟩) (by
  have := abs_mul_le (x := x) (y := y) (n := n) (m := n') (by have := hx.1; have := hx.2; omega) (by have := hy.1; have := hy.2; omega)
  exact ⟨by omega, by omega⟩)
theorem Sf.neg {a : WP Int} {k n : Nat} (h : Sf a k n) : Sf (WP.neg a) k n := h.bind (k' := 0) fun x hx => Draws.pure ⟨by have := hx.2; omega, by have := hx.1; omega⟩
theorem Sf.lt {a b : WP Int} {k k' n n' : Nat} (h : Sf a k n) (h' : Sf b k' n') : Sf (WP.lt a b) (k + k') 0 := Sf.b2 (k2 := 0) h h' fun _ _ _ _ => Sf.bool
theorem Sf.le {a b : WP Int} {k k' n n' : Nat} (h : Sf a k n) (h' : Sf b k' n') : Sf (WP.le a b) (k + k') 0 := Sf.b2 (k2 := 0) h h' fun _ _ _ _ => Sf.bool
theorem Sf.gt {a b : WP Int} {k k' n n' : Nat} (h : Sf a k n) (h' : Sf b k' n') : Sf (WP.gt a b) (k + k') 0 := Sf.b2 (k2 := 0) h h' fun _ _ _ _ => Sf.bool
theorem Sf.ge {a b : WP Int} {k k' n n' : Nat} (h : Sf a k n) (h' : Sf b k' n') : Sf (WP.ge a b) (k + k') 0 := Sf.b2 (k2 := 0) h h' fun _ _ _ _ => Sf.bool
theorem Sf.eq [DecidableEq α] {a b : WP α} {k k' n n' : Nat} (h : Sf a k n) (h' : Sf b k' n') : Sf (WP.eq a b) (k + k') 0 := Sf.b2 (k2 := 0) h h' fun _ _ _ _ => Sf.bool
theorem Sf.ne [DecidableEq α] {a b : WP α} {k k' n n' : Nat} (h : Sf a k n) (h' : Sf b k' n') : Sf (WP.ne a b) (k + k') 0 := Sf.b2 (k2 := 0) h h' fun _ _ _ _ => Sf.bool
theorem Sf.not {a : WP Bool} {k n : Nat} (h : Sf a k n) : Sf (WP.not a) k 0 := h.bind (k' := 0) fun _ _ => Sf.bool
theorem Sf.cond {b : Bool} {A B : WP α} {k k' n n' : Nat} (h : Sf A k n) (h' : Sf B k' n') : Sf (WP.cond b A B) (max k k') (max n n') := by
  cases b with
  | true => exact h.imp (Nat.le_max_left _ _) (Nat.le_max_left _ _)
  | false => exact h'.imp (Nat.le_max_right _ _) (Nat.le_max_right _ _)
theorem Sf.and {a b : WP Bool} {k k' n n' : Nat} (h : Sf a k n) (h' : Sf b k' n') : Sf (WP.and a b) (k + k') 0 := h.bind fun x _ => (Sf.cond h' Sf.bool).imp (Nat.max_le.mpr ⟨Nat.le_refl _, Nat.zero_le _⟩) (Nat.le_refl _) |> fun z => Draws.imp z (Nat.le_refl _) fun _ _ => trivial
theorem Sf.or {a b : WP Bool} {k k' n n' : Nat} (h : Sf a k n) (h' : Sf b k' n') : Sf (WP.or a b) (k + k') 0 := h.bind fun x _ => (Sf.cond Sf.bool h').imp (Nat.max_le.mpr ⟨Nat.zero_le _, Nat.le_refl _⟩) (Nat.le_refl _) |> fun z => Draws.imp z (Nat.le_refl _) fun _ _ => trivial
theorem Sf.ite {c : WP Bool} {A B : WP α} {k k' k2 n n' n2 : Nat} (h : Sf c k n) (h' : Sf A k' n') (h2 : Sf B k2 n2) : Sf (WP.ite c A B) (k + max k' k2) (max n' n2) := h.bind fun _ _ => Sf.cond h' h2
theorem Sf.chain {C C' : Int → Int → Bool} {a b c : WP Int} {k k' k2 n n' n2 : Nat} (h : Sf a k n) (h' : Sf b k' n') (h2 : Sf c k2 n2) : Sf (WP.chain C C' a b c) (k + (k' + k2)) 0 := h.bind fun x _ => h'.bind fun y _ => (Sf.cond (h2.bind (k' := 0) (n' := 0) fun _ _ => Sf.bool) Sf.bool).imp (Nat.max_le.mpr ⟨Nat.le_refl _, Nat.zero_le _⟩) (Nat.le_refl _)
theorem Sf.fst {w : WP (α × β)} {k n : Nat} (h : Sf w k n) : Sf (WP.fst w) k n := h.bind (k' := 0) fun _ q => Draws.pure q.1
theorem Sf.snd {w : WP (α × β)} {k n : Nat} (h : Sf w k n) : Sf (WP.snd w) k n := h.bind (k' := 0) fun _ q => Draws.pure q.2
theorem Sf.pair {a : WP α} {b : WP β} {k k' n n' : Nat} (h : Sf a k n) (h' : Sf b k' n') : Sf (WP.pair a b) (k + k') (max n n') := Sf.b2 (k2 := 0) h h' fun _ _ hx hy => Draws.pure ⟨Bdd.mono (Nat.le_max_left _ _) hx, Bdd.mono (Nat.le_max_right _ _) hy⟩
theorem Sf.len {w : WP (List α)} {k n : Nat} (h : Sf w k n) : Sf (WP.len w) k n := h.bind (k' := 0) fun xs q => Draws.pure ⟨by omega, by have := q.1; omega⟩
theorem Sf.lenS {w : WP Str} {k n : Nat} (h : Sf w k n) (hn : n ≤ 100000) : Sf (WP.lenS w) k n := h.bind (k' := 0) fun xs q => Draws.req (Nat.le_trans q hn) ⟨by omega, by have : xs.length ≤ n := q; omega⟩
theorem bd_app {xs ys : List α} {n m : Nat} (h : Bdd.bd n xs) (h' : Bdd.bd m ys) : Bdd.bd (n + m) (xs ++ ys) := ⟨by rw [List.length_append]; exact Nat.add_le_add h.1 h'.1, fun z hz => by
  rcases List.mem_append.mp hz with e | e
  · exact Bdd.mono (Nat.le_add_right _ _) (h.2 z e)
  · exact Bdd.mono (Nat.le_add_left _ _) (h'.2 z e)⟩
theorem Sf.cat {a b : WP (List α)} {k k' n n' : Nat} (h : Sf a k n) (h' : Sf b k' n') (hn : n + n' ≤ 100000) : Sf (WP.cat a b) (k + k') (n + n') := Sf.b2 (k2 := 0) h h' fun x y hx hy => Draws.req (by have := hx.1; have := hy.1; omega) (bd_app hx hy)
theorem Sf.catS {a b : WP Str} {k k' n n' : Nat} (h : Sf a k n) (h' : Sf b k' n') (hn : n + n' ≤ 100000) : Sf (WP.catS a b) (k + k') (n + n') := Sf.b2 (k2 := 0) h h' fun x y hx hy => Draws.req (by have : x.length ≤ n := hx; have : y.length ≤ n' := hy; omega) (by show (x ++ y).length ≤ _; rw [len_appS]; exact Nat.add_le_add hx hy)
theorem bd_sub {xs ys : List α} {n : Nat} (h : Bdd.bd n xs) (hl : ys.length ≤ xs.length) (hm : ∀ y ∈ ys, y ∈ xs) : Bdd.bd n ys := ⟨Nat.le_trans hl h.1, fun y m => h.2 y (hm y m)⟩
theorem cutL_mem {xs : List α} {a b : Option Int} {x : α} (h : x ∈ cutL xs a b) : x ∈ xs := List.mem_of_mem_drop (List.mem_of_mem_take h)
theorem Sf.cut {w : WP (List α)} {l h : WP (Option Int)} {k k' k2 n n' n2 : Nat} (hw : Sf w k n) (hl : Sf l k' n') (hh : Sf h k2 n2) : Sf (WP.cut w l h) (k + (k' + k2)) n := Sf.b3 (k3 := 0) hw hl hh fun xs _ _ hx _ _ => Draws.pure (bd_sub hx (cutL_le _ _ _) fun _ m => cutL_mem m)
theorem Sf.frz {w : WP (List α)} {k n : Nat} (h : Sf w k n) : Sf (w.bind fun xs => WP.pure (⟨xs⟩ : Ls α)) k n := h.bind (k' := 0) fun _ q => Draws.pure q
theorem Sf.ret {w : WP α} {k n : Nat} (h : Sf w k n) : Sf (w.bind fun r => WP.pure r) k n := h.bind (k' := 0) fun _ q => Draws.pure q
theorem Sf.consE {w : WP α} {ws : WP (List α)} {k k' n n' : Nat} (h : Sf w k n) (h' : Sf ws k' n') : Sf (WP.consE w ws) (k + k') (max n (n' + 1)) := Sf.b2 (k2 := 0) h h' fun x xs hx hs => Draws.pure ⟨by rw [List.length_cons]; have := hs.1; omega, fun y hy => by
  rcases List.mem_cons.mp hy with e | e
  · rw [e]; exact Bdd.mono (Nat.le_max_left _ _) hx
  · exact Bdd.mono (by omega) (hs.2 y e)⟩
theorem Sf.row {w : WP (List α)} {k n : Nat} (h : Sf w k n) (hn : n ≤ 100000) : Sf (WP.row w) k n := h.bind (k' := 0) fun xs q => Draws.req (Nat.le_trans q.1 hn) q
theorem Sf.app {w : WP α} {y : List α} {k n m : Nat} (h : Sf w k n) (hy : Bdd.bd m y) (hn : m < 100000) : Sf (w.bind fun a => WP.req (y.length < 100000) (y ++ [a])) k (max n (m + 1)) := h.bind (k' := 0) fun a ha => Draws.req (by have := hy.1; omega) ⟨by have := hy.1; rw [List.length_append, List.length_singleton]; omega, fun z hz => by
  rcases List.mem_append.mp hz with e | e
  · exact Bdd.mono (by omega) (hy.2 z e)
  · rw [List.mem_singleton.mp e]; exact Bdd.mono (by omega) ha⟩
theorem Sf.take {many : Int} (h : 0 < many) : Sf (WP.b2 (WP.pure ()) (WP.pure many) m_take) 1 many.natAbs := fun n Q hn q => ⟨by omega, h, fun x h1 h2 => q _ x (by omega) (by omega) ⟨by omega, by omega⟩⟩
theorem bd_ix [Inhabited α] {xs : List α} {i : Int} {n : Nat} (h : Bdd.bd n xs) (ho : okI xs.length i) : Bdd.bd n (ixD xs i) := by
  obtain ⟨j, hj, hl⟩ := ixN_ok ho
  have e : ixD xs i = xs[j] := by
    unfold ixD atI
    rw [hj]
    show (xs[j]?).getD default = _
    rw [List.getElem?_eq_getElem hl]; rfl
  rw [e]; exact h.2 _ (List.getElem_mem hl)
theorem Sf.ix [Inhabited α] {xs : List α} {j : WP Int} {n : Nat} {i : Int} (h : Is j i) (hx : Bdd.bd n xs) (ho : okI xs.length i) : Sf (WP.ix (WP.pure xs) j) 0 n := Sf.of_is (Is.ix Is.pure h ho) (bd_ix hx ho)
theorem sf_comp {c : α → WP Bool} {f : α → WP β} {k k' n m j : Nat} (hc : ∀ x, Bdd.bd n x → Sf (c x) k j) (hf : ∀ x, Bdd.bd n x → Sf (f x) k' m) : ∀ xs : List α, (∀ x ∈ xs, Bdd.bd n x) → Draws (WP.comp c f xs) (xs.length * (k + k')) (fun ys : List β => ys.length ≤ xs.length ∧ ∀ y ∈ ys, Bdd.bd m y)
  | [], _ => by
    rw [List.length_nil, Nat.zero_mul]
    exact Draws.pure ⟨Nat.le_refl _, fun _ h => by cases h⟩
  | x :: xs, h => by
    have ih := sf_comp hc hf xs fun y m => h y (List.mem_cons_of_mem _ m)
    refine Draws.imp (k := k + (k' + (xs.length * (k + k') + 0))) ?_ (by rw [List.length_cons, Nat.succ_mul]; omega) (fun _ h => h)
    refine Draws.bind (hc x (h x List.mem_cons_self)) fun b _ => ?_
    cases b with
    | true =>
      refine Draws.bind (hf x (h x List.mem_cons_self)) fun z hz => Draws.bind ih fun zs hzs => Draws.pure ⟨by rw [List.length_cons, List.length_cons]; have := hzs.1; omega, fun t ht => ?_⟩
      rcases List.mem_cons.mp ht with e | e
      · rw [e]; exact hz
      · exact hzs.2 t e
    | false => exact Draws.imp ih (by omega) fun ys hy => ⟨by rw [List.length_cons]; have := hy.1; omega, hy.2⟩
theorem Sf.lc {w : WP (List α)} {c : α → WP Bool} {f : α → WP β} {k k1 k2 n m j : Nat} (hw : Sf w k n) (hc : ∀ x, Bdd.bd n x → Sf (c x) k1 j) (hf : ∀ x, Bdd.bd n x → Sf (f x) k2 m) (hn : n ≤ 100000) : Sf (WP.lc w c f) (k + n * (k1 + k2)) (max n m) :=
  Draws.imp (k := k + (0 + n * (k1 + k2))) (P := Bdd.bd (max n m)) (Draws.bind hw fun xs hx => Draws.bind (P := fun ys => ys = xs) (Draws.req (Nat.le_trans hx.1 hn) rfl) fun ys e => Draws.imp (sf_comp hc hf ys (by rw [e]; exact hx.2)) (by rw [e]; exact Nat.mul_le_mul_right _ hx.1) fun zs h => (show zs.length ≤ max n m ∧ ∀ z ∈ zs, Bdd.bd (max n m) z from ⟨by have := h.1; have := hx.1; rw [← e] at this; omega, fun y hy => Bdd.mono (by omega) (h.2 y hy)⟩)) (by omega) fun ys h => h
theorem Sf.loop {body : α → s → WP (Ctl s γ)} {xs : List α} {x : s} {f : s → WP β} {r : γ → WP β} {A L n0 kb k1 k2 n1 n2 : Nat} (c : Nat) (hx : Bdd.bd n0 x) (hl : xs.length ≤ L) (ha : ∀ a ∈ xs, Bdd.bd A a)
    (hb : ∀ m a y, m ≤ n0 + L * c → Bdd.bd A a → Bdd.bd m y → Sf (body a y) kb (m + c)) (hf : ∀ y, Bdd.bd (n0 + L * c) y → Sf (f y) k1 n1) (hr : ∀ g, Bdd.bd (n0 + L * c) g → Sf (r g) k2 n2) : Sf (WP.after (WP.loop body xs x) f r) (L * kb + max k1 k2) (max n1 n2) := by
  intro n Q hn q
  have hL : ∀ i, i ≤ xs.length → i * kb ≤ L * kb := fun i hi => Nat.mul_le_mul_right _ (Nat.le_trans hi hl)
  have hC : ∀ i, i ≤ xs.length → i * c ≤ L * c := fun i hi => Nat.mul_le_mul_right _ (Nat.le_trans hi hl)
  refine WP.after_inv (fun i m y => n ≤ m ∧ m ≤ n + i * kb ∧ Bdd.bd (n0 + i * c) y) ⟨by omega, by omega, by rw [Nat.zero_mul]; exact hx⟩ (fun i m a y hai hy => ?_) (fun m y hy => ?_)
  · have hi := (List.getElem?_eq_some_iff.mp hai).1
    have h1 := hL (i + 1) (by omega)
    have h2 := hC (i + 1) (by omega)
    have e1 : (i + 1) * kb = i * kb + kb := Nat.succ_mul _ _
    have e2 : (i + 1) * c = i * c + c := Nat.succ_mul _ _
    obtain ⟨g1, g2, g3⟩ := hy
    refine hb (n0 + i * c) a y (by omega) (ha a (List.mem_of_getElem? hai)) g3 m _ (by omega) fun m' ctl l1 l2 hctl => ?_
    cases ctl with
    | nx z => exact ⟨by omega, by omega, by rw [e2, ← Nat.add_assoc]; exact hctl⟩
    | bk z => exact hf z (Bdd.mono (by omega) hctl) m' Q (by omega) fun m2 b h3 h4 hb => q m2 b (by omega) (by omega) (Bdd.mono (by omega) hb)
    | rt g => exact hr g (Bdd.mono (by omega) hctl) m' Q (by omega) fun m2 b h3 h4 hb => q m2 b (by omega) (by omega) (Bdd.mono (by omega) hb)
  · have h1 := hL _ (Nat.le_refl _)
    have h2 := hC _ (Nat.le_refl _)
    exact hf y (Bdd.mono (by omega) hy.2.2) m Q (by have := hy.2.1; omega) fun m2 b h3 h4 hb => q m2 b (by have := hy.1; omega) (by have := hy.2.1; omega) (Bdd.mono (by omega) hb)
theorem Sf.isB {w : WP β} {b : β} {f : β → WP α} {k n : Nat} (h : Is w b) (h' : Sf (f b) k n) : Sf (w.bind f) k n := fun m Q hm q => h m _ (h' m Q hm q)
theorem Sf.rt {r : WP γ} {k n : Nat} (h : Sf r k n) : Sf (r.bind fun r => WP.pure (Ctl.rt (s := s) r)) k n := h.bind (k' := 0) fun _ q => Draws.pure q
theorem Sf.nx {y : s} {n : Nat} (h : Bdd.bd n y) : Sf (WP.pure (Ctl.nx (γ := γ) y)) 0 n := Draws.pure h
theorem Sf.bk {y : s} {n : Nat} (h : Bdd.bd n y) : Sf (WP.pure (Ctl.bk (γ := γ) y)) 0 n := Draws.pure h
theorem Sf.range1 {w : WP Int} {k n : Nat} (h : Sf w k n) (hn : n ≤ 100000) : Sf (WP.range1 w) k n := h.bind (k' := 0) fun x q => Draws.req ⟨by have := q.1; omega, by have := q.2; omega⟩ ⟨by rw [rangeL0_len]; have := q.2; omega, fun y hy => by
  have := mem_rangeL hy
  have := q.2
  exact ⟨by omega, by omega⟩⟩
end
section
variable {α β γ δ : Type} [Bdd α] [Bdd β] [Bdd γ] [Bdd δ] {n : Nat}
end
end Y

/-! the law's own comparison of data -/
namespace Y
open PySem PySem.Spec PyProof.Rows L2
open Dat (dat)
def law_sameM : Nat → PyData → PyData → WP Bool
  | 0, _, _ => WP.none (b := ())
  | fu + 1, a_a, a_b => (WP.or ((WP.pure a_b).bind fun d => WP.pure (isB "tuple" d)) ((WP.pure a_b).bind fun d => WP.pure (isB "list" d))).bind fun b => WP.cond b ((WP.or (WP.and ((WP.pure a_b).bind fun d => WP.pure (isB "tuple" d)) (WP.not ((WP.pure a_a).bind fun d => WP.pure (isB "tuple" d)))) (WP.and ((WP.pure a_b).bind fun d => WP.pure (isB "list" d)) (WP.not ((WP.pure a_a).bind fun d => WP.pure (isB "list" d))))).bind fun b => WP.cond b ((WP.pure false).bind fun r3 => (WP.pure r3)) ((WP.ne (WP.lenU (WP.pure a_a)) (WP.lenU (WP.pure a_b))).bind fun b => WP.cond b ((WP.pure false).bind fun r5 => (WP.pure r5)) ((WP.range1 (WP.lenU (WP.pure a_b))).bind fun xs6 => WP.after (WP.loop (γ := Bool) (fun c6 (y6 : Unit) => (WP.not (WP.b2 (WP.ixU (WP.pure a_a) (WP.pure c6)) (WP.ixU (WP.pure a_b) (WP.pure c6)) (law_sameM fu))).bind fun b => WP.cond b ((WP.pure false).bind fun r8 => (WP.pure (.rt r8))) ((WP.pure (.nx ())))) xs6 ()) (fun (z6 : Unit) => (WP.pure true).bind fun r9 => (WP.pure r9)) (fun r => (WP.pure r))))) ((WP.or ((WP.pure a_a).bind fun d => WP.pure (isB "bool" d)) ((WP.pure a_b).bind fun d => WP.pure (isB "bool" d))).bind fun b => WP.cond b ((WP.and ((WP.pure a_a).bind fun d => WP.pure (isB "bool" d)) (WP.and ((WP.pure a_b).bind fun d => WP.pure (isB "bool" d)) (WP.eqD (WP.pure a_a) (WP.pure a_b)))).bind fun r11 => (WP.pure r11)) (((WP.pure a_b).bind fun d => WP.pure (isB "int" d)).bind fun b => WP.cond b ((WP.and ((WP.pure a_a).bind fun d => WP.pure (isB "int" d)) (WP.eqD (WP.pure a_a) (WP.pure a_b))).bind fun r13 => (WP.pure r13)) (((WP.pure a_b).bind fun d => WP.pure (isB "str" d)).bind fun b => WP.cond b ((WP.and ((WP.pure a_a).bind fun d => WP.pure (isB "str" d)) (WP.eqD (WP.pure a_a) (WP.pure a_b))).bind fun r15 => (WP.pure r15)) ((WP.and ((WP.pure a_a).bind fun d => WP.pure (isNonD d)) ((WP.pure a_b).bind fun d => WP.pure (isNonD d))).bind fun r16 => (WP.pure r16)))))
def tyB (T s : String) : Bool := (kitB s T).getD false
theorem tb_tuple_NoneType : tyB "tuple" "NoneType" = false := by decide +kernel
theorem tb_tuple_bool : tyB "tuple" "bool" = false := by decide +kernel
theorem tb_tuple_int : tyB "tuple" "int" = false := by decide +kernel
theorem tb_tuple_str : tyB "tuple" "str" = false := by decide +kernel
theorem tb_tuple_list : tyB "tuple" "list" = false := by decide +kernel
theorem tb_tuple_tuple : tyB "tuple" "tuple" = true := by decide +kernel
theorem tb_tuple_dict : tyB "tuple" "dict" = false := by decide +kernel
theorem tb_list_NoneType : tyB "list" "NoneType" = false := by decide +kernel
theorem tb_list_bool : tyB "list" "bool" = false := by decide +kernel
theorem tb_list_int : tyB "list" "int" = false := by decide +kernel
theorem tb_list_str : tyB "list" "str" = false := by decide +kernel
theorem tb_list_list : tyB "list" "list" = true := by decide +kernel
theorem tb_list_tuple : tyB "list" "tuple" = false := by decide +kernel
theorem tb_list_dict : tyB "list" "dict" = false := by decide +kernel
theorem tb_bool_NoneType : tyB "bool" "NoneType" = false := by decide +kernel
theorem tb_bool_bool : tyB "bool" "bool" = true := by decide +kernel
theorem tb_bool_int : tyB "bool" "int" = false := by decide +kernel
theorem tb_bool_str : tyB "bool" "str" = false := by decide +kernel
theorem tb_bool_list : tyB "bool" "list" = false := by decide +kernel
theorem tb_bool_tuple : tyB "bool" "tuple" = false := by decide +kernel
theorem tb_bool_dict : tyB "bool" "dict" = false := by decide +kernel
theorem tb_int_NoneType : tyB "int" "NoneType" = false := by decide +kernel
theorem tb_int_bool : tyB "int" "bool" = true := by decide +kernel
theorem tb_int_int : tyB "int" "int" = true := by decide +kernel
theorem tb_int_str : tyB "int" "str" = false := by decide +kernel
theorem tb_int_list : tyB "int" "list" = false := by decide +kernel
theorem tb_int_tuple : tyB "int" "tuple" = false := by decide +kernel
theorem tb_int_dict : tyB "int" "dict" = false := by decide +kernel
theorem tb_str_NoneType : tyB "str" "NoneType" = false := by decide +kernel
theorem tb_str_bool : tyB "str" "bool" = false := by decide +kernel
theorem tb_str_int : tyB "str" "int" = false := by decide +kernel
theorem tb_str_str : tyB "str" "str" = true := by decide +kernel
theorem tb_str_list : tyB "str" "list" = false := by decide +kernel
theorem tb_str_tuple : tyB "str" "tuple" = false := by decide +kernel
theorem tb_str_dict : tyB "str" "dict" = false := by decide +kernel
theorem isB_ty (T : String) (d : PyData) : isB T d = tyB T (tyD d) := rfl
/-- data that may be compared: not too deep, not too long -/
def okD : Nat → PyData → Prop
  | _, .none => True
  | _, .bool _ => True
  | _, .int _ => True
  | _, .str s => PyData.canLay0 (.str s) = true
  | n + 1, .list xs => xs.length ≤ 100000 ∧ ∀ x ∈ xs, okD n x
  | n + 1, .tuple xs => xs.length ≤ 100000 ∧ ∀ x ∈ xs, okD n x
  | _, _ => False
noncomputable def sameD (a b : PyData) : Bool := @decide (a = b) (Classical.propDecidable _)
theorem sameD_iff {a b : PyData} : sameD a b = true ↔ a = b := by unfold sameD; exact @decide_eq_true_iff _ (Classical.propDecidable _)
theorem sameD_no {a b : PyData} (h : a ≠ b) : sameD a b = false := by
  cases e : sameD a b with
  | true => exact absurd (sameD_iff.mp e) h
  | false => rfl
theorem sameD_eq {a b : PyData} {c : Bool} (h : a = b ↔ c = true) : sameD a b = c := by
  rw [Bool.eq_iff_iff, sameD_iff, h]
theorem list_ix {xs ys : List PyData} : xs = ys ↔ xs.length = ys.length ∧ ∀ k ∈ rangeL 0 ((ys.length : Nat) : Int), ixD xs k = ixD ys k := by
  constructor
  · rintro rfl; exact ⟨rfl, fun _ _ => rfl⟩
  · rintro ⟨hl, h⟩
    refine List.ext_getElem hl fun i h1 h2 => ?_
    have := h (i : Int) (List.mem_map.mpr ⟨i, List.mem_range.mpr (by omega), by omega⟩)
    rwa [ixD_nat h1, ixD_nat h2] at this
theorem seq_same {n : Nat} {xs ys : List PyData} {a b : PyData} (ha : seqD a = xs) (hb : seqD b = ys) (sa : isSeqD a = true) (sb : isSeqD b = true) (hx : xs.length ≤ 100000) (hy : ys.length ≤ 100000)
    (ih : ∀ k ∈ rangeL 0 ((ys.length : Nat) : Int), xs.length = ys.length → Is (law_sameM n (ixD xs k) (ixD ys k)) (sameD (ixD xs k) (ixD ys k))) {c : Bool} (hc : c = true ↔ xs = ys) :
    Is ((WP.ne (WP.lenU (WP.pure a)) (WP.lenU (WP.pure b))).bind fun t => WP.cond t ((WP.pure false).bind fun r5 => (WP.pure r5)) ((WP.range1 (WP.lenU (WP.pure b))).bind fun xs6 => WP.after (WP.loop (γ := Bool) (fun c6 (y6 : Unit) => (WP.not (WP.b2 (WP.ixU (WP.pure a) (WP.pure c6)) (WP.ixU (WP.pure b) (WP.pure c6)) (law_sameM n))).bind fun b => WP.cond b ((WP.pure false).bind fun r8 => (WP.pure (.rt r8))) ((WP.pure (.nx ())))) xs6 ()) (fun (z6 : Unit) => (WP.pure true).bind fun r9 => (WP.pure r9)) (fun r => (WP.pure r)))) c := by
  have la : Is (WP.lenU (WP.pure a)) ((xs.length : Nat) : Int) := by rw [← ha]; exact Is.pure.bind (Is.req sa)
  have lb : Is (WP.lenU (WP.pure b)) ((ys.length : Nat) : Int) := by rw [← hb]; exact Is.pure.bind (Is.req sb)
  refine Is.bind (Is.ne la lb) ?_
  by_cases hl : xs.length = ys.length
  · rw [decide_eq_true (show ((xs.length : Nat) : Int) = ((ys.length : Nat) : Int) by omega)]
    refine Is.bind (Is.range1 lb hy) ?_
    refine Is.afterAll (no := false) (Is.loopAll (no := false) (p := fun k => sameD (ixD xs k) (ixD ys k)) fun k hk => ?_) (fun h => ?_) (fun h => ?_)
    · have hr := mem_rangeL hk
      refine Is.guard (Is.not (Is.b2 (z := sameD (ixD xs k) (ixD ys k)) (x := ixD xs k) (y := ixD ys k) ?_ ?_ (ih k hk hl))) fun _ => Is.pure
      · rw [← ha]; exact Is.b2 Is.pure Is.pure (Is.req ⟨sa, by rw [ha]; exact ⟨by omega, by omega⟩⟩)
      · rw [← hb]; exact Is.b2 Is.pure Is.pure (Is.req ⟨sb, by rw [hb]; exact ⟨by omega, by omega⟩⟩)
    · have : xs = ys := list_ix.mpr ⟨hl, fun k hk => sameD_iff.mp (List.all_eq_true.mp h k hk)⟩
      rw [hc.mpr this]; exact Is.pure.bind Is.pure
    · have : c = false := by
        rw [← Bool.not_eq_true, hc]
        intro e
        have := List.all_eq_true.mpr fun k hk => sameD_iff.mpr ((list_ix.mp e).2 k hk)
        rw [this] at h; cases h
      rw [this]; exact Is.pure
  · rw [decide_eq_false (show ¬ ((xs.length : Nat) : Int) = ((ys.length : Nat) : Int) by omega)]
    have : c = false := by
      rw [← Bool.not_eq_true, hc]
      rintro rfl; exact hl rfl
    rw [this]; exact Is.pure.bind Is.pure
theorem ixD_okD {n : Nat} {xs : List PyData} (h : ∀ x ∈ xs, okD n x) {k : Int} (h0 : 0 ≤ k) (h1 : k < xs.length) : okD n (ixD xs k) := h _ (ixD_mem h0 h1)

theorem eqv_int (i j : Int) : PyData.eqv (.int i) (.int j) = sameD (.int i) (.int j) := by
  rw [sameD_eq]
  simp [PyData.eqv]
theorem eqv_bool (i j : Bool) : PyData.eqv (.bool i) (.bool j) = sameD (.bool i) (.bool j) := by
  rw [sameD_eq]
  cases i <;> cases j <;> simp [PyData.eqv]
theorem eqv_str (i j : Str) : PyData.eqv (.str i) (.str j) = sameD (.str i) (.str j) := by
  rw [sameD_eq]
  have := EqD.eqv i j
  simp only [dat] at this
  rw [this]
  simp
theorem shpI (i : Int) : SeqAt.shaped (.int i) = true := shaped_of (α := Int) (a := i) trivial
theorem shpB (i : Bool) : SeqAt.shaped (.bool i) = true := shaped_of (α := Bool) (a := i) trivial
theorem shpS {i : Str} (h : PyData.canLay0 (.str i) = true) : SeqAt.shaped (.str i) = true := shaped_of (α := Str) (a := i) h
theorem law_same_s (n : Nat) (a b : PyData) (hb : isSeqD b = false) (db : ∀ k, b ≠ .dict k) (oa : ∀ s, a = .str s → PyData.canLay0 (.str s) = true) (ob : ∀ s, b = .str s → PyData.canLay0 (.str s) = true) : Is (law_sameM (n + 1) a b) (sameD a b) := by
  intro m Q q
  rw [law_sameM]
  cases b with
  | list ys => cases hb
  | tuple ys => cases hb
  | dict k => exact absurd rfl (db k)
  | int j =>
    cases a with
    | int i => simp only [WP.run_bind, WP.run_pure, isB_ty, tyD, isNonD, Bool.not_true, Bool.not_false, WP.cond_true, WP.cond_false, tb_tuple_NoneType, tb_tuple_bool, tb_tuple_int, tb_tuple_str, tb_tuple_list, tb_tuple_tuple, tb_tuple_dict, tb_list_NoneType, tb_list_bool, tb_list_int, tb_list_str, tb_list_list, tb_list_tuple, tb_list_dict, tb_bool_NoneType, tb_bool_bool, tb_bool_int, tb_bool_str, tb_bool_list, tb_bool_tuple, tb_bool_dict, tb_int_NoneType, tb_int_bool, tb_int_int, tb_int_str, tb_int_list, tb_int_tuple, tb_int_dict, tb_str_NoneType, tb_str_bool, tb_str_int, tb_str_str, tb_str_list, tb_str_tuple, tb_str_dict]; exact ⟨⟨shpI i, shpI j⟩, by rw [show PyData.eqv (Dat.dat (PyData.int i)) (Dat.dat (PyData.int j)) = _ from eqv_int i j]; exact q⟩
    | none => simp only [WP.run_bind, WP.run_pure, isB_ty, tyD, isNonD, Bool.not_true, Bool.not_false, WP.cond_true, WP.cond_false, tb_tuple_NoneType, tb_tuple_bool, tb_tuple_int, tb_tuple_str, tb_tuple_list, tb_tuple_tuple, tb_tuple_dict, tb_list_NoneType, tb_list_bool, tb_list_int, tb_list_str, tb_list_list, tb_list_tuple, tb_list_dict, tb_bool_NoneType, tb_bool_bool, tb_bool_int, tb_bool_str, tb_bool_list, tb_bool_tuple, tb_bool_dict, tb_int_NoneType, tb_int_bool, tb_int_int, tb_int_str, tb_int_list, tb_int_tuple, tb_int_dict, tb_str_NoneType, tb_str_bool, tb_str_int, tb_str_str, tb_str_list, tb_str_tuple, tb_str_dict]; rw [sameD_no (by intro h; cases h)] at q; exact q
    | bool i => simp only [WP.run_bind, WP.run_pure, isB_ty, tyD, isNonD, Bool.not_true, Bool.not_false, WP.cond_true, WP.cond_false, tb_tuple_NoneType, tb_tuple_bool, tb_tuple_int, tb_tuple_str, tb_tuple_list, tb_tuple_tuple, tb_tuple_dict, tb_list_NoneType, tb_list_bool, tb_list_int, tb_list_str, tb_list_list, tb_list_tuple, tb_list_dict, tb_bool_NoneType, tb_bool_bool, tb_bool_int, tb_bool_str, tb_bool_list, tb_bool_tuple, tb_bool_dict, tb_int_NoneType, tb_int_bool, tb_int_int, tb_int_str, tb_int_list, tb_int_tuple, tb_int_dict, tb_str_NoneType, tb_str_bool, tb_str_int, tb_str_str, tb_str_list, tb_str_tuple, tb_str_dict]; rw [sameD_no (by intro h; cases h)] at q; exact q
    | str i => simp only [WP.run_bind, WP.run_pure, isB_ty, tyD, isNonD, Bool.not_true, Bool.not_false, WP.cond_true, WP.cond_false, tb_tuple_NoneType, tb_tuple_bool, tb_tuple_int, tb_tuple_str, tb_tuple_list, tb_tuple_tuple, tb_tuple_dict, tb_list_NoneType, tb_list_bool, tb_list_int, tb_list_str, tb_list_list, tb_list_tuple, tb_list_dict, tb_bool_NoneType, tb_bool_bool, tb_bool_int, tb_bool_str, tb_bool_list, tb_bool_tuple, tb_bool_dict, tb_int_NoneType, tb_int_bool, tb_int_int, tb_int_str, tb_int_list, tb_int_tuple, tb_int_dict, tb_str_NoneType, tb_str_bool, tb_str_int, tb_str_str, tb_str_list, tb_str_tuple, tb_str_dict]; rw [sameD_no (by intro h; cases h)] at q; exact q
    | list i => simp only [WP.run_bind, WP.run_pure, isB_ty, tyD, isNonD, Bool.not_true, Bool.not_false, WP.cond_true, WP.cond_false, tb_tuple_NoneType, tb_tuple_bool, tb_tuple_int, tb_tuple_str, tb_tuple_list, tb_tuple_tuple, tb_tuple_dict, tb_list_NoneType, tb_list_bool, tb_list_int, tb_list_str, tb_list_list, tb_list_tuple, tb_list_dict, tb_bool_NoneType, tb_bool_bool, tb_bool_int, tb_bool_str, tb_bool_list, tb_bool_tuple, tb_bool_dict, tb_int_NoneType, tb_int_bool, tb_int_int, tb_int_str, tb_int_list, tb_int_tuple, tb_int_dict, tb_str_NoneType, tb_str_bool, tb_str_int, tb_str_str, tb_str_list, tb_str_tuple, tb_str_dict]; rw [sameD_no (by intro h; cases h)] at q; exact q
    | tuple i => simp only [WP.run_bind, WP.run_pure, isB_ty, tyD, isNonD, Bool.not_true, Bool.not_false, WP.cond_true, WP.cond_false, tb_tuple_NoneType, tb_tuple_bool, tb_tuple_int, tb_tuple_str, tb_tuple_list, tb_tuple_tuple, tb_tuple_dict, tb_list_NoneType, tb_list_bool, tb_list_int, tb_list_str, tb_list_list, tb_list_tuple, tb_list_dict, tb_bool_NoneType, tb_bool_bool, tb_bool_int, tb_bool_str, tb_bool_list, tb_bool_tuple, tb_bool_dict, tb_int_NoneType, tb_int_bool, tb_int_int, tb_int_str, tb_int_list, tb_int_tuple, tb_int_dict, tb_str_NoneType, tb_str_bool, tb_str_int, tb_str_str, tb_str_list, tb_str_tuple, tb_str_dict]; rw [sameD_no (by intro h; cases h)] at q; exact q
    | dict i => simp only [WP.run_bind, WP.run_pure, isB_ty, tyD, isNonD, Bool.not_true, Bool.not_false, WP.cond_true, WP.cond_false, tb_tuple_NoneType, tb_tuple_bool, tb_tuple_int, tb_tuple_str, tb_tuple_list, tb_tuple_tuple, tb_tuple_dict, tb_list_NoneType, tb_list_bool, tb_list_int, tb_list_str, tb_list_list, tb_list_tuple, tb_list_dict, tb_bool_NoneType, tb_bool_bool, tb_bool_int, tb_bool_str, tb_bool_list, tb_bool_tuple, tb_bool_dict, tb_int_NoneType, tb_int_bool, tb_int_int, tb_int_str, tb_int_list, tb_int_tuple, tb_int_dict, tb_str_NoneType, tb_str_bool, tb_str_int, tb_str_str, tb_str_list, tb_str_tuple, tb_str_dict]; rw [sameD_no (by intro h; cases h)] at q; exact q
  | none =>
    cases a with
    | none => simp only [WP.run_bind, WP.run_pure, isB_ty, tyD, isNonD, Bool.not_true, Bool.not_false, WP.cond_true, WP.cond_false, tb_tuple_NoneType, tb_tuple_bool, tb_tuple_int, tb_tuple_str, tb_tuple_list, tb_tuple_tuple, tb_tuple_dict, tb_list_NoneType, tb_list_bool, tb_list_int, tb_list_str, tb_list_list, tb_list_tuple, tb_list_dict, tb_bool_NoneType, tb_bool_bool, tb_bool_int, tb_bool_str, tb_bool_list, tb_bool_tuple, tb_bool_dict, tb_int_NoneType, tb_int_bool, tb_int_int, tb_int_str, tb_int_list, tb_int_tuple, tb_int_dict, tb_str_NoneType, tb_str_bool, tb_str_int, tb_str_str, tb_str_list, tb_str_tuple, tb_str_dict]; rw [sameD_iff.mpr rfl] at q; exact q
    | int i => simp only [WP.run_bind, WP.run_pure, isB_ty, tyD, isNonD, Bool.not_true, Bool.not_false, WP.cond_true, WP.cond_false, tb_tuple_NoneType, tb_tuple_bool, tb_tuple_int, tb_tuple_str, tb_tuple_list, tb_tuple_tuple, tb_tuple_dict, tb_list_NoneType, tb_list_bool, tb_list_int, tb_list_str, tb_list_list, tb_list_tuple, tb_list_dict, tb_bool_NoneType, tb_bool_bool, tb_bool_int, tb_bool_str, tb_bool_list, tb_bool_tuple, tb_bool_dict, tb_int_NoneType, tb_int_bool, tb_int_int, tb_int_str, tb_int_list, tb_int_tuple, tb_int_dict, tb_str_NoneType, tb_str_bool, tb_str_int, tb_str_str, tb_str_list, tb_str_tuple, tb_str_dict]; rw [sameD_no (by intro h; cases h)] at q; exact q
    | bool i => simp only [WP.run_bind, WP.run_pure, isB_ty, tyD, isNonD, Bool.not_true, Bool.not_false, WP.cond_true, WP.cond_false, tb_tuple_NoneType, tb_tuple_bool, tb_tuple_int, tb_tuple_str, tb_tuple_list, tb_tuple_tuple, tb_tuple_dict, tb_list_NoneType, tb_list_bool, tb_list_int, tb_list_str, tb_list_list, tb_list_tuple, tb_list_dict, tb_bool_NoneType, tb_bool_bool, tb_bool_int, tb_bool_str, tb_bool_list, tb_bool_tuple, tb_bool_dict, tb_int_NoneType, tb_int_bool, tb_int_int, tb_int_str, tb_int_list, tb_int_tuple, tb_int_dict, tb_str_NoneType, tb_str_bool, tb_str_int, tb_str_str, tb_str_list, tb_str_tuple, tb_str_dict]; rw [sameD_no (by intro h; cases h)] at q; exact q
    | str i => simp only [WP.run_bind, WP.run_pure, isB_ty, tyD, isNonD, Bool.not_true, Bool.not_false, WP.cond_true, WP.cond_false, tb_tuple_NoneType, tb_tuple_bool, tb_tuple_int, tb_tuple_str, tb_tuple_list, tb_tuple_tuple, tb_tuple_dict, tb_list_NoneType, tb_list_bool, tb_list_int, tb_list_str, tb_list_list, tb_list_tuple, tb_list_dict, tb_bool_NoneType, tb_bool_bool, tb_bool_int, tb_bool_str, tb_bool_list, tb_bool_tuple, tb_bool_dict, tb_int_NoneType, tb_int_bool, tb_int_int, tb_int_str, tb_int_list, tb_int_tuple, tb_int_dict, tb_str_NoneType, tb_str_bool, tb_str_int, tb_str_str, tb_str_list, tb_str_tuple, tb_str_dict]; rw [sameD_no (by intro h; cases h)] at q; exact q
    | list i => simp only [WP.run_bind, WP.run_pure, isB_ty, tyD, isNonD, Bool.not_true, Bool.not_false, WP.cond_true, WP.cond_false, tb_tuple_NoneType, tb_tuple_bool, tb_tuple_int, tb_tuple_str, tb_tuple_list, tb_tuple_tuple, tb_tuple_dict, tb_list_NoneType, tb_list_bool, tb_list_int, tb_list_str, tb_list_list, tb_list_tuple, tb_list_dict, tb_bool_NoneType, tb_bool_bool, tb_bool_int, tb_bool_str, tb_bool_list, tb_bool_tuple, tb_bool_dict, tb_int_NoneType, tb_int_bool, tb_int_int, tb_int_str, tb_int_list, tb_int_tuple, tb_int_dict, tb_str_NoneType, tb_str_bool, tb_str_int, tb_str_str, tb_str_list, tb_str_tuple, tb_str_dict]; rw [sameD_no (by intro h; cases h)] at q; exact q
    | tuple i => simp only [WP.run_bind, WP.run_pure, isB_ty, tyD, isNonD, Bool.not_true, Bool.not_false, WP.cond_true, WP.cond_false, tb_tuple_NoneType, tb_tuple_bool, tb_tuple_int, tb_tuple_str, tb_tuple_list, tb_tuple_tuple, tb_tuple_dict, tb_list_NoneType, tb_list_bool, tb_list_int, tb_list_str, tb_list_list, tb_list_tuple, tb_list_dict, tb_bool_NoneType, tb_bool_bool, tb_bool_int, tb_bool_str, tb_bool_list, tb_bool_tuple, tb_bool_dict, tb_int_NoneType, tb_int_bool, tb_int_int, tb_int_str, tb_int_list, tb_int_tuple, tb_int_dict, tb_str_NoneType, tb_str_bool, tb_str_int, tb_str_str, tb_str_list, tb_str_tuple, tb_str_dict]; rw [sameD_no (by intro h; cases h)] at q; exact q
    | dict i => simp only [WP.run_bind, WP.run_pure, isB_ty, tyD, isNonD, Bool.not_true, Bool.not_false, WP.cond_true, WP.cond_false, tb_tuple_NoneType, tb_tuple_bool, tb_tuple_int, tb_tuple_str, tb_tuple_list, tb_tuple_tuple, tb_tuple_dict, tb_list_NoneType, tb_list_bool, tb_list_int, tb_list_str, tb_list_list, tb_list_tuple, tb_list_dict, tb_bool_NoneType, tb_bool_bool, tb_bool_int, tb_bool_str, tb_bool_list, tb_bool_tuple, tb_bool_dict, tb_int_NoneType, tb_int_bool, tb_int_int, tb_int_str, tb_int_list, tb_int_tuple, tb_int_dict, tb_str_NoneType, tb_str_bool, tb_str_int, tb_str_str, tb_str_list, tb_str_tuple, tb_str_dict]; rw [sameD_no (by intro h; cases h)] at q; exact q
  | bool j =>
    cases a with
    | bool i => simp only [WP.run_bind, WP.run_pure, isB_ty, tyD, isNonD, Bool.not_true, Bool.not_false, WP.cond_true, WP.cond_false, tb_tuple_NoneType, tb_tuple_bool, tb_tuple_int, tb_tuple_str, tb_tuple_list, tb_tuple_tuple, tb_tuple_dict, tb_list_NoneType, tb_list_bool, tb_list_int, tb_list_str, tb_list_list, tb_list_tuple, tb_list_dict, tb_bool_NoneType, tb_bool_bool, tb_bool_int, tb_bool_str, tb_bool_list, tb_bool_tuple, tb_bool_dict, tb_int_NoneType, tb_int_bool, tb_int_int, tb_int_str, tb_int_list, tb_int_tuple, tb_int_dict, tb_str_NoneType, tb_str_bool, tb_str_int, tb_str_str, tb_str_list, tb_str_tuple, tb_str_dict]; exact ⟨⟨shpB i, shpB j⟩, by rw [show PyData.eqv (Dat.dat (PyData.bool i)) (Dat.dat (PyData.bool j)) = _ from eqv_bool i j]; exact q⟩
    | none => simp only [WP.run_bind, WP.run_pure, isB_ty, tyD, isNonD, Bool.not_true, Bool.not_false, WP.cond_true, WP.cond_false, tb_tuple_NoneType, tb_tuple_bool, tb_tuple_int, tb_tuple_str, tb_tuple_list, tb_tuple_tuple, tb_tuple_dict, tb_list_NoneType, tb_list_bool, tb_list_int, tb_list_str, tb_list_list, tb_list_tuple, tb_list_dict, tb_bool_NoneType, tb_bool_bool, tb_bool_int, tb_bool_str, tb_bool_list, tb_bool_tuple, tb_bool_dict, tb_int_NoneType, tb_int_bool, tb_int_int, tb_int_str, tb_int_list, tb_int_tuple, tb_int_dict, tb_str_NoneType, tb_str_bool, tb_str_int, tb_str_str, tb_str_list, tb_str_tuple, tb_str_dict]; rw [sameD_no (by intro h; cases h)] at q; exact q
    | int i => simp only [WP.run_bind, WP.run_pure, isB_ty, tyD, isNonD, Bool.not_true, Bool.not_false, WP.cond_true, WP.cond_false, tb_tuple_NoneType, tb_tuple_bool, tb_tuple_int, tb_tuple_str, tb_tuple_list, tb_tuple_tuple, tb_tuple_dict, tb_list_NoneType, tb_list_bool, tb_list_int, tb_list_str, tb_list_list, tb_list_tuple, tb_list_dict, tb_bool_NoneType, tb_bool_bool, tb_bool_int, tb_bool_str, tb_bool_list, tb_bool_tuple, tb_bool_dict, tb_int_NoneType, tb_int_bool, tb_int_int, tb_int_str, tb_int_list, tb_int_tuple, tb_int_dict, tb_str_NoneType, tb_str_bool, tb_str_int, tb_str_str, tb_str_list, tb_str_tuple, tb_str_dict]; rw [sameD_no (by intro h; cases h)] at q; exact q
    | str i => simp only [WP.run_bind, WP.run_pure, isB_ty, tyD, isNonD, Bool.not_true, Bool.not_false, WP.cond_true, WP.cond_false, tb_tuple_NoneType, tb_tuple_bool, tb_tuple_int, tb_tuple_str, tb_tuple_list, tb_tuple_tuple, tb_tuple_dict, tb_list_NoneType, tb_list_bool, tb_list_int, tb_list_str, tb_list_list, tb_list_tuple, tb_list_dict, tb_bool_NoneType, tb_bool_bool, tb_bool_int, tb_bool_str, tb_bool_list, tb_bool_tuple, tb_bool_dict, tb_int_NoneType, tb_int_bool, tb_int_int, tb_int_str, tb_int_list, tb_int_tuple, tb_int_dict, tb_str_NoneType, tb_str_bool, tb_str_int, tb_str_str, tb_str_list, tb_str_tuple, tb_str_dict]; rw [sameD_no (by intro h; cases h)] at q; exact q
    | list i => simp only [WP.run_bind, WP.run_pure, isB_ty, tyD, isNonD, Bool.not_true, Bool.not_false, WP.cond_true, WP.cond_false, tb_tuple_NoneType, tb_tuple_bool, tb_tuple_int, tb_tuple_str, tb_tuple_list, tb_tuple_tuple, tb_tuple_dict, tb_list_NoneType, tb_list_bool, tb_list_int, tb_list_str, tb_list_list, tb_list_tuple, tb_list_dict, tb_bool_NoneType, tb_bool_bool, tb_bool_int, tb_bool_str, tb_bool_list, tb_bool_tuple, tb_bool_dict, tb_int_NoneType, tb_int_bool, tb_int_int, tb_int_str, tb_int_list, tb_int_tuple, tb_int_dict, tb_str_NoneType, tb_str_bool, tb_str_int, tb_str_str, tb_str_list, tb_str_tuple, tb_str_dict]; rw [sameD_no (by intro h; cases h)] at q; exact q
    | tuple i => simp only [WP.run_bind, WP.run_pure, isB_ty, tyD, isNonD, Bool.not_true, Bool.not_false, WP.cond_true, WP.cond_false, tb_tuple_NoneType, tb_tuple_bool, tb_tuple_int, tb_tuple_str, tb_tuple_list, tb_tuple_tuple, tb_tuple_dict, tb_list_NoneType, tb_list_bool, tb_list_int, tb_list_str, tb_list_list, tb_list_tuple, tb_list_dict, tb_bool_NoneType, tb_bool_bool, tb_bool_int, tb_bool_str, tb_bool_list, tb_bool_tuple, tb_bool_dict, tb_int_NoneType, tb_int_bool, tb_int_int, tb_int_str, tb_int_list, tb_int_tuple, tb_int_dict, tb_str_NoneType, tb_str_bool, tb_str_int, tb_str_str, tb_str_list, tb_str_tuple, tb_str_dict]; rw [sameD_no (by intro h; cases h)] at q; exact q
    | dict i => simp only [WP.run_bind, WP.run_pure, isB_ty, tyD, isNonD, Bool.not_true, Bool.not_false, WP.cond_true, WP.cond_false, tb_tuple_NoneType, tb_tuple_bool, tb_tuple_int, tb_tuple_str, tb_tuple_list, tb_tuple_tuple, tb_tuple_dict, tb_list_NoneType, tb_list_bool, tb_list_int, tb_list_str, tb_list_list, tb_list_tuple, tb_list_dict, tb_bool_NoneType, tb_bool_bool, tb_bool_int, tb_bool_str, tb_bool_list, tb_bool_tuple, tb_bool_dict, tb_int_NoneType, tb_int_bool, tb_int_int, tb_int_str, tb_int_list, tb_int_tuple, tb_int_dict, tb_str_NoneType, tb_str_bool, tb_str_int, tb_str_str, tb_str_list, tb_str_tuple, tb_str_dict]; rw [sameD_no (by intro h; cases h)] at q; exact q
  | str j =>
    cases a with
    | str i => simp only [WP.run_bind, WP.run_pure, isB_ty, tyD, isNonD, Bool.not_true, Bool.not_false, WP.cond_true, WP.cond_false, tb_tuple_NoneType, tb_tuple_bool, tb_tuple_int, tb_tuple_str, tb_tuple_list, tb_tuple_tuple, tb_tuple_dict, tb_list_NoneType, tb_list_bool, tb_list_int, tb_list_str, tb_list_list, tb_list_tuple, tb_list_dict, tb_bool_NoneType, tb_bool_bool, tb_bool_int, tb_bool_str, tb_bool_list, tb_bool_tuple, tb_bool_dict, tb_int_NoneType, tb_int_bool, tb_int_int, tb_int_str, tb_int_list, tb_int_tuple, tb_int_dict, tb_str_NoneType, tb_str_bool, tb_str_int, tb_str_str, tb_str_list, tb_str_tuple, tb_str_dict]; exact ⟨⟨shpS (oa i rfl), shpS (ob j rfl)⟩, by rw [show PyData.eqv (Dat.dat (PyData.str i)) (Dat.dat (PyData.str j)) = _ from eqv_str i j]; exact q⟩
    | none => simp only [WP.run_bind, WP.run_pure, isB_ty, tyD, isNonD, Bool.not_true, Bool.not_false, WP.cond_true, WP.cond_false, tb_tuple_NoneType, tb_tuple_bool, tb_tuple_int, tb_tuple_str, tb_tuple_list, tb_tuple_tuple, tb_tuple_dict, tb_list_NoneType, tb_list_bool, tb_list_int, tb_list_str, tb_list_list, tb_list_tuple, tb_list_dict, tb_bool_NoneType, tb_bool_bool, tb_bool_int, tb_bool_str, tb_bool_list, tb_bool_tuple, tb_bool_dict, tb_int_NoneType, tb_int_bool, tb_int_int, tb_int_str, tb_int_list, tb_int_tuple, tb_int_dict, tb_str_NoneType, tb_str_bool, tb_str_int, tb_str_str, tb_str_list, tb_str_tuple, tb_str_dict]; rw [sameD_no (by intro h; cases h)] at q; exact q
    | int i => simp only [WP.run_bind, WP.run_pure, isB_ty, tyD, isNonD, Bool.not_true, Bool.not_false, WP.cond_true, WP.cond_false, tb_tuple_NoneType, tb_tuple_bool, tb_tuple_int, tb_tuple_str, tb_tuple_list, tb_tuple_tuple, tb_tuple_dict, tb_list_NoneType, tb_list_bool, tb_list_int, tb_list_str, tb_list_list, tb_list_tuple, tb_list_dict, tb_bool_NoneType, tb_bool_bool, tb_bool_int, tb_bool_str, tb_bool_list, tb_bool_tuple, tb_bool_dict, tb_int_NoneType, tb_int_bool, tb_int_int, tb_int_str, tb_int_list, tb_int_tuple, tb_int_dict, tb_str_NoneType, tb_str_bool, tb_str_int, tb_str_str, tb_str_list, tb_str_tuple, tb_str_dict]; rw [sameD_no (by intro h; cases h)] at q; exact q
    | bool i => simp only [WP.run_bind, WP.run_pure, isB_ty, tyD, isNonD, Bool.not_true, Bool.not_false, WP.cond_true, WP.cond_false, tb_tuple_NoneType, tb_tuple_bool, tb_tuple_int, tb_tuple_str, tb_tuple_list, tb_tuple_tuple, tb_tuple_dict, tb_list_NoneType, tb_list_bool, tb_list_int, tb_list_str, tb_list_list, tb_list_tuple, tb_list_dict, tb_bool_NoneType, tb_bool_bool, tb_bool_int, tb_bool_str, tb_bool_list, tb_bool_tuple, tb_bool_dict, tb_int_NoneType, tb_int_bool, tb_int_int, tb_int_str, tb_int_list, tb_int_tuple, tb_int_dict, tb_str_NoneType, tb_str_bool, tb_str_int, tb_str_str, tb_str_list, tb_str_tuple, tb_str_dict]; rw [sameD_no (by intro h; cases h)] at q; exact q
    | list i => simp only [WP.run_bind, WP.run_pure, isB_ty, tyD, isNonD, Bool.not_true, Bool.not_false, WP.cond_true, WP.cond_false, tb_tuple_NoneType, tb_tuple_bool, tb_tuple_int, tb_tuple_str, tb_tuple_list, tb_tuple_tuple, tb_tuple_dict, tb_list_NoneType, tb_list_bool, tb_list_int, tb_list_str, tb_list_list, tb_list_tuple, tb_list_dict, tb_bool_NoneType, tb_bool_bool, tb_bool_int, tb_bool_str, tb_bool_list, tb_bool_tuple, tb_bool_dict, tb_int_NoneType, tb_int_bool, tb_int_int, tb_int_str, tb_int_list, tb_int_tuple, tb_int_dict, tb_str_NoneType, tb_str_bool, tb_str_int, tb_str_str, tb_str_list, tb_str_tuple, tb_str_dict]; rw [sameD_no (by intro h; cases h)] at q; exact q
    | tuple i => simp only [WP.run_bind, WP.run_pure, isB_ty, tyD, isNonD, Bool.not_true, Bool.not_false, WP.cond_true, WP.cond_false, tb_tuple_NoneType, tb_tuple_bool, tb_tuple_int, tb_tuple_str, tb_tuple_list, tb_tuple_tuple, tb_tuple_dict, tb_list_NoneType, tb_list_bool, tb_list_int, tb_list_str, tb_list_list, tb_list_tuple, tb_list_dict, tb_bool_NoneType, tb_bool_bool, tb_bool_int, tb_bool_str, tb_bool_list, tb_bool_tuple, tb_bool_dict, tb_int_NoneType, tb_int_bool, tb_int_int, tb_int_str, tb_int_list, tb_int_tuple, tb_int_dict, tb_str_NoneType, tb_str_bool, tb_str_int, tb_str_str, tb_str_list, tb_str_tuple, tb_str_dict]; rw [sameD_no (by intro h; cases h)] at q; exact q
    | dict i => simp only [WP.run_bind, WP.run_pure, isB_ty, tyD, isNonD, Bool.not_true, Bool.not_false, WP.cond_true, WP.cond_false, tb_tuple_NoneType, tb_tuple_bool, tb_tuple_int, tb_tuple_str, tb_tuple_list, tb_tuple_tuple, tb_tuple_dict, tb_list_NoneType, tb_list_bool, tb_list_int, tb_list_str, tb_list_list, tb_list_tuple, tb_list_dict, tb_bool_NoneType, tb_bool_bool, tb_bool_int, tb_bool_str, tb_bool_list, tb_bool_tuple, tb_bool_dict, tb_int_NoneType, tb_int_bool, tb_int_int, tb_int_str, tb_int_list, tb_int_tuple, tb_int_dict, tb_str_NoneType, tb_str_bool, tb_str_int, tb_str_str, tb_str_list, tb_str_tuple, tb_str_dict]; rw [sameD_no (by intro h; cases h)] at q; exact q
theorem okD_mono : ∀ {n : Nat} {d : PyData}, okD n d → okD (n + 1) d := by
  intro n
  induction n with
  | zero =>
    intro d h
    cases d with
    | list xs => exact h.elim
    | tuple xs => exact h.elim
    | dict xs => exact h.elim
    | none => exact h
    | bool b => exact h
    | int b => exact h
    | str b => exact h
  | succ n ih =>
    intro d h
    cases d with
    | list xs => exact ⟨h.1, fun x m => ih (h.2 x m)⟩
    | tuple xs => exact ⟨h.1, fun x m => ih (h.2 x m)⟩
    | dict xs => exact h.elim
    | none => exact h
    | bool b => exact h
    | int b => exact h
    | str b => exact h
theorem okD_le {n m : Nat} {d : PyData} (h : okD n d) (hn : n ≤ m) : okD m d := by
  induction hn with
  | refl => exact h
  | step _ ih => exact okD_mono ih
theorem okD_str {n : Nat} {s : Str} (h : okD n (.str s)) : PyData.canLay0 (.str s) = true := by
  cases n <;> exact h
theorem okD_dict {n : Nat} {k : List (PyData × PyData)} (h : okD n (.dict k)) : False := by
  cases n <;> exact h
theorem law_same_is : ∀ (n : Nat) (a b : PyData), okD n a → okD n b → Is (law_sameM (n + 1) a b) (sameD a b) := by
  intro n
  induction n with
  | zero =>
    intro a b ha hb
    refine law_same_s 0 a b ?_ (fun k e => ?_) (fun s e => ?_) (fun s e => ?_)
    · cases b <;> first | rfl | exact hb.elim
    · subst e; exact okD_dict hb
    · subst e; exact okD_str ha
    · subst e; exact okD_str hb
  | succ n ih =>
    intro a b ha hb
    have sc : isSeqD b = false → Is (law_sameM (n + 1 + 1) a b) (sameD a b) := fun e => law_same_s (n + 1) a b e (fun k e => by subst e; exact okD_dict hb) (fun s e => by subst e; exact okD_str ha) (fun s e => by subst e; exact okD_str hb)
    cases b with
    | list ys =>
      cases a with
      | list xs =>
        rw [law_sameM]
        refine Is.bind (a := true) (by intro m Q q; simp only [WP.run_bind, WP.run_pure, isB_ty, tyD, isNonD, Bool.not_true, Bool.not_false, WP.cond_true, WP.cond_false, tb_tuple_NoneType, tb_tuple_bool, tb_tuple_int, tb_tuple_str, tb_tuple_list, tb_tuple_tuple, tb_tuple_dict, tb_list_NoneType, tb_list_bool, tb_list_int, tb_list_str, tb_list_list, tb_list_tuple, tb_list_dict, tb_bool_NoneType, tb_bool_bool, tb_bool_int, tb_bool_str, tb_bool_list, tb_bool_tuple, tb_bool_dict, tb_int_NoneType, tb_int_bool, tb_int_int, tb_int_str, tb_int_list, tb_int_tuple, tb_int_dict, tb_str_NoneType, tb_str_bool, tb_str_int, tb_str_str, tb_str_list, tb_str_tuple, tb_str_dict]; exact q) (Is.bind (a := false) (by intro m Q q; simp only [WP.run_bind, WP.run_pure, isB_ty, tyD, isNonD, Bool.not_true, Bool.not_false, WP.cond_true, WP.cond_false, tb_tuple_NoneType, tb_tuple_bool, tb_tuple_int, tb_tuple_str, tb_tuple_list, tb_tuple_tuple, tb_tuple_dict, tb_list_NoneType, tb_list_bool, tb_list_int, tb_list_str, tb_list_list, tb_list_tuple, tb_list_dict, tb_bool_NoneType, tb_bool_bool, tb_bool_int, tb_bool_str, tb_bool_list, tb_bool_tuple, tb_bool_dict, tb_int_NoneType, tb_int_bool, tb_int_int, tb_int_str, tb_int_list, tb_int_tuple, tb_int_dict, tb_str_NoneType, tb_str_bool, tb_str_int, tb_str_str, tb_str_list, tb_str_tuple, tb_str_dict]; exact q) ?_)
        refine seq_same (xs := xs) (ys := ys) rfl rfl rfl rfl ha.1 hb.1 (fun k hk hl => ?_) ?_
        · have hr := mem_rangeL hk
          exact ih _ _ (ixD_okD ha.2 hr.1 (by rw [hl]; exact hr.2)) (ixD_okD hb.2 hr.1 hr.2)
        · rw [sameD_iff]; simp
      | none => intro m Q q; rw [law_sameM]; simp only [WP.run_bind, WP.run_pure, isB_ty, tyD, isNonD, Bool.not_true, Bool.not_false, WP.cond_true, WP.cond_false, tb_tuple_NoneType, tb_tuple_bool, tb_tuple_int, tb_tuple_str, tb_tuple_list, tb_tuple_tuple, tb_tuple_dict, tb_list_NoneType, tb_list_bool, tb_list_int, tb_list_str, tb_list_list, tb_list_tuple, tb_list_dict, tb_bool_NoneType, tb_bool_bool, tb_bool_int, tb_bool_str, tb_bool_list, tb_bool_tuple, tb_bool_dict, tb_int_NoneType, tb_int_bool, tb_int_int, tb_int_str, tb_int_list, tb_int_tuple, tb_int_dict, tb_str_NoneType, tb_str_bool, tb_str_int, tb_str_str, tb_str_list, tb_str_tuple, tb_str_dict]; rw [sameD_no (by intro h; cases h)] at q; exact q
      | bool i => intro m Q q; rw [law_sameM]; simp only [WP.run_bind, WP.run_pure, isB_ty, tyD, isNonD, Bool.not_true, Bool.not_false, WP.cond_true, WP.cond_false, tb_tuple_NoneType, tb_tuple_bool, tb_tuple_int, tb_tuple_str, tb_tuple_list, tb_tuple_tuple, tb_tuple_dict, tb_list_NoneType, tb_list_bool, tb_list_int, tb_list_str, tb_list_list, tb_list_tuple, tb_list_dict, tb_bool_NoneType, tb_bool_bool, tb_bool_int, tb_bool_str, tb_bool_list, tb_bool_tuple, tb_bool_dict, tb_int_NoneType, tb_int_bool, tb_int_int, tb_int_str, tb_int_list, tb_int_tuple, tb_int_dict, tb_str_NoneType, tb_str_bool, tb_str_int, tb_str_str, tb_str_list, tb_str_tuple, tb_str_dict]; rw [sameD_no (by intro h; cases h)] at q; exact q
      | int i => intro m Q q; rw [law_sameM]; simp only [WP.run_bind, WP.run_pure, isB_ty, tyD, isNonD, Bool.not_true, Bool.not_false, WP.cond_true, WP.cond_false, tb_tuple_NoneType, tb_tuple_bool, tb_tuple_int, tb_tuple_str, tb_tuple_list, tb_tuple_tuple, tb_tuple_dict, tb_list_NoneType, tb_list_bool, tb_list_int, tb_list_str, tb_list_list, tb_list_tuple, tb_list_dict, tb_bool_NoneType, tb_bool_bool, tb_bool_int, tb_bool_str, tb_bool_list, tb_bool_tuple, tb_bool_dict, tb_int_NoneType, tb_int_bool, tb_int_int, tb_int_str, tb_int_list, tb_int_tuple, tb_int_dict, tb_str_NoneType, tb_str_bool, tb_str_int, tb_str_str, tb_str_list, tb_str_tuple, tb_str_dict]; rw [sameD_no (by intro h; cases h)] at q; exact q
      | str i => intro m Q q; rw [law_sameM]; simp only [WP.run_bind, WP.run_pure, isB_ty, tyD, isNonD, Bool.not_true, Bool.not_false, WP.cond_true, WP.cond_false, tb_tuple_NoneType, tb_tuple_bool, tb_tuple_int, tb_tuple_str, tb_tuple_list, tb_tuple_tuple, tb_tuple_dict, tb_list_NoneType, tb_list_bool, tb_list_int, tb_list_str, tb_list_list, tb_list_tuple, tb_list_dict, tb_bool_NoneType, tb_bool_bool, tb_bool_int, tb_bool_str, tb_bool_list, tb_bool_tuple, tb_bool_dict, tb_int_NoneType, tb_int_bool, tb_int_int, tb_int_str, tb_int_list, tb_int_tuple, tb_int_dict, tb_str_NoneType, tb_str_bool, tb_str_int, tb_str_str, tb_str_list, tb_str_tuple, tb_str_dict]; rw [sameD_no (by intro h; cases h)] at q; exact q
      | tuple i => intro m Q q; rw [law_sameM]; simp only [WP.run_bind, WP.run_pure, isB_ty, tyD, isNonD, Bool.not_true, Bool.not_false, WP.cond_true, WP.cond_false, tb_tuple_NoneType, tb_tuple_bool, tb_tuple_int, tb_tuple_str, tb_tuple_list, tb_tuple_tuple, tb_tuple_dict, tb_list_NoneType, tb_list_bool, tb_list_int, tb_list_str, tb_list_list, tb_list_tuple, tb_list_dict, tb_bool_NoneType, tb_bool_bool, tb_bool_int, tb_bool_str, tb_bool_list, tb_bool_tuple, tb_bool_dict, tb_int_NoneType, tb_int_bool, tb_int_int, tb_int_str, tb_int_list, tb_int_tuple, tb_int_dict, tb_str_NoneType, tb_str_bool, tb_str_int, tb_str_str, tb_str_list, tb_str_tuple, tb_str_dict]; rw [sameD_no (by intro h; cases h)] at q; exact q
      | dict i => intro m Q q; rw [law_sameM]; simp only [WP.run_bind, WP.run_pure, isB_ty, tyD, isNonD, Bool.not_true, Bool.not_false, WP.cond_true, WP.cond_false, tb_tuple_NoneType, tb_tuple_bool, tb_tuple_int, tb_tuple_str, tb_tuple_list, tb_tuple_tuple, tb_tuple_dict, tb_list_NoneType, tb_list_bool, tb_list_int, tb_list_str, tb_list_list, tb_list_tuple, tb_list_dict, tb_bool_NoneType, tb_bool_bool, tb_bool_int, tb_bool_str, tb_bool_list, tb_bool_tuple, tb_bool_dict, tb_int_NoneType, tb_int_bool, tb_int_int, tb_int_str, tb_int_list, tb_int_tuple, tb_int_dict, tb_str_NoneType, tb_str_bool, tb_str_int, tb_str_str, tb_str_list, tb_str_tuple, tb_str_dict]; rw [sameD_no (by intro h; cases h)] at q; exact q
    | tuple ys =>
      cases a with
      | tuple xs =>
        rw [law_sameM]
        refine Is.bind (a := true) (by intro m Q q; simp only [WP.run_bind, WP.run_pure, isB_ty, tyD, isNonD, Bool.not_true, Bool.not_false, WP.cond_true, WP.cond_false, tb_tuple_NoneType, tb_tuple_bool, tb_tuple_int, tb_tuple_str, tb_tuple_list, tb_tuple_tuple, tb_tuple_dict, tb_list_NoneType, tb_list_bool, tb_list_int, tb_list_str, tb_list_list, tb_list_tuple, tb_list_dict, tb_bool_NoneType, tb_bool_bool, tb_bool_int, tb_bool_str, tb_bool_list, tb_bool_tuple, tb_bool_dict, tb_int_NoneType, tb_int_bool, tb_int_int, tb_int_str, tb_int_list, tb_int_tuple, tb_int_dict, tb_str_NoneType, tb_str_bool, tb_str_int, tb_str_str, tb_str_list, tb_str_tuple, tb_str_dict]; exact q) (Is.bind (a := false) (by intro m Q q; simp only [WP.run_bind, WP.run_pure, isB_ty, tyD, isNonD, Bool.not_true, Bool.not_false, WP.cond_true, WP.cond_false, tb_tuple_NoneType, tb_tuple_bool, tb_tuple_int, tb_tuple_str, tb_tuple_list, tb_tuple_tuple, tb_tuple_dict, tb_list_NoneType, tb_list_bool, tb_list_int, tb_list_str, tb_list_list, tb_list_tuple, tb_list_dict, tb_bool_NoneType, tb_bool_bool, tb_bool_int, tb_bool_str, tb_bool_list, tb_bool_tuple, tb_bool_dict, tb_int_NoneType, tb_int_bool, tb_int_int, tb_int_str, tb_int_list, tb_int_tuple, tb_int_dict, tb_str_NoneType, tb_str_bool, tb_str_int, tb_str_str, tb_str_list, tb_str_tuple, tb_str_dict]; exact q) ?_)
        refine seq_same (xs := xs) (ys := ys) rfl rfl rfl rfl ha.1 hb.1 (fun k hk hl => ?_) ?_
        · have hr := mem_rangeL hk
          exact ih _ _ (ixD_okD ha.2 hr.1 (by rw [hl]; exact hr.2)) (ixD_okD hb.2 hr.1 hr.2)
        · rw [sameD_iff]; simp
      | none => intro m Q q; rw [law_sameM]; simp only [WP.run_bind, WP.run_pure, isB_ty, tyD, isNonD, Bool.not_true, Bool.not_false, WP.cond_true, WP.cond_false, tb_tuple_NoneType, tb_tuple_bool, tb_tuple_int, tb_tuple_str, tb_tuple_list, tb_tuple_tuple, tb_tuple_dict, tb_list_NoneType, tb_list_bool, tb_list_int, tb_list_str, tb_list_list, tb_list_tuple, tb_list_dict, tb_bool_NoneType, tb_bool_bool, tb_bool_int, tb_bool_str, tb_bool_list, tb_bool_tuple, tb_bool_dict, tb_int_NoneType, tb_int_bool, tb_int_int, tb_int_str, tb_int_list, tb_int_tuple, tb_int_dict, tb_str_NoneType, tb_str_bool, tb_str_int, tb_str_str, tb_str_list, tb_str_tuple, tb_str_dict]; rw [sameD_no (by intro h; cases h)] at q; exact q
      | bool i => intro m Q q; rw [law_sameM]; simp only [WP.run_bind, WP.run_pure, isB_ty, tyD, isNonD, Bool.not_true, Bool.not_false, WP.cond_true, WP.cond_false, tb_tuple_NoneType, tb_tuple_bool, tb_tuple_int, tb_tuple_str, tb_tuple_list, tb_tuple_tuple, tb_tuple_dict, tb_list_NoneType, tb_list_bool, tb_list_int, tb_list_str, tb_list_list, tb_list_tuple, tb_list_dict, tb_bool_NoneType, tb_bool_bool, tb_bool_int, tb_bool_str, tb_bool_list, tb_bool_tuple, tb_bool_dict, tb_int_NoneType, tb_int_bool, tb_int_int, tb_int_str, tb_int_list, tb_int_tuple, tb_int_dict, tb_str_NoneType, tb_str_bool, tb_str_int, tb_str_str, tb_str_list, tb_str_tuple, tb_str_dict]; rw [sameD_no (by intro h; cases h)] at q; exact q
      | int i => intro m Q q; rw [law_sameM]; simp only [WP.run_bind, WP.run_pure, isB_ty, tyD, isNonD, Bool.not_true, Bool.not_false, WP.cond_true, WP.cond_false, tb_tuple_NoneType, tb_tuple_bool, tb_tuple_int, tb_tuple_str, tb_tuple_list, tb_tuple_tuple, tb_tuple_dict, tb_list_NoneType, tb_list_bool, tb_list_int, tb_list_str, tb_list_list, tb_list_tuple, tb_list_dict, tb_bool_NoneType, tb_bool_bool, tb_bool_int, tb_bool_str, tb_bool_list, tb_bool_tuple, tb_bool_dict, tb_int_NoneType, tb_int_bool, tb_int_int, tb_int_str, tb_int_list, tb_int_tuple, tb_int_dict, tb_str_NoneType, tb_str_bool, tb_str_int, tb_str_str, tb_str_list, tb_str_tuple, tb_str_dict]; rw [sameD_no (by intro h; cases h)] at q; exact q
      | str i => intro m Q q; rw [law_sameM]; simp only [WP.run_bind, WP.run_pure, isB_ty, tyD, isNonD, Bool.not_true, Bool.not_false, WP.cond_true, WP.cond_false, tb_tuple_NoneType, tb_tuple_bool, tb_tuple_int, tb_tuple_str, tb_tuple_list, tb_tuple_tuple, tb_tuple_dict, tb_list_NoneType, tb_list_bool, tb_list_int, tb_list_str, tb_list_list, tb_list_tuple, tb_list_dict, tb_bool_NoneType, tb_bool_bool, tb_bool_int, tb_bool_str, tb_bool_list, tb_bool_tuple, tb_bool_dict, tb_int_NoneType, tb_int_bool, tb_int_int, tb_int_str, tb_int_list, tb_int_tuple, tb_int_dict, tb_str_NoneType, tb_str_bool, tb_str_int, tb_str_str, tb_str_list, tb_str_tuple, tb_str_dict]; rw [sameD_no (by intro h; cases h)] at q; exact q
      | list i => intro m Q q; rw [law_sameM]; simp only [WP.run_bind, WP.run_pure, isB_ty, tyD, isNonD, Bool.not_true, Bool.not_false, WP.cond_true, WP.cond_false, tb_tuple_NoneType, tb_tuple_bool, tb_tuple_int, tb_tuple_str, tb_tuple_list, tb_tuple_tuple, tb_tuple_dict, tb_list_NoneType, tb_list_bool, tb_list_int, tb_list_str, tb_list_list, tb_list_tuple, tb_list_dict, tb_bool_NoneType, tb_bool_bool, tb_bool_int, tb_bool_str, tb_bool_list, tb_bool_tuple, tb_bool_dict, tb_int_NoneType, tb_int_bool, tb_int_int, tb_int_str, tb_int_list, tb_int_tuple, tb_int_dict, tb_str_NoneType, tb_str_bool, tb_str_int, tb_str_str, tb_str_list, tb_str_tuple, tb_str_dict]; rw [sameD_no (by intro h; cases h)] at q; exact q
      | dict i => intro m Q q; rw [law_sameM]; simp only [WP.run_bind, WP.run_pure, isB_ty, tyD, isNonD, Bool.not_true, Bool.not_false, WP.cond_true, WP.cond_false, tb_tuple_NoneType, tb_tuple_bool, tb_tuple_int, tb_tuple_str, tb_tuple_list, tb_tuple_tuple, tb_tuple_dict, tb_list_NoneType, tb_list_bool, tb_list_int, tb_list_str, tb_list_list, tb_list_tuple, tb_list_dict, tb_bool_NoneType, tb_bool_bool, tb_bool_int, tb_bool_str, tb_bool_list, tb_bool_tuple, tb_bool_dict, tb_int_NoneType, tb_int_bool, tb_int_int, tb_int_str, tb_int_list, tb_int_tuple, tb_int_dict, tb_str_NoneType, tb_str_bool, tb_str_int, tb_str_str, tb_str_list, tb_str_tuple, tb_str_dict]; rw [sameD_no (by intro h; cases h)] at q; exact q
    | none => exact sc rfl
    | bool b => exact sc rfl
    | int b => exact sc rfl
    | str b => exact sc rfl
    | dict b => exact sc rfl
class Cm (α : Type) [PyI α] [Dat α] where
  ok : α → Prop
  n : Nat
  okd : ∀ {a : α}, ok a → okD n (dat a)
instance : Cm Int := ⟨fun _ => True, 0, fun _ => trivial⟩
instance : Cm Bool := ⟨fun _ => True, 0, fun _ => trivial⟩
instance : Cm Unit := ⟨fun _ => True, 0, fun _ => trivial⟩
instance : Cm Str := ⟨fun s => PyData.canLay0 (.str s) = true, 0, fun h => h⟩
section
variable {α β : Type} [PyI α] [PyI β] [Dat α] [Dat β] [Cm α] [Cm β]
instance : Cm (α × β) := ⟨fun c => Cm.ok c.1 ∧ Cm.ok c.2, max (Cm.n α) (Cm.n β) + 1, fun h => ⟨by show (2 : Nat) ≤ 100000; omega, fun x hx => by
  rcases List.mem_cons.mp hx with e | hx
  · rw [e]; exact okD_le (Cm.okd h.1) (Nat.le_max_left _ _)
  · rw [List.mem_singleton.mp hx]; exact okD_le (Cm.okd h.2) (Nat.le_max_right _ _)⟩⟩
instance : Cm (List α) := ⟨fun xs => xs.length ≤ 100000 ∧ ∀ x ∈ xs, Cm.ok x, Cm.n α + 1, fun h => ⟨by rw [List.length_map]; exact h.1, fun x hx => by
  obtain ⟨a, ha, rfl⟩ := List.mem_map.mp hx
  exact Cm.okd (h.2 a ha)⟩⟩
instance : Cm (Ls α) := ⟨fun xs => xs.l.length ≤ 100000 ∧ ∀ x ∈ xs.l, Cm.ok x, Cm.n α + 1, fun h => ⟨by rw [List.length_map]; exact h.1, fun x hx => by
  obtain ⟨a, ha, rfl⟩ := List.mem_map.mp hx
  exact Cm.okd (h.2 a ha)⟩⟩
instance : Cm (Option α) := ⟨fun o => ∀ a, o = some a → Cm.ok a, Cm.n α, fun {o} h => by
  cases o with
  | none =>
    show okD (Cm.n α) .none
    cases Cm.n α <;> exact trivial
  | some a => exact Cm.okd (h a rfl)⟩
theorem dat_inj [EqD α] {x y : α} (h : (dat x : PyData) = dat y) : x = y := (EqD.eqv x y).mp (by rw [h]; exact (EqD.eqv y y).mpr rfl)
theorem sameD_dat [EqD α] [DecidableEq α] (x y : α) : sameD (dat x) (dat y) = decide (x = y) := by
  rw [sameD_eq]
  rw [decide_eq_true_eq]
  exact ⟨dat_inj, fun h => by rw [h]⟩
theorem same_is [EqD α] [DecidableEq α] {x y : α} (hx : Cm.ok x) (hy : Cm.ok y) (hn : Cm.n α ≤ 5 := by decide) : Is (law_sameM 6 (dat x) (dat y)) (decide (x = y)) :=
  (law_same_is 5 _ _ (okD_le (Cm.okd hx) hn) (okD_le (Cm.okd hy) hn)).eq (sameD_dat x y)
end
end Y

/-! plain facts: papers of heights -/
namespace Y
open PySem L2
abbrev HP := List (Sq × Int)
def ht (p : HP) (q : Sq) : Int := (lookK p q).getD 0
structure OkP (p : HP) : Prop where
  nd : (p.map (·.1)).Nodup
  nn : ∀ x ∈ p, 0 ≤ x.2
def Shows (dom : Sq → Bool) (inc : Sq → Int) (a b : Sq) (n : Int) (p : HP) : Prop := OkP p ∧ n ≤ ht p a ∧ ht p b = 0 ∧ (∀ x ∈ p, dom x.1 = true) ∧ ∀ x ∈ p, ∀ o ∈ sides x.1, dom o = true → x.2 ≤ ht p o + inc o
theorem ht_mem {p : HP} (nd : (p.map (·.1)).Nodup) {q : Sq} {h : Int} (m : (q, h) ∈ p) : ht p q = h := by
  unfold ht
  rw [lookK_mem nd m]; rfl
theorem ht_none {p : HP} {q : Sq} (h : q ∉ p.map (·.1)) : ht p q = 0 := by
  unfold ht
  cases e : lookK p q with
  | none => rfl
  | some d => exact absurd (List.mem_map.mpr ⟨_, lookK_some e, rfl⟩) h
theorem ht_cases (p : HP) (q : Sq) : (q, ht p q) ∈ p ∨ (q ∉ p.map (·.1) ∧ ht p q = 0) := by
  cases e : lookK p q with
  | none => exact .inr ⟨lookK_none e, by unfold ht; rw [e]; rfl⟩
  | some d =>
    left
    have := lookK_some e
    unfold ht
    rw [e]; exact this
theorem OkP.nneg {p : HP} (h : OkP p) (q : Sq) : 0 ≤ ht p q := by
  rcases ht_cases p q with m | ⟨_, e⟩
  · exact h.nn _ m
  · rw [e]; exact Int.le_refl _
/-- the same pairs in another order -/
theorem ht_perm {p r : HP} (h : p.Perm r) (nd : (p.map (·.1)).Nodup) (q : Sq) : ht p q = ht r q := by
  have nd' : (r.map (·.1)).Nodup := (h.map _).nodup nd
  rcases ht_cases p q with m | ⟨m, e⟩
  · exact (ht_mem nd' (h.mem_iff.mp m)).symm
  · rw [e, ht_none fun z => m ((h.map _).mem_iff.mpr z)]
theorem Shows.perm {dom : Sq → Bool} {inc : Sq → Int} {a b : Sq} {n : Int} {p r : HP} (h : Shows dom inc a b n p) (e : p.Perm r) : Shows dom inc a b n r := by
  obtain ⟨h1, h2, h3, h4, h5⟩ := h
  have hh := ht_perm e h1.nd
  refine ⟨⟨(e.map _).nodup h1.nd, fun x m => h1.nn x (e.mem_iff.mpr m)⟩, by rw [← hh]; exact h2, by rw [← hh]; exact h3, fun x m => h4 x (e.mem_iff.mpr m), fun x m o ho hd => ?_⟩
  rw [← hh]; exact h5 x (e.mem_iff.mpr m) o ho hd
/-- heights of 0 left out -/
theorem nodup_filter {p : HP} (f : Sq × Int → Bool) (nd : (p.map (·.1)).Nodup) : ((p.filter f).map (·.1)).Nodup := nd.sublist (List.filter_sublist.map _)
theorem ht_pos {p : HP} (h : OkP p) (q : Sq) : ht (p.filter fun x => decide (0 < x.2)) q = ht p q := by
  rcases ht_cases p q with m | ⟨m, e⟩
  · by_cases z : 0 < ht p q
    · exact ht_mem (nodup_filter _ h.nd) (List.mem_filter.mpr ⟨m, decide_eq_true z⟩)
    · have h0 := h.nneg q
      rw [ht_none, show ht p q = 0 by omega]
      intro w
      obtain ⟨x, hx, e⟩ := List.mem_map.mp w
      obtain ⟨h1, h2⟩ := List.mem_filter.mp hx
      have h3 := of_decide_eq_true h2
      have : ht p q = x.2 := ht_mem h.nd (by rw [← e]; exact h1)
      omega
  · rw [e, ht_none]
    intro w
    obtain ⟨x, hx, e⟩ := List.mem_map.mp w
    exact m (List.mem_map.mpr ⟨x, (List.mem_filter.mp hx).1, e⟩)
theorem Shows.pos {dom : Sq → Bool} {inc : Sq → Int} {a b : Sq} {n : Int} {p : HP} (h : Shows dom inc a b n p) : Shows dom inc a b n (p.filter fun x => decide (0 < x.2)) := by
  obtain ⟨h1, h2, h3, h4, h5⟩ := h
  have hh := ht_pos h1
  exact ⟨⟨nodup_filter _ h1.nd, fun x m => h1.nn x (List.mem_filter.mp m).1⟩, by rw [hh]; exact h2, by rw [hh]; exact h3, fun x m => h4 x (List.mem_filter.mp m).1, fun x m o ho hd => by rw [hh]; exact h5 x (List.mem_filter.mp m).1 o ho hd⟩
theorem Shows.num {dom : Sq → Bool} {inc : Sq → Int} {a b : Sq} {n : Int} {p : HP} (h : Shows dom inc a b n p) {k : Int} : Shows dom inc a b k p ↔ k ≤ ht p a := ⟨fun z => z.2.1, fun z => ⟨h.1, z, h.2.2⟩⟩
/-- a square raised as far as it goes -/
def rest (p : HP) (s : Sq) : HP := p.filter fun x => !decide (x.1 = s)
theorem rest_keys {p : HP} {s : Sq} : s ∉ (rest p s).map (·.1) := by
  intro w
  obtain ⟨x, hx, e⟩ := List.mem_map.mp w
  have := (List.mem_filter.mp hx).2
  rw [e] at this
  simp at this
theorem raise_nd {p : HP} (nd : (p.map (·.1)).Nodup) {s : Sq} {v : Int} : ((rest p s ++ [(s, v)]).map (·.1)).Nodup := by
  rw [List.map_append, List.nodup_append]
  refine ⟨nodup_filter _ nd, by simp, fun x hx y hy z => ?_⟩
  have : y = s := by simpa using hy
  subst this
  exact rest_keys (z ▸ hx)
theorem ht_raise {p : HP} (nd : (p.map (·.1)).Nodup) {s : Sq} {v : Int} (q : Sq) : ht (rest p s ++ [(s, v)]) q = if q = s then v else ht p q := by
  have nd2 := raise_nd nd (s := s) (v := v)
  by_cases e : q = s
  · subst e
    rw [if_pos rfl]
    exact ht_mem nd2 (List.mem_append_right _ (by simp))
  · rw [if_neg e]
    rcases ht_cases p q with m | ⟨m, e2⟩
    · refine ht_mem nd2 (List.mem_append_left _ (List.mem_filter.mpr ⟨m, ?_⟩))
      rw [decide_eq_false e]; rfl
    · rw [e2, ht_none]
      intro w
      obtain ⟨x, hx, e3⟩ := List.mem_map.mp w
      rcases List.mem_append.mp hx with hx | hx
      · exact m (List.mem_map.mpr ⟨x, (List.mem_filter.mp hx).1, e3⟩)
      · have : x = (s, v) := by simpa using hx
        rw [this] at e3
        exact e e3.symm
theorem sides_ne {s o : Sq} (h : o ∈ sides s) : o ≠ s := by
  obtain ⟨a, b⟩ := s
  obtain ⟨c, d⟩ := o
  simp only [sides, List.mem_cons, Prod.mk.injEq, List.not_mem_nil, or_false] at h
  intro z
  injection z with z1 z2
  omega
theorem Shows.too {dom : Sq → Bool} {inc : Sq → Int} {a b s : Sq} {n v : Int} {p : HP} (nd : (p.map (·.1)).Nodup) (he : ∃ o ∈ sides s, dom o = true ∧ ht p o + inc o < v) : ¬ Shows dom inc a b n (rest p s ++ [(s, v)]) := fun ⟨_, _, _, _, h5⟩ => by
  obtain ⟨o, ho, hd, hlt⟩ := he
  have := h5 (s, v) (List.mem_append_right _ (by simp)) o ho hd
  rw [ht_raise nd, if_neg (sides_ne ho)] at this
  have : v ≤ ht p o + inc o := this
  omega
/-! ### the models -/
theorem take_snoc {α : Type} {xs : List α} {i : Nat} {a : α} (h : xs[i]? = some a) : xs.take (i + 1) = xs.take i ++ [a] := by
  rw [List.take_add_one, h]; rfl
end Y

/-! plain facts: the deal -/
namespace Y
open PySem L2
def law_dealM (a_script : List Int) : WP Unit := (WP.row (WP.pure ([] : List Int))).bind fun a1_row => (WP.range1 (WP.min2 (WP.len (WP.pure a_script)) (WP.pure (63 : Int)))).bind fun xs2 => WP.after (WP.loop (γ := Unit) (fun c2 (y2 : (List Int)) => (WP.abs ((WP.ix (WP.pure a_script) (WP.pure c2)).bind WP.pure)).bind fun a3_cell => ((WP.ge (WP.pure a3_cell) (WP.pow (WP.pure (10 : Int)) (WP.pure (18 : Int)))).bind fun b => WP.cond b ((WP.range1 (WP.pure (40 : Int))).bind fun xs5 => WP.after (WP.loop (γ := Unit) (fun c5 (y5 : (List Int) × Int) => ((WP.gt (WP.pure y5.2) (WP.pure (0 : Int))).bind fun b => WP.cond b (((WP.mod (WP.pure y5.2) (WP.pure (1009 : Int))).bind fun a => WP.req (y5.1.length < 100000) (y5.1 ++ [a])).bind fun a7_row => (WP.fdiv (WP.pure y5.2) (WP.pure (1009 : Int))).bind fun a8_cell => (WP.pure (a7_row, a8_cell))) ((WP.pure (y5.1, y5.2)))).bind fun (y6 : (List Int) × Int) => (WP.pure (.nx (y6.1, y6.2)))) xs5 (y2, a3_cell)) (fun (z5 : (List Int) × Int) => (WP.pure (z5.1, z5.2))) (fun r => (WP.none (b := r)))) ((WP.add (WP.add (WP.mul (WP.mod (WP.pure a3_cell) (WP.pure (2147483629 : Int))) (WP.pure (48271 : Int))) (WP.mul (WP.pure c2) (WP.pure (69621 : Int)))) (WP.pure (11 : Int))).bind fun a9_cell => (WP.range1 (WP.pure (5 : Int))).bind fun xs10 => WP.after (WP.loop (γ := Unit) (fun c10 (y10 : (List Int) × Int) => (WP.mod (WP.add (WP.add (WP.mul (WP.pure y10.2) (WP.pure (16807 : Int))) (WP.pure (12345 : Int))) (WP.pure c10)) (WP.pure (2147483647 : Int))).bind fun a11_cell => ((WP.mod (WP.fdiv (WP.pure a11_cell) (WP.pure (7 : Int))) (WP.pure (1009 : Int))).bind fun a => WP.req (y10.1.length < 100000) (y10.1 ++ [a])).bind fun a12_row => (WP.pure (.nx (a12_row, a11_cell)))) xs10 (y2, a9_cell)) (fun (z10 : (List Int) × Int) => (WP.pure (z10.1, z10.2))) (fun r => (WP.none (b := r))))).bind fun (y4 : (List Int) × Int) => (WP.pure (.nx y4.1))) xs2 a1_row) (fun (z2 : (List Int)) => (WP.add (WP.sum (WP.pure z2)) (WP.len (WP.pure a_script))).bind fun a13_total => (WP.pure a13_total).bind fun _ => WP.pure ()) (fun r => (WP.pure r))
theorem len_app {a : Int} {xs : List Int} : (xs ++ [a]).length = xs.length + 1 := by simp
theorem deal_plain (ns : List Int) (hl : ns.length ≤ 63) (n : Nat) : (law_dealM ns).run n fun _ _ => True := by
  unfold law_dealM
  (simp only [WP.run_bind, WP.run_pure, WP.run_req, WP.run_any, WP.run_take, WP.run_cond, WP.run_range1, WP.run_range2, decide_eq_true_eq, decide_eq_false_iff_not, Bool.not_eq_true', Bool.not_eq_false'])
  refine ⟨by decide, ⟨by split <;> omega, by split <;> omega⟩, ?_⟩
  refine WP.after_inv (fun i m row => row.length ≤ 40 * i) (by simp) (fun i m k row hk hrow => ?_) (fun m row hrow => ?_)
  · obtain ⟨ek, hk'⟩ := rangeL0_get hk
    have hi : i < 63 := by split at hk' <;> omega
    have hi2 : i < ns.length := by split at hk' <;> omega
    subst ek
    (simp only [WP.run_bind, WP.run_pure, WP.run_req, WP.run_any, WP.run_take, WP.run_cond, WP.run_range1, WP.run_range2, decide_eq_true_eq, decide_eq_false_iff_not, Bool.not_eq_true', Bool.not_eq_false'])
    refine ⟨⟨by omega, by omega⟩, ⟨by decide, by decide, by decide⟩, fun _ => ⟨⟨by decide, by decide⟩, ?_⟩, fun _ => ?_⟩
    · refine WP.after_inv (fun j m y => y.1.length ≤ 40 * i + j) (by simpa using hrow) (fun j m t y ht hy => ?_) (fun m y hy => ?_)
      · obtain ⟨et, ht'⟩ := rangeL0_get ht
        (simp only [WP.run_bind, WP.run_pure, WP.run_req, WP.run_any, WP.run_take, WP.run_cond, WP.run_range1, WP.run_range2, decide_eq_true_eq, decide_eq_false_iff_not, Bool.not_eq_true', Bool.not_eq_false'])
        refine ⟨fun _ => ⟨by decide, by omega, ⟨by decide, by decide⟩, ?_⟩, fun _ => ?_⟩
        · show (y.1 ++ _).length ≤ _
          rw [len_app]; omega
        · show y.1.length ≤ _
          omega
      · rw [rangeL0_len] at hy
        show y.1.length ≤ 40 * (i + 1)
        have : (40 : Int).toNat = 40 := rfl
        omega
    · refine ⟨by decide, .inr ⟨by decide, by decide⟩, .inr ⟨by decide, by decide⟩, ⟨by decide, by decide⟩, ?_⟩
      refine WP.after_inv (fun j m y => y.1.length ≤ 40 * i + j) (by simpa using hrow) (fun j m t y ht hy => ?_) (fun m y hy => ?_)
      · obtain ⟨et, ht'⟩ := rangeL0_get ht
        (simp only [WP.run_bind, WP.run_pure, WP.run_req, WP.run_any, WP.run_take, WP.run_cond, WP.run_range1, WP.run_range2, decide_eq_true_eq, decide_eq_false_iff_not, Bool.not_eq_true', Bool.not_eq_false'])
        refine ⟨.inr ⟨by decide, by decide⟩, by decide, ⟨by decide, by decide⟩, by decide, by omega, ?_⟩
        show (y.1 ++ _).length ≤ _
        rw [len_app]; omega
      · rw [rangeL0_len] at hy
        show y.1.length ≤ 40 * (i + 1)
        have : (5 : Int).toNat = 5 := rfl
        omega
  · (simp only [WP.run_bind, WP.run_pure, WP.run_req, WP.run_any, WP.run_take, WP.run_cond, WP.run_range1, WP.run_range2, decide_eq_true_eq, decide_eq_false_iff_not, Bool.not_eq_true', Bool.not_eq_false'])
end Y

/-! regions: sorted lists of squares, parts that steps make -/
namespace Y
open PySem PySem.Spec PyProof.Rows L2
def ltQ (a b : Sq) : Prop := a.1 < b.1 ∨ (a.1 = b.1 ∧ a.2 < b.2)
theorem ltQ_asym {a b : Sq} (h : ltQ a b) : ¬ ltQ b a := by unfold ltQ at *; omega
theorem ltQ_irr (a : Sq) : ¬ ltQ a a := by unfold ltQ; omega
theorem ltQ_ne {a b : Sq} (h : ltQ a b) : a ≠ b := fun e => ltQ_irr b (e ▸ h)
theorem srt_ext : ∀ {xs ys : List Sq}, xs.Pairwise ltQ → ys.Pairwise ltQ → (∀ q, q ∈ xs ↔ q ∈ ys) → xs = ys
  | [], [], _, _, _ => rfl
  | [], y :: ys, _, _, h => absurd ((h y).mpr List.mem_cons_self) (by simp)
  | x :: xs, [], _, _, h => absurd ((h x).mp List.mem_cons_self) (by simp)
  | x :: xs, y :: ys, hx, hy, h => by
    have h1 := List.pairwise_cons.mp hx
    have h2 := List.pairwise_cons.mp hy
    have e : x = y := by
      rcases List.mem_cons.mp ((h x).mp List.mem_cons_self) with e | m1
      · exact e
      · rcases List.mem_cons.mp ((h y).mpr List.mem_cons_self) with e | m2
        · exact e.symm
        · exact absurd (h1.1 y m2) (ltQ_asym (h2.1 x m1))
    subst e
    rw [srt_ext h1.2 h2.2 fun q => ?_]
    constructor
    · intro m
      rcases List.mem_cons.mp ((h q).mp (List.mem_cons_of_mem _ m)) with e | m'
      · exact absurd e (ltQ_ne (h1.1 q m)).symm
      · exact m'
    · intro m
      rcases List.mem_cons.mp ((h q).mpr (List.mem_cons_of_mem _ m)) with e | m'
      · exact absurd e (ltQ_ne (h2.1 q m)).symm
      · exact m'
theorem srt_nodup {xs : List Sq} (h : xs.Pairwise ltQ) : xs.Nodup := List.Pairwise.imp (fun {a b} h => ltQ_ne h) h
theorem srt_of {xs ys : List Sq} (p : ys.Perm xs) (nd : xs.Nodup) (s : ys.Pairwise leQ) : ys.Pairwise ltQ := by
  have nd' : ys.Pairwise (· ≠ ·) := p.nodup_iff.mpr nd
  refine List.Pairwise.imp (fun {a b} h => ?_) (s.and nd')
  obtain ⟨h1, h2⟩ := h
  unfold leQ at h1
  unfold ltQ
  by_cases e : a.2 = b.2
  · rcases h1 with h | ⟨h, _⟩
    · exact .inl h
    · exact absurd (Prod.ext h e) h2
  · omega
theorem colsTo_srt (r j : Nat) : (colsTo r j).Pairwise ltQ := by
  unfold colsTo
  rw [List.pairwise_map]
  refine List.Pairwise.imp (fun {a b} h => ?_) (List.pairwise_lt_range (n := j))
  unfold ltQ; dsimp only; omega
theorem allSq_srt (ch : List Str) : (allSq ch).Pairwise ltQ := by
  have key : ∀ n, (rowsTo ch n).Pairwise ltQ := fun n => by
    induction n with
    | zero => exact List.Pairwise.nil
    | succ n ih =>
      rw [← rowsTo_succ, List.pairwise_append]
      refine ⟨ih, colsTo_srt _ _, fun a ha b hb => ?_⟩
      unfold rowsTo at ha
      obtain ⟨r, hr, h⟩ := List.mem_flatMap.mp ha
      unfold colsTo at h hb
      obtain ⟨c, _, rfl⟩ := List.mem_map.mp h
      obtain ⟨d, _, rfl⟩ := List.mem_map.mp hb
      have := List.mem_range.mp hr
      unfold ltQ; dsimp only; omega
  exact key ch.length
/-- a region: the squares that steps lead to from s, in order -/
def IsReg (st : Sq → List Sq) (s : Sq) (l : List Sq) : Prop := l.Pairwise ltQ ∧ ∀ q, q ∈ l ↔ Rch st s q
theorem IsReg.inj {st : Sq → List Sq} {s : Sq} {l l' : List Sq} (h : IsReg st s l) (h' : IsReg st s l') : l = l' := srt_ext h.1 h'.1 fun q => by rw [h.2, h'.2]
/-- the regions of ascending squares, one after another -/
def Regs (st : Sq → List Sq) : List Sq → List (List Sq) → List (List Sq) → Prop
  | [], acc, R => R = acc
  | x :: xs, acc, R => ((∃ l ∈ acc, x ∈ l) ∧ Regs st xs acc R) ∨ ((∀ l ∈ acc, x ∉ l) ∧ ∃ l, IsReg st x l ∧ Regs st xs (acc ++ [l]) R)
section
variable {st st' : Sq → List Sq}
theorem Regs.inj : ∀ {xs : List Sq} {acc R R' : List (List Sq)}, Regs st xs acc R → Regs st xs acc R' → R = R'
  | [], _, _, _, h, h' => (show _ = _ from h).trans (show _ = _ from h').symm
  | x :: xs, acc, R, R', h, h' => by
    rcases h with ⟨⟨l, hl, hx⟩, h⟩ | ⟨hn, l, hl, h⟩
    · rcases h' with ⟨_, h'⟩ | ⟨hn', _⟩
      · exact h.inj h'
      · exact absurd hx (hn' l hl)
    · rcases h' with ⟨⟨l', hl', hx⟩, _⟩ | ⟨_, l', hl', h'⟩
      · exact absurd hx (hn l' hl')
      · rw [hl.inj hl'] at h
        exact h.inj h'
theorem Regs.app : ∀ {xs ys : List Sq} {acc R : List (List Sq)}, Regs st (xs ++ ys) acc R ↔ ∃ M, Regs st xs acc M ∧ Regs st ys M R
  | [], ys, acc, R => ⟨fun h => ⟨acc, rfl, h⟩, fun ⟨M, h, h'⟩ => by rw [show M = acc from h] at h'; exact h'⟩
  | x :: xs, ys, acc, R => by
    constructor
    · rintro (⟨a, h⟩ | ⟨a, l, b, h⟩)
      · obtain ⟨M, h1, h2⟩ := Regs.app.mp h
        exact ⟨M, .inl ⟨a, h1⟩, h2⟩
      · obtain ⟨M, h1, h2⟩ := Regs.app.mp h
        exact ⟨M, .inr ⟨a, l, b, h1⟩, h2⟩
    · rintro ⟨M, ⟨a, h1⟩ | ⟨a, l, b, h1⟩, h2⟩
      · exact .inl ⟨a, Regs.app.mpr ⟨M, h1, h2⟩⟩
      · exact .inr ⟨a, l, b, Regs.app.mpr ⟨M, h1, h2⟩⟩
theorem Regs.snoc {xs : List Sq} {x : Sq} {acc R : List (List Sq)} (h : Regs st xs acc R) : ((∃ l ∈ R, x ∈ l) → Regs st (xs ++ [x]) acc R) ∧ (∀ l, (∀ m ∈ R, x ∉ m) → IsReg st x l → Regs st (xs ++ [x]) acc (R ++ [l])) :=
  ⟨fun hx => Regs.app.mpr ⟨R, h, .inl ⟨hx, rfl⟩⟩, fun l hn hl => Regs.app.mpr ⟨R, h, .inr ⟨hn, l, hl, rfl⟩⟩⟩
theorem Regs.congr : ∀ {xs : List Sq} {acc R : List (List Sq)}, (∀ x ∈ xs, ∀ q, Rch st x q ↔ Rch st' x q) → Regs st xs acc R → Regs st' xs acc R
  | [], _, _, _, h => h
  | x :: xs, acc, R, e, h => by
    have e' : ∀ y ∈ xs, ∀ q, Rch st y q ↔ Rch st' y q := fun y m => e y (List.mem_cons_of_mem _ m)
    rcases h with ⟨a, h⟩ | ⟨a, l, b, h⟩
    · exact .inl ⟨a, h.congr e'⟩
    · exact .inr ⟨a, l, ⟨b.1, fun q => by rw [b.2, e x List.mem_cons_self]⟩, h.congr e'⟩
theorem Regs.keep : ∀ {xs : List Sq} {acc R : List (List Sq)}, Regs st xs acc R → ∀ l ∈ acc, l ∈ R
  | [], _, _, h, l, m => by rw [show _ = _ from h]; exact m
  | x :: xs, acc, R, h, l, m => by
    rcases h with ⟨_, h⟩ | ⟨_, k, _, h⟩
    · exact h.keep l m
    · exact h.keep l (List.mem_append_left _ m)
theorem Regs.cov : ∀ {xs : List Sq} {acc R : List (List Sq)}, Regs st xs acc R → ∀ x ∈ xs, ∃ l ∈ R, x ∈ l
  | y :: ys, acc, R, h, x, m => by
    rcases List.mem_cons.mp m with e | m
    · subst e
      rcases h with ⟨⟨l, hl, hx⟩, h⟩ | ⟨_, k, hk, h⟩
      · exact ⟨l, h.keep l hl, hx⟩
      · exact ⟨k, h.keep k (List.mem_append_right _ (List.mem_singleton.mpr rfl)), (hk.2 x).mpr .refl⟩
    · rcases h with ⟨_, h⟩ | ⟨_, k, _, h⟩
      · exact h.cov x m
      · exact h.cov x m
theorem Regs.mem : ∀ {xs : List Sq} {acc R : List (List Sq)}, Regs st xs acc R → ∀ l ∈ R, l ∈ acc ∨ ∃ x ∈ xs, IsReg st x l
  | [], _, _, h, l, m => .inl (by rw [show _ = _ from h] at m; exact m)
  | x :: xs, acc, R, h, l, m => by
    rcases h with ⟨_, h⟩ | ⟨_, k, hk, h⟩
    · rcases h.mem l m with a | ⟨y, hy, r⟩
      · exact .inl a
      · exact .inr ⟨y, List.mem_cons_of_mem _ hy, r⟩
    · rcases h.mem l m with a | ⟨y, hy, r⟩
      · rcases List.mem_append.mp a with a | a
        · exact .inl a
        · rw [List.mem_singleton.mp a]; exact .inr ⟨x, List.mem_cons_self, hk⟩
      · exact .inr ⟨y, List.mem_cons_of_mem _ hy, r⟩
theorem Regs.len : ∀ {xs : List Sq} {acc R : List (List Sq)}, Regs st xs acc R → R.length ≤ acc.length + xs.length
  | [], _, _, h => by rw [show _ = _ from h]; simp
  | x :: xs, acc, R, h => by
    rcases h with ⟨_, h⟩ | ⟨_, k, hk, h⟩
    · have := h.len; rw [List.length_cons]; omega
    · have := h.len; rw [List.length_append, List.length_singleton] at this; rw [List.length_cons]; omega
def Apart (R : List (List Sq)) : Prop := R.Pairwise fun l m => ∀ q, q ∈ l → q ∉ m
theorem Regs.apart : ∀ {xs : List Sq} {acc R : List (List Sq)}, (∀ x ∈ xs, ∀ q, Rch st x q → Rch st q x) → Regs st xs acc R → Apart acc → (∀ l ∈ acc, ∀ q ∈ l, ∀ p, Rch st q p → p ∈ l) → Apart R
  | [], _, _, _, h, a, _ => by rw [show _ = _ from h]; exact a
  | x :: xs, acc, R, sy, h, a, cl => by
    have sy' : ∀ y ∈ xs, ∀ q, Rch st y q → Rch st q y := fun y m => sy y (List.mem_cons_of_mem _ m)
    rcases h with ⟨_, h⟩ | ⟨hn, k, hk, h⟩
    · exact h.apart sy' a cl
    · refine h.apart sy' ?_ fun l hl q hq p hp => ?_
      · refine List.pairwise_append.mpr ⟨a, List.pairwise_singleton _ _, fun l hl m hm q hq hq' => ?_⟩
        rw [List.mem_singleton.mp hm] at hq'
        exact hn l hl (cl l hl q hq x (sy x List.mem_cons_self q ((hk.2 q).mp hq')))
      · rcases List.mem_append.mp hl with hl | hl
        · exact cl l hl q hq p hp
        · rw [List.mem_singleton.mp hl] at hq ⊢
          exact (hk.2 p).mpr (((hk.2 q).mp hq).trans hp)
end
/-! dicts as sets -/
theorem putQ_keys {β : Type} {kvs : List (Sq × β)} {q : Sq} {b : β} : (putQ kvs q b).map (·.1) = if hasK kvs q then kvs.map (·.1) else kvs.map (·.1) ++ [q] := by
  cases e : hasK kvs q with
  | true =>
    rw [putQ_old e, List.map_map, if_pos rfl]
    refine List.map_congr_left fun p _ => ?_
    show (if p.1 = q then (p.1, b) else p).1 = p.1
    split <;> rfl
  | false => rw [putQ_new e, List.map_append]; rfl
theorem hasK_put {β : Type} {kvs : List (Sq × β)} {q p : Sq} {b : β} : hasK (putQ kvs q b) p = true ↔ p = q ∨ hasK kvs p = true := by
  rw [hasK_iff, putQ_keys]
  cases e : hasK kvs q with
  | true =>
    rw [if_pos rfl]
    exact ⟨fun h => .inr (hasK_iff.mpr h), fun h => h.elim (fun h => by rw [h]; exact hasK_iff.mp e) hasK_iff.mp⟩
  | false =>
    rw [if_neg (by decide), List.mem_append, List.mem_singleton]
    exact ⟨fun h => h.elim (fun h => .inr (hasK_iff.mpr h)) .inl, fun h => h.elim .inr fun h => .inl (hasK_iff.mp h)⟩
structure KN {β : Type} (kvs : List (Sq × β)) (U : List Sq) : Prop where
  nd : (kvs.map (·.1)).Nodup
  sub : ∀ q ∈ kvs.map (·.1), q ∈ U
theorem KN.nil {β : Type} {U : List Sq} : KN ([] : List (Sq × β)) U := ⟨List.nodup_nil, fun _ h => by cases h⟩
theorem KN.put {β : Type} {kvs : List (Sq × β)} {U : List Sq} {q : Sq} {b : β} (h : KN kvs U) (hq : q ∈ U) : KN (putQ kvs q b) U := by
  constructor
  · rw [putQ_keys]
    cases e : hasK kvs q with
    | true => exact h.nd
    | false =>
      rw [if_neg (by decide), List.nodup_append]
      refine ⟨h.nd, by simp, fun x hx y hy => ?_⟩
      rw [List.mem_singleton.mp hy]
      rintro rfl
      exact hasK_false.mp e hx
  · intro p hp
    rcases hasK_put.mp (hasK_iff.mpr hp) with e | e
    · rw [e]; exact hq
    · exact h.sub p (hasK_iff.mp e)
theorem KN.len {β : Type} {kvs : List (Sq × β)} {U : List Sq} (h : KN kvs U) : kvs.length ≤ U.length := by
  have := nodup_le h.nd h.sub
  rwa [List.length_map] at this
/-- all of a row put into a dict of marks -/
theorem mark_all {U : List Sq} (hU : U.length < 100000) : ∀ {row : List Sq} {kvs : List (Sq × Bool)}, KN kvs U → (∀ q ∈ row, q ∈ U) → ∀ {ρ γ : Type} {f : List (Sq × Bool) → WP ρ} {r : γ → WP ρ} {n : Nat} {Q : Nat → ρ → Prop}, (∀ k, KN k U → (∀ q, hasK k q = true ↔ q ∈ row ∨ hasK kvs q = true) → (f k).run n Q) →
    (WP.after (WP.loop (γ := γ) (fun c6 (y6 : (List (Sq × Bool))) => (WP.b2 (WP.pure true) (WP.pure c6) fun b q => WP.req (y6.length < 100000) (putQ y6 q b)).bind fun a7_known => (WP.pure (.nx a7_known))) row kvs) f r).run n Q
  | [], kvs, k, _, _, _, _, _, _, _, h => h kvs k fun q => ⟨.inr, fun z => z.elim (fun z => by cases z) id⟩
  | x :: row, kvs, k, hr, _, _, f, r, n, Q, h => by
    have hl := k.len
    refine (show _ ∧ _ from ⟨by show kvs.length < 100000; omega, ?_⟩)
    refine mark_all hU (k.put (hr x List.mem_cons_self)) (fun q m => hr q (List.mem_cons_of_mem _ m)) fun k' hk' hk => h k' hk' fun q => ?_
    rw [hk, hasK_put, List.mem_cons]
    constructor
    · rintro (a | a | a)
      · exact .inl (.inr a)
      · exact .inl (.inl a)
      · exact .inr a
    · rintro ((a | a) | a)
      · exact .inr (.inl a)
      · exact .inl a
      · exact .inr (.inr a)
theorem reg_of {st : Sq → List Sq} {s : Sq} {kvs : List (Sq × Option Sq)} {l : List Sq} (m : Met st s kvs) (p : l.Perm (kvs.map (·.1))) (o : l.Pairwise leQ) : IsReg st s l :=
  ⟨srt_of p m.nd o, fun q => by rw [p.mem_iff]; exact m.mem⟩
def regions_ofM (a_chart : (List Str)) (a_squares : (List Sq)) (a_steps : ((List Str) → Sq → WP (List Sq))) : WP (List (List Sq)) := (WP.pure ([] : (List (Sq × Bool)))).bind fun a1_known => (WP.row (WP.pure ([] : List (List Sq)))).bind fun a2_found => WP.after (WP.loop (γ := (List (List Sq))) (fun c3 (y3 : (List (Sq × Bool)) × (List (List Sq))) => ((WP.not (WP.din (WP.pure c3) (WP.pure y3.1))).bind fun b => WP.cond b ((WP.sortQ (WP.keys (WP.b3 (WP.pure a_chart) (WP.pure c3) (WP.pure a_steps) met_fromM))).bind fun a5_region => WP.after (WP.loop (γ := (List (List Sq))) (fun c6 (y6 : (List (Sq × Bool))) => (WP.b2 (WP.pure true) (WP.pure c6) fun b q => WP.req (y6.length < 100000) (putQ y6 q b)).bind fun a7_known => (WP.pure (.nx a7_known))) a5_region y3.1) (fun (z6 : (List (Sq × Bool))) => (((WP.pure a5_region).bind fun xs => WP.pure (α := List _) xs).bind fun a => WP.req (y3.2.length < 100000) (y3.2 ++ [a])).bind fun a8_found => (WP.pure (z6, a8_found))) (fun r => (WP.none (b := r)))) ((WP.pure (y3.1, y3.2)))).bind fun (y4 : (List (Sq × Bool)) × (List (List Sq))) => (WP.pure (.nx (y4.1, y4.2)))) a_squares (a1_known, a2_found)) (fun (z3 : (List (Sq × Bool)) × (List (List Sq))) => (WP.pure z3.2)) (fun r => (WP.pure r))
theorem regions_of_gives {ch : List Str} {xs : List Sq} {steps : List Str → Sq → WP (List Sq)} {st : Sq → List Sq} {U : List Sq} (hst : ∀ x ∈ xs, ∀ q, Rch st x q → Is (steps ch q) (st q)) (hU : ∀ x ∈ xs, ∀ q, Rch st x q → q ∈ U) (hl : U.length < 100000) (hxs : xs.length < 100000) : Gives (regions_ofM ch xs steps) (Regs st xs []) := by
  intro n Q hQ
  unfold regions_ofM
  (simp only [WP.run_bind, WP.run_pure, WP.run_req, WP.run_any, WP.run_take, WP.run_cond, WP.run_range1, WP.run_range2, decide_eq_true_eq, decide_eq_false_iff_not, Bool.not_eq_true', Bool.not_eq_false'])
  refine ⟨by simp, ?_⟩
  refine WP.after_inv (fun i m y => m = n ∧ Regs st (xs.take i) [] y.2 ∧ (∀ q, hasK y.1 q = true ↔ ∃ l ∈ y.2, q ∈ l) ∧ KN y.1 U ∧ ∀ l ∈ y.2, ∀ q ∈ l, q ∈ U) ⟨rfl, rfl, fun q => ⟨fun h => (by cases h), fun ⟨l, h, _⟩ => (by cases h)⟩, KN.nil, fun l h => (by cases h)⟩ ?_ ?_
  · rintro i m x ⟨kv, R⟩ hx ⟨rfl, hR, hk, kn, hsub⟩
    dsimp only at hR hk kn hsub
    have hxm : x ∈ xs := List.mem_of_getElem? hx
    have hi := (List.getElem?_eq_some_iff.mp hx).1
    have hlen := hR.len
    rw [List.length_take] at hlen
    have hlen : R.length ≤ i := by simp at hlen; omega
    (simp only [WP.run_bind, WP.run_pure, WP.run_req, WP.run_any, WP.run_take, WP.run_cond, WP.run_range1, WP.run_range2, decide_eq_true_eq, decide_eq_false_iff_not, Bool.not_eq_true', Bool.not_eq_false'])
    refine ⟨fun hn => ?_, fun hy => ?_⟩
    · have hnot : ∀ l ∈ R, x ∉ l := fun l hl hm => by
        rw [(hk x).mpr ⟨l, hl, hm⟩] at hn; cases hn
      refine met_gives (hst x hxm) (hU x hxm) hl _ _ fun kvs mt => ?_
      rintro l ⟨lp, lo⟩
      have hreg := reg_of mt lp lo
      refine mark_all hl kn (fun q hq => hU x hxm q ((hreg.2 q).mp hq)) fun k' kn' hk' => ?_
      (simp only [WP.run_bind, WP.run_pure, WP.run_req, WP.run_any, WP.run_take, WP.run_cond, WP.run_range1, WP.run_range2, decide_eq_true_eq, decide_eq_false_iff_not, Bool.not_eq_true', Bool.not_eq_false'])
      refine ⟨by omega, rfl, ?_, fun q => ?_, kn', fun l' hl' q hq => ?_⟩
      · rw [Y.take_snoc hx]; exact (hR.snoc).2 l hnot hreg
      · rw [hk', hk]
        constructor
        · rintro (h | ⟨m, hm, h⟩)
          · exact ⟨l, List.mem_append_right _ (List.mem_singleton.mpr rfl), h⟩
          · exact ⟨m, List.mem_append_left _ hm, h⟩
        · rintro ⟨m, hm, h⟩
          rcases List.mem_append.mp hm with hm | hm
          · exact .inr ⟨m, hm, h⟩
          · rw [List.mem_singleton.mp hm] at h; exact .inl h
      · rcases List.mem_append.mp hl' with hm | hm
        · exact hsub l' hm q hq
        · rw [List.mem_singleton.mp hm] at hq; exact hU x hxm q ((hreg.2 q).mp hq)
    · refine ⟨rfl, ?_, hk, kn, hsub⟩
      rw [Y.take_snoc hx]; exact (hR.snoc).1 ((hk x).mp hy)
  · rintro m ⟨kv, R⟩ ⟨rfl, hR, _⟩
    dsimp only at hR
    rw [List.take_length] at hR
    (simp only [WP.run_bind, WP.run_pure, WP.run_req, WP.run_any, WP.run_take, WP.run_cond, WP.run_range1, WP.run_range2, decide_eq_true_eq, decide_eq_false_iff_not, Bool.not_eq_true', Bool.not_eq_false'])
    exact hQ _ hR
end Y

/-! waters: neighbours, the margin, lands and waters of the program -/
namespace Y
open PySem PySem.Spec PyProof.Rows L2
def nbrs (q : Sq) : List Sq := [(q.1 + -1, q.2 + -1), (q.1 + -1, q.2 + 0), (q.1 + -1, q.2 + 1), (q.1 + 0, q.2 + -1), (q.1 + 0, q.2 + 1), (q.1 + 1, q.2 + -1), (q.1 + 1, q.2 + 0), (q.1 + 1, q.2 + 1)]
def neighboursM (a_square : Sq) : WP (List Sq) := (WP.pure a_square).bind fun a1_row_column => (WP.row (WP.pure ([] : List Sq))).bind fun a2_found => (WP.row (WP.consE (WP.neg (WP.pure (1 : Int))) (WP.consE (WP.pure (0 : Int)) (WP.consE (WP.pure (1 : Int)) (WP.pure []))))).bind fun xs3 => WP.after (WP.loop (γ := (List Sq)) (fun c3 (y3 : (List Sq)) => (WP.row (WP.consE (WP.neg (WP.pure (1 : Int))) (WP.consE (WP.pure (0 : Int)) (WP.consE (WP.pure (1 : Int)) (WP.pure []))))).bind fun xs4 => WP.after (WP.loop (γ := (List Sq)) (fun c4 (y4 : (List Sq)) => ((WP.or (WP.ne (WP.pure c3) (WP.pure (0 : Int))) (WP.ne (WP.pure c4) (WP.pure (0 : Int)))).bind fun b => WP.cond b (((WP.pair (WP.add (WP.pure a1_row_column.1) (WP.pure c3)) (WP.add (WP.pure a1_row_column.2) (WP.pure c4))).bind fun a => WP.req (y4.length < 100000) (y4 ++ [a])).bind fun a6_found => (WP.pure a6_found)) ((WP.pure y4))).bind fun (y5 : (List Sq)) => (WP.pure (.nx y5))) xs4 y3) (fun (z4 : (List Sq)) => (WP.pure (.nx z4))) (fun r => (WP.pure (.rt r)))) xs3 a2_found) (fun (z3 : (List Sq)) => (WP.pure z3)) (fun r => (WP.pure r))
theorem neighbours_is (q : Sq) : Is (neighboursM q) (nbrs q) := by
  intro n Q h
  exact ⟨by simp, by simp, by simp, by simp, by simp, by simp, by simp, by simp, by simp, by simp, by simp, by simp, by simp, h⟩
theorem mem_nbrs {a p : Sq} : p ∈ nbrs a ↔ (a.1 - 1 ≤ p.1 ∧ p.1 ≤ a.1 + 1 ∧ a.2 - 1 ≤ p.2 ∧ p.2 ≤ a.2 + 1) ∧ p ≠ a := by
  obtain ⟨r, c⟩ := a
  obtain ⟨x, y⟩ := p
  unfold nbrs
  simp only [List.mem_cons, List.not_mem_nil, or_false, Prod.mk.injEq, ne_eq]
  omega
theorem nbrs_symm {p q : Sq} (h : q ∈ nbrs p) : p ∈ nbrs q := by
  rw [mem_nbrs] at h ⊢
  exact ⟨by omega, fun e => h.2 e.symm⟩
def isNr (ch : List Str) (q : Sq) : Bool := (decide (-1 ≤ q.1) && decide (q.1 ≤ (ch.length : Int))) && (decide (-1 ≤ q.2) && decide (q.2 ≤ (wid ch : Int)))
theorem isNr_iff {ch : List Str} {q : Sq} : isNr ch q = true ↔ -1 ≤ q.1 ∧ q.1 ≤ (ch.length : Int) ∧ -1 ≤ q.2 ∧ q.2 ≤ (wid ch : Int) := by
  unfold isNr
  simp only [Bool.and_eq_true, decide_eq_true_eq]
  exact ⟨fun ⟨⟨a, b⟩, c, d⟩ => ⟨a, b, c, d⟩, fun ⟨a, b, c, d⟩ => ⟨⟨a, b⟩, c, d⟩⟩
theorem isSq_nr {ch : List Str} {q : Sq} (h : isSq ch q = true) : isNr ch q = true := by
  rw [isSq_iff] at h
  rw [isNr_iff]; omega
/-- water, of the chart or the margin -/
def isWt (ch : List Str) (q : Sq) : Bool := isNr ch q && !isLd ch q
theorem isWt_iff {ch : List Str} {q : Sq} : isWt ch q = true ↔ isNr ch q = true ∧ isLd ch q = false := by
  unfold isWt
  rw [Bool.and_eq_true, Bool.not_eq_true']
def wtBeside (ch : List Str) (q : Sq) : List Sq := (nbrs q).filter (isWt ch)
theorem mem_wtB {ch : List Str} {p q : Sq} : q ∈ wtBeside ch p ↔ q ∈ nbrs p ∧ isWt ch q = true := List.mem_filter
def is_nearM (a_chart : (List Str)) (a_square : Sq) : WP Bool := (WP.pure a_square).bind fun a1_row_column => (WP.and (WP.chain (fun i j => decide (i ≤ j)) (fun i j => decide (i ≤ j)) (WP.neg (WP.pure (1 : Int))) (WP.pure a1_row_column.1) (WP.len (WP.pure a_chart))) (WP.chain (fun i j => decide (i ≤ j)) (fun i j => decide (i ≤ j)) (WP.neg (WP.pure (1 : Int))) (WP.pure a1_row_column.2) (WP.lenS (WP.ix (WP.pure a_chart) (WP.pure (0 : Int)))))).bind fun r2 => (WP.pure r2)
theorem is_near_is {ch : List Str} (c : Ch ch) (q : Sq) : Is (is_nearM ch q) (isNr ch q) :=
  Is.pure.bind (Is.ret (Is.and (Is.chain (Is.pure.bind Is.pure) Is.pure fun _ => Is.len Is.pure) fun _ => Is.chain (Is.pure.bind Is.pure) Is.pure fun _ => Is.wid0 c))
def is_near_waterM (a_chart : (List Str)) (a_square : Sq) : WP Bool := (WP.and (WP.b2 (WP.pure a_chart) (WP.pure a_square) is_nearM) (WP.not (WP.b2 (WP.pure a_chart) (WP.pure a_square) is_landM))).bind fun r1 => (WP.pure r1)
theorem is_near_water_is {ch : List Str} (c : Ch ch) (q : Sq) : Is (is_near_waterM ch q) (isWt ch q) :=
  Is.ret (Is.and (Is.b2 Is.pure Is.pure (is_near_is c q)) fun _ => Is.not (Is.b2 Is.pure Is.pure (is_land_is c q)))
def water_stepsM (a_chart : (List Str)) (a_square : Sq) : WP (List Sq) := (WP.lc (WP.b1 (WP.pure a_square) neighboursM) (fun c1 => (WP.b2 (WP.pure a_chart) (WP.pure c1) is_near_waterM)) (fun c1 => (WP.pure c1))).bind fun r1 => (WP.pure r1)
theorem water_steps_is {ch : List Str} (c : Ch ch) (q : Sq) : Is (water_stepsM ch q) (wtBeside ch q) :=
  Is.ret (Is.lcF (Is.b1 Is.pure (neighbours_is q)) (by simp [nbrs]) fun x _ => Is.b2 Is.pure Is.pure (is_near_water_is c x))
theorem rch_wt {ch : List Str} {s q : Sq} (h : Rch (wtBeside ch) s q) : q = s ∨ isWt ch q = true := by
  induction h with
  | refl => exact .inl rfl
  | step _ h _ => exact .inr (mem_wtB.mp h).2
theorem wch_symm {ch : List Str} {a b : Sq} (ha : isWt ch a = true) (h : Rch (wtBeside ch) a b) : Rch (wtBeside ch) b a := by
  induction h with
  | refl => exact .refl
  | step h1 h2 ih =>
    have hp : isWt ch _ = true := (rch_wt h1).elim (fun e => e ▸ ha) id
    exact (Rch.one (mem_wtB.mpr ⟨nbrs_symm (mem_wtB.mp h2).1, hp⟩)).trans ih
/-- the squares of the chart and the margin, in order: the first i rows -/
def mcRow (ch : List Str) (r : Int) : List Sq := (List.range (wid ch + 2)).map fun (c : Nat) => ((r, (c : Int) - 1) : Sq)
def mcTo (ch : List Str) (i : Nat) : List Sq := (List.range i).flatMap fun (r : Nat) => mcRow ch ((r : Int) - 1)
def mc (ch : List Str) : List Sq := mcTo ch (ch.length + 2)
theorem mcTo_succ (ch : List Str) (i : Nat) : mcTo ch (i + 1) = mcTo ch i ++ mcRow ch ((i : Int) - 1) := by
  unfold mcTo
  rw [List.range_succ, List.flatMap_append]
  simp
theorem mem_mcTo {ch : List Str} {i : Nat} {q : Sq} : q ∈ mcTo ch i ↔ -1 ≤ q.1 ∧ q.1 < (i : Int) - 1 ∧ -1 ≤ q.2 ∧ q.2 ≤ (wid ch : Int) := by
  unfold mcTo mcRow
  simp only [List.mem_flatMap, List.mem_map, List.mem_range]
  constructor
  · rintro ⟨r, hr, c, hc, rfl⟩
    dsimp only; omega
  · rintro ⟨h1, h2, h3, h4⟩
    exact ⟨(q.1 + 1).toNat, by omega, (q.2 + 1).toNat, by omega, by apply Prod.ext <;> dsimp only <;> omega⟩
theorem mem_mc {ch : List Str} {q : Sq} : q ∈ mc ch ↔ isNr ch q = true := by
  unfold mc
  rw [mem_mcTo, isNr_iff]; omega
theorem mcTo_srt (ch : List Str) : ∀ i, (mcTo ch i).Pairwise ltQ := fun i => by
  induction i with
  | zero => exact List.Pairwise.nil
  | succ i ih =>
    rw [mcTo_succ, List.pairwise_append]
    refine ⟨ih, ?_, fun a ha b hb => ?_⟩
    · unfold mcRow
      rw [List.pairwise_map]
      refine List.Pairwise.imp (fun {a b} h => ?_) (List.pairwise_lt_range (n := wid ch + 2))
      unfold ltQ; dsimp only; omega
    · have := mem_mcTo.mp ha
      unfold mcRow at hb
      obtain ⟨d, _, rfl⟩ := List.mem_map.mp hb
      unfold ltQ; dsimp only; omega
theorem mc_srt (ch : List Str) : (mc ch).Pairwise ltQ := mcTo_srt ch _
theorem mcRow_len (ch : List Str) (r : Int) : (mcRow ch r).length = wid ch + 2 := by unfold mcRow; simp
theorem mcTo_len (ch : List Str) (i : Nat) : (mcTo ch i).length = i * (wid ch + 2) := by
  unfold mcTo
  rw [flatMap_len _ _ (wid ch + 2) fun x _ => mcRow_len ch _, List.length_range]
theorem mc_len {ch : List Str} (c : Ch ch) : (mc ch).length ≤ 91204 := by
  unfold mc
  rw [mcTo_len]
  exact Nat.mul_le_mul (show ch.length + 2 ≤ 302 by have := c.hl; omega) (show wid ch + 2 ≤ 302 by have := c.wl; omega)
/-- a loop that collects -/
theorem Is.collect {α β γ ρ : Type} {body : α → List β → WP (Ctl (List β) γ)} {p : α → Bool} {g : α → β} {f : List β → WP ρ} {r : γ → WP ρ} {z : ρ} : ∀ {xs : List α} {y : List β}, y.length + xs.length ≤ 100000 → (∀ x ∈ xs, ∀ y : List β, y.length < 100000 → Is (body x y) (.nx (if p x then y ++ [g x] else y))) → Is (f (y ++ (xs.filter p).map g)) z → Is (WP.after (WP.loop body xs y) f r) z
  | [], y, _, _, h => Is.loopNil (by rw [List.filter_nil, List.map_nil, List.append_nil] at h; exact h)
  | x :: xs, y, hl, hb, h => by
    rw [List.length_cons] at hl
    refine Is.loopNx (hb x List.mem_cons_self y (by omega)) ?_
    have hb' : ∀ x ∈ xs, ∀ y : List β, y.length < 100000 → Is (body x y) (.nx (if p x then y ++ [g x] else y)) := fun x m => hb x (List.mem_cons_of_mem _ m)
    cases e : p x with
    | true =>
      rw [List.filter_cons_of_pos e, List.map_cons] at h
      refine Is.collect (xs := xs) (y := y ++ [g x]) (by rw [List.length_append, List.length_singleton]; omega) hb' ?_
      rw [List.append_assoc]; exact h
    | false =>
      rw [List.filter_cons_of_neg (by rw [e]; decide)] at h
      exact Is.collect (xs := xs) (y := y) (by omega) hb' h
theorem filter_len_split {α : Type} (xs : List α) (p : α → Bool) : (xs.filter p).length + (xs.filter fun x => !p x).length = xs.length := by
  induction xs with
  | nil => rfl
  | cons x xs ih =>
    cases e : p x with
    | true => rw [List.filter_cons_of_pos e, List.filter_cons_of_neg (by rw [e]; decide), List.length_cons, List.length_cons]; omega
    | false => rw [List.filter_cons_of_neg (by rw [e]; decide), List.filter_cons_of_pos (by rw [e]; rfl), List.length_cons, List.length_cons]; omega
theorem rangeM (k : Nat) : rangeL (-1) ((k : Int) + 1) = (List.range (k + 2)).map fun (i : Nat) => (i : Int) - 1 := by
  unfold rangeL
  rw [show (((k : Int) + 1) - -1).toNat = k + 2 by omega]
  exact List.map_congr_left fun i _ => by omega
def margin_squaresM (a_chart : (List Str)) : WP (List Sq) := (WP.row (WP.pure ([] : List Sq))).bind fun a1_found => (WP.range2 (WP.neg (WP.pure (1 : Int))) (WP.add (WP.len (WP.pure a_chart)) (WP.pure (1 : Int)))).bind fun xs2 => WP.after (WP.loop (γ := (List Sq)) (fun c2 (y2 : (List Sq)) => (WP.range2 (WP.neg (WP.pure (1 : Int))) (WP.add (WP.lenS (WP.ix (WP.pure a_chart) (WP.pure (0 : Int)))) (WP.pure (1 : Int)))).bind fun xs3 => WP.after (WP.loop (γ := (List Sq)) (fun c3 (y3 : (List Sq)) => ((WP.not (WP.b2 (WP.pure a_chart) (WP.pair (WP.pure c2) (WP.pure c3)) is_squareM)).bind fun b => WP.cond b (((WP.pair (WP.pure c2) (WP.pure c3)).bind fun a => WP.req (y3.length < 100000) (y3 ++ [a])).bind fun a5_found => (WP.pure a5_found)) ((WP.pure y3))).bind fun (y4 : (List Sq)) => (WP.pure (.nx y4))) xs3 y2) (fun (z3 : (List Sq)) => (WP.pure (.nx z3))) (fun r => (WP.pure (.rt r)))) xs2 a1_found) (fun (z2 : (List Sq)) => (WP.pure z2)) (fun r => (WP.pure r))
theorem margin_squares_is {ch : List Str} (c : Ch ch) : Is (margin_squaresM ch) ((mc ch).filter fun q => !isSq ch q) := by
  have hl := c.hl
  have hw := c.wl
  refine Is.bind (Is.req (by simp)) (Is.bind (Is.range2 (x := -1) (y := (ch.length : Int) + 1) (Is.pure.bind Is.pure) (Is.b2 (Is.len Is.pure) Is.pure Is.pure) (by omega) (by omega) (by omega) (by omega)) ?_)
  have hlen : (rangeL (-1) ((ch.length : Int) + 1)).length = ch.length + 2 := by rw [rangeL_len]; omega
  refine Is.loop (fun i => (mcTo ch i).filter fun q => !isSq ch q) rfl (fun i r hr => ?_) (by rw [hlen]; exact Is.pure.bind Is.pure)
  have hi : i < ch.length + 2 := by
    have := (List.getElem?_eq_some_iff.mp hr).1
    rwa [hlen] at this
  have er : r = (i : Int) - 1 := by
    rw [rangeM, List.getElem?_map, List.getElem?_range hi] at hr
    exact (Option.some.inj hr).symm
  subst er
  refine Is.bind (Is.range2 (x := -1) (y := (wid ch : Int) + 1) (Is.pure.bind Is.pure) (Is.b2 (Is.wid0 c) Is.pure Is.pure) (by omega) (by omega) (by omega) (by omega)) ?_
  have hb : ((mcTo ch i).filter fun q => !isSq ch q).length ≤ 302 * 302 := by
    refine Nat.le_trans (List.length_filter_le _ _) ?_
    rw [mcTo_len]
    exact Nat.mul_le_mul (by omega) (by omega)
  refine Is.collect (p := fun k => !isSq ch ((i : Int) - 1, k)) (g := fun k => ((i : Int) - 1, k)) (by rw [rangeL_len]; omega) (fun k hk y hy => ?_) ?_
  · refine Is.bind (a := if !isSq ch ((i : Int) - 1, k) then y ++ [((i : Int) - 1, k)] else y) (Is.bind (Is.not (Is.b2 Is.pure (Is.b2 Is.pure Is.pure Is.pure) (is_square_is c _))) ?_) Is.pure
    cases isSq ch ((i : Int) - 1, k) with
    | true => exact Is.pure
    | false => exact Is.bind (Is.bind (Is.b2 Is.pure Is.pure Is.pure) (Is.req hy)) Is.pure
  · refine Is.pure.eq ?_
    rw [mcTo_succ, List.filter_append]
    congr 2
    rw [rangeM]
    unfold mcRow
    rw [List.filter_map, List.filter_map, List.map_map]
    rfl
def water_squaresM (a_chart : (List Str)) : WP (List Sq) := (WP.sortQ (WP.cat (WP.lc (WP.b1 (WP.pure a_chart) squares_ofM) (fun c1 => (WP.not (WP.b2 (WP.pure a_chart) (WP.pure c1) is_landM))) (fun c1 => (WP.pure c1))) (WP.b1 (WP.pure a_chart) margin_squaresM))).bind fun r1 => (WP.pure r1)
theorem water_squares_gives {ch : List Str} (c : Ch ch) : Gives (water_squaresM ch) (· = (mc ch).filter (isWt ch)) := by
  intro n Q hQ
  have ha := c.area
  have hm := mc_len c
  have h0 := List.length_filter_le (fun q => !isLd ch q) (allSq ch)
  have h1 := List.length_filter_le (fun q => !isSq ch q) (mc ch)
  have hsum : ((allSq ch).filter fun q => !isLd ch q).length + ((mc ch).filter fun q => !isSq ch q).length ≤ 100000 := by
    have e : (mc ch).length = ((mc ch).filter fun q => !isSq ch q).length + ((mc ch).filter fun q => !(!isSq ch q)).length := (filter_len_split _ _).symm
    have e2 : ((mc ch).filter fun q => !(!isSq ch q)) = allSq ch := by
      refine srt_ext ((mc_srt ch).sublist List.filter_sublist) (allSq_srt ch) fun q => ?_
      rw [List.mem_filter, mem_mc, mem_allSq, Bool.not_not]
      exact ⟨fun h => h.2, fun h => ⟨isSq_nr h, h⟩⟩
    rw [e2] at e
    omega
  unfold water_squaresM
  rw [WP.run_bind, WP.run_bind]
  refine (Is.b2 (Is.lcF (p := fun q => !isLd ch q) (Is.b1 Is.pure (squares_of_is c)) (by omega) fun x _ => Is.not (Is.b2 Is.pure Is.pure (is_land_is c x))) (Is.b1 Is.pure (margin_squares_is c)) (Is.req hsum) : Is (WP.cat _ _) _) _ _ ?_
  rintro l ⟨lp, lo⟩
  refine hQ _ ?_
  refine srt_ext (srt_of lp ?_ lo) ((mc_srt ch).sublist List.filter_sublist) fun q => ?_
  · rw [List.nodup_append]
    refine ⟨(srt_nodup (allSq_srt ch)).sublist List.filter_sublist, (srt_nodup (mc_srt ch)).sublist List.filter_sublist, fun a ha b hb e => ?_⟩
    subst e
    have := mem_allSq.mp (List.mem_filter.mp ha).1
    have h2 := (List.mem_filter.mp hb).2
    rw [this] at h2; cases h2
  · rw [lp.mem_iff, List.mem_append, List.mem_filter, List.mem_filter, List.mem_filter, mem_allSq, mem_mc, isWt_iff, Bool.not_eq_true', Bool.not_eq_true']
    constructor
    · rintro (⟨h, h'⟩ | ⟨h, h'⟩)
      · exact ⟨isSq_nr h, isSq_nr h, h'⟩
      · refine ⟨h, h, ?_⟩
        cases e : isLd ch q with
        | true => rw [isLd_sq e] at h'; cases h'
        | false => rfl
    · rintro ⟨h, _, h'⟩
      cases e : isSq ch q with
      | true => exact .inl ⟨rfl, h'⟩
      | false => exact .inr ⟨h, rfl⟩
def landList (ch : List Str) : List Sq := (allSq ch).filter (isLd ch)
def waterList (ch : List Str) : List Sq := (mc ch).filter (isWt ch)
abbrev LandsOf (ch : List Str) (R : List (List Sq)) : Prop := Regs (ldBeside ch) (landList ch) [] R
abbrev WatersOf (ch : List Str) (R : List (List Sq)) : Prop := Regs (wtBeside ch) (waterList ch) [] R
theorem mem_landList {ch : List Str} {q : Sq} : q ∈ landList ch ↔ isLd ch q = true := by
  unfold landList
  rw [List.mem_filter, mem_allSq]
  exact ⟨fun h => h.2, fun h => ⟨isLd_sq h, h⟩⟩
theorem mem_waterList {ch : List Str} {q : Sq} : q ∈ waterList ch ↔ isWt ch q = true := by
  unfold waterList
  rw [List.mem_filter, mem_mc]
  exact ⟨fun h => h.2, fun h => ⟨(isWt_iff.mp h).1, h⟩⟩
def watersM (a_chart : (List Str)) : WP (List (List Sq)) := (WP.b3 (WP.pure a_chart) (WP.b1 (WP.pure a_chart) water_squaresM) (WP.pure water_stepsM) regions_ofM).bind fun r1 => (WP.pure r1)
theorem waters_gives {ch : List Str} (c : Ch ch) : Gives (watersM ch) (WatersOf ch) := by
  intro n Q hQ
  have ha := mc_len c
  have h0 := List.length_filter_le (isWt ch) (mc ch)
  unfold watersM
  rw [WP.run_bind]
  refine water_squares_gives c _ _ fun xs hx => ?_
  subst hx
  exact regions_of_gives (U := mc ch) (fun x _ q _ => water_steps_is c q) (fun x hx q hq => mem_mc.mpr ((rch_wt hq).elim (fun e => e ▸ (isWt_iff.mp (mem_waterList.mp hx)).1) fun h => (isWt_iff.mp h).1)) (by omega) (show (waterList ch).length < 100000 by unfold waterList; omega) n _ hQ
end Y

/-! the laws' own floods (k07 and others) -/
namespace Y
open PySem PySem.Spec PyProof.Rows L2
def law_at7M (a_chart : (List Str)) (a_r : Int) (a_c : Int) : WP Bool := (WP.and (WP.chain (fun i j => decide (i ≤ j)) (fun i j => decide (i < j)) (WP.pure (0 : Int)) (WP.pure a_r) (WP.len (WP.pure a_chart))) (WP.and (WP.chain (fun i j => decide (i ≤ j)) (fun i j => decide (i < j)) (WP.pure (0 : Int)) (WP.pure a_c) (WP.lenS (WP.ix (WP.pure a_chart) (WP.pure (0 : Int))))) (WP.eq (WP.ixS (WP.ix (WP.pure a_chart) (WP.pure a_r)) (WP.pure a_c)) (WP.pure (Str.ofString "x"))))).bind fun r1 => (WP.pure r1)
theorem law_at7_is {ch : List Str} (c : Ch ch) (r k : Int) : Is (law_at7M ch r k) (isLd ch (r, k)) := by
  refine Is.ret (Is.eq (Is.and (Is.chain Is.pure Is.pure fun _ => Is.len Is.pure) fun h1 => Is.and (x := decide ((0 : Int) ≤ k) && decide (k < (wid ch : Int))) (Is.chain Is.pure Is.pure fun _ => Is.wid0 c) fun h2 => Is.eqv (x := sgn (ixD ch r) k) (y := (Str.ofString "x")) ?_ Is.pure) ?_)
  · simp only [Bool.and_eq_true, decide_eq_true_eq] at h1 h2
    exact Is.sign c (q := (r, k)) (isSq_iff.mpr ⟨h1.1, h1.2, h2.1, h2.2⟩)
  · unfold isLd isSq
    simp only [Bool.and_assoc]
def ok7 (ch : List Str) (wet : Bool) (q : Sq) : Bool := if wet then isWt ch q else isLd ch q
end Y

/-! squares of a chart changed; the drawn grid of k07 and others -/
namespace Y
open PySem PySem.Spec PyProof.Rows L2
end Y

/-! the sea and the lakes; joined and drained -/
namespace Y
open PySem PySem.Spec PyProof.Rows L2
theorem Regs.pre {st : Sq → List Sq} : ∀ {xs : List Sq} {acc R : List (List Sq)}, Regs st xs acc R → ∃ t, R = acc ++ t
  | [], _, _, h => ⟨[], by rw [show _ = _ from h, List.append_nil]⟩
  | x :: xs, acc, R, h => by
    rcases h with ⟨_, h⟩ | ⟨_, l, _, h⟩
    · exact h.pre
    · obtain ⟨t, e⟩ := h.pre
      exact ⟨l :: t, by rw [e, List.append_assoc]; rfl⟩
theorem wet_out {ch : List Str} {q : Sq} (h : isNr ch q = true) (h' : isSq ch q = false) : isWt ch q = true := isWt_iff.mpr ⟨h, by
  cases e : isLd ch q with
  | true => rw [isLd_sq e] at h'; cases h'
  | false => rfl⟩
theorem sq_no {ch : List Str} {q : Sq} (h : q.1 < 0 ∨ (ch.length : Int) ≤ q.1 ∨ q.2 < 0 ∨ (wid ch : Int) ≤ q.2) : isSq ch q = false := by
  cases e : isSq ch q with
  | false => rfl
  | true => rw [isSq_iff] at e; omega
theorem corner_wt (ch : List Str) : isWt ch (-1, -1) = true := wet_out (isNr_iff.mpr ⟨by show (-1 : Int) ≤ -1; omega, by show (-1 : Int) ≤ _; omega, by show (-1 : Int) ≤ -1; omega, by show (-1 : Int) ≤ _; omega⟩) (sq_no (.inl (by show (-1 : Int) < 0; omega)))
theorem waterList_cons (ch : List Str) : ∃ t, waterList ch = (-1, -1) :: t := by
  unfold waterList mc
  have e : mcTo ch (ch.length + 2) = (-1, -1) :: (mcTo ch (ch.length + 2)).tail := by
    have h : ((mcTo ch (ch.length + 2)).head?) = some ((-1 : Int), (-1 : Int)) := by
      unfold mcTo mcRow
      rw [List.range_succ_eq_map (n := wid ch + 1), List.range_succ_eq_map (n := ch.length + 1), List.flatMap_cons]
      rfl
    cases e2 : mcTo ch (ch.length + 2) with
    | nil => rw [e2] at h; cases h
    | cons a t => rw [e2] at h; cases h; rfl
  rw [e, List.filter_cons_of_pos (corner_wt ch)]
  exact ⟨_, rfl⟩
theorem WatersOf.cons {ch : List Str} {R : List (List Sq)} (h : WatersOf ch R) : ∃ S L, R = S :: L ∧ IsReg (wtBeside ch) (-1, -1) S := by
  obtain ⟨t, e⟩ := waterList_cons ch
  unfold WatersOf at h
  rw [e] at h
  rcases h with ⟨⟨l, hl, _⟩, _⟩ | ⟨_, l, hl, h⟩
  · cases hl
  · obtain ⟨t, e⟩ := h.pre
    exact ⟨l, t, e, hl⟩
theorem cutL_tail {α : Type} {x : α} {xs : List α} : cutL (x :: xs) (some 1) none = xs := by
  rw [cutL_hi (by omega) (by rw [List.length_cons]; omega)]; rfl
def lakesM (a_chart : (List Str)) : WP (List (List Sq)) := (WP.cut (WP.b1 (WP.pure a_chart) watersM) ((WP.pure (1 : Int)).bind fun x => WP.pure (some x)) (WP.pure none)).bind fun r1 => (WP.pure r1)
def drainsM (a_chart : (List Str)) (a_square : Sq) : WP Bool := (WP.din (WP.pair (WP.neg (WP.pure (1 : Int))) (WP.neg (WP.pure (1 : Int)))) (WP.b3 (WP.pure a_chart) (WP.pure a_square) (WP.pure water_stepsM) met_fromM)).bind fun r1 => (WP.pure r1)
theorem lakes_gives {ch : List Str} (c : Ch ch) : Gives (lakesM ch) (fun L => ∃ S, WatersOf ch (S :: L)) := by
  intro n Q hQ
  unfold lakesM
  (simp only [WP.run_bind, WP.run_pure, WP.run_req, WP.run_any, WP.run_take, WP.run_cond, WP.run_range1, WP.run_range2, decide_eq_true_eq, decide_eq_false_iff_not, Bool.not_eq_true', Bool.not_eq_false'])
  refine waters_gives c _ _ fun R hR => ?_
  obtain ⟨S, L, e, _⟩ := hR.cons
  subst e
  rw [cutL_tail]
  exact hQ _ ⟨S, hR⟩
theorem LandsOf.in {ch : List Str} {R : List (List Sq)} (h : LandsOf ch R) : ∀ l ∈ R, ∀ q ∈ l, isLd ch q = true := fun l hl q hq => by
  rcases h.mem l hl with a | ⟨x, hx, r⟩
  · cases a
  · exact (rch_land ((r.2 q).mp hq)).elim (fun e => e ▸ mem_landList.mp hx) id
theorem WatersOf.in {ch : List Str} {R : List (List Sq)} (h : WatersOf ch R) : ∀ l ∈ R, ∀ q ∈ l, isWt ch q = true := fun l hl q hq => by
  rcases h.mem l hl with a | ⟨x, hx, r⟩
  · cases a
  · exact (rch_wt ((r.2 q).mp hq)).elim (fun e => e ▸ mem_waterList.mp hx) id
theorem Regs.srt {st : Sq → List Sq} {xs : List Sq} {R : List (List Sq)} (h : Regs st xs [] R) : ∀ l ∈ R, l.Pairwise ltQ := fun l hl => by
  rcases h.mem l hl with a | ⟨x, hx, r⟩
  · cases a
  · exact r.1
theorem LandsOf.apart {ch : List Str} {R : List (List Sq)} (h : LandsOf ch R) : Apart R :=
  Regs.apart (fun x hx q r => rch_symm (mem_landList.mp hx) r) h List.Pairwise.nil (fun l hl => by cases hl)
theorem WatersOf.apart {ch : List Str} {R : List (List Sq)} (h : WatersOf ch R) : Apart R :=
  Regs.apart (fun x hx q r => wch_symm (mem_waterList.mp hx) r) h List.Pairwise.nil (fun l hl => by cases hl)
theorem rch_in {ch : List Str} {s q : Sq} (hs : isNr ch s = true) (h : Rch (wtBeside ch) s q) : q ∈ mc ch := mem_mc.mpr ((rch_wt h).elim (fun e => e ▸ hs) fun h => (isWt_iff.mp h).1)
theorem drains_gives {ch : List Str} (c : Ch ch) {q : Sq} (hq : isNr ch q = true) : Gives (drainsM ch q) (fun b => b = true ↔ Rch (wtBeside ch) q (-1, -1)) := by
  intro n Q hQ
  have := mc_len c
  unfold drainsM
  (simp only [WP.run_bind, WP.run_pure, WP.run_req, WP.run_any, WP.run_take, WP.run_cond, WP.run_range1, WP.run_range2, decide_eq_true_eq, decide_eq_false_iff_not, Bool.not_eq_true', Bool.not_eq_false'])
  refine met_gives (U := mc ch) (fun p _ => water_steps_is c p) (fun p hp => rch_in hq hp) (by omega) n _ fun kvs m => ?_
  exact hQ _ m.has
end Y

/-! rings: closed walks, inside and outside -/
namespace Y
open PySem PySem.Spec PyProof.Rows L2
section
variable {α β : Type}
def pairsFrom (a : α) : List α → List (α × α)
  | [] => []
  | x :: xs => (a, x) :: pairsFrom x xs
def lastD (a : α) : List α → α
  | [] => a
  | x :: xs => lastD x xs
/-- the steps of a closed walk: (the one before, this one), beginning with (last, first) -/
def cyc : List α → List (α × α)
  | [] => []
  | x :: xs => pairsFrom (lastD x xs) (x :: xs)
theorem lastD_mem {a : α} : ∀ {l : List α}, lastD a l ∈ a :: l
  | [] => List.mem_cons_self
  | x :: xs => List.mem_cons_of_mem _ (lastD_mem (a := x) (l := xs))
theorem lastD_map (f : α → β) : ∀ (a : α) (l : List α), f (lastD a l) = lastD (f a) (l.map f)
  | _, [] => rfl
  | _, x :: xs => lastD_map f x xs
theorem pairsFrom_map (f : α → β) : ∀ (a : α) (l : List α), (pairsFrom a l).map (fun p => (f p.1, f p.2)) = pairsFrom (f a) (l.map f)
  | _, [] => rfl
  | a, x :: xs => by
    show _ :: _ = _ :: _
    rw [pairsFrom_map f x xs]
theorem cyc_map (f : α → β) (l : List α) : (cyc l).map (fun p => (f p.1, f p.2)) = cyc (l.map f) := by
  cases l with
  | nil => rfl
  | cons x xs =>
    show (pairsFrom _ _).map _ = pairsFrom _ _
    rw [pairsFrom_map, lastD_map f]; rfl
theorem pairsFrom_mem {a : α} : ∀ {l : List α} {p : α × α}, p ∈ pairsFrom a l → (p.1 = a ∨ p.1 ∈ l) ∧ p.2 ∈ l
  | x :: xs, p, h => by
    rcases List.mem_cons.mp h with e | h
    · subst e; exact ⟨.inl rfl, List.mem_cons_self⟩
    · obtain ⟨h1, h2⟩ := pairsFrom_mem h
      exact ⟨.inr (h1.elim (fun e => e ▸ List.mem_cons_self) (List.mem_cons_of_mem _)), List.mem_cons_of_mem _ h2⟩
theorem cyc_mem {l : List α} {p : α × α} (h : p ∈ cyc l) : p.1 ∈ l ∧ p.2 ∈ l := by
  cases l with
  | nil => cases h
  | cons x xs =>
    obtain ⟨h1, h2⟩ := pairsFrom_mem h
    exact ⟨h1.elim (fun e => e ▸ lastD_mem) id, h2⟩
/-- a parity -/
def par (f : α → Bool) : List α → Bool
  | [] => false
  | x :: xs => xor (f x) (par f xs)
theorem par_map (f : β → Bool) (g : α → β) : ∀ l : List α, par f (l.map g) = par (fun x => f (g x)) l
  | [] => rfl
  | x :: xs => by show xor _ _ = xor _ _; rw [par_map f g xs]
theorem par_congr {f g : α → Bool} : ∀ {l : List α}, (∀ x ∈ l, f x = g x) → par f l = par g l
  | [], _ => rfl
  | x :: xs, h => by show xor _ _ = xor _ _; rw [h x List.mem_cons_self, par_congr fun y m => h y (List.mem_cons_of_mem _ m)]
theorem par_xor (f g : α → Bool) : ∀ l : List α, par (fun x => xor (f x) (g x)) l = xor (par f l) (par g l)
  | [] => rfl
  | x :: xs => by
    show xor (xor _ _) _ = xor (xor _ _) (xor _ _)
    rw [par_xor f g xs]
    cases f x <;> cases g x <;> cases par f xs <;> cases par g xs <;> rfl
theorem par_filter (f p : α → Bool) : ∀ l : List α, (∀ x ∈ l, p x = false → f x = false) → par f (l.filter p) = par f l
  | [], _ => rfl
  | x :: xs, h => by
    have ih := par_filter f p xs fun y m => h y (List.mem_cons_of_mem _ m)
    cases e : p x with
    | true => rw [List.filter_cons_of_pos e]; show xor _ _ = xor _ _; rw [ih]
    | false => rw [List.filter_cons_of_neg (by rw [e]; decide), ih]; show _ = xor _ _; rw [h x List.mem_cons_self e, Bool.false_xor]
theorem par_len (f : α → Bool) : ∀ l : List α, par f l = decide ((l.filter f).length % 2 = 1)
  | [] => rfl
  | x :: xs => by
    have ih := par_len f xs
    cases e : f x with
    | true =>
      rw [List.filter_cons_of_pos e, List.length_cons]
      show xor _ _ = _
      rw [e, ih, Bool.true_xor, ← decide_not]
      exact decide_eq_decide.mpr (by omega)
    | false =>
      rw [List.filter_cons_of_neg (by rw [e]; decide)]
      show xor _ _ = _
      rw [e, ih, Bool.false_xor]
theorem par_bd (A : α → Bool) : ∀ (a : α) (l : List α), par (fun p : α × α => xor (A p.1) (A p.2)) (pairsFrom a l) = xor (A a) (A (lastD a l))
  | a, [] => by show false = xor (A a) (A a); cases A a <;> rfl
  | a, x :: xs => by
    show xor (xor (A a) (A x)) (par _ (pairsFrom x xs)) = xor (A a) (A (lastD x xs))
    rw [par_bd A x xs]
    cases A a <;> cases A x <;> cases A (lastD x xs) <;> rfl
/-- a closed walk leaves a set as often as it enters it -/
theorem par_cyc (A : α → Bool) (l : List α) : par (fun p : α × α => xor (A p.1) (A p.2)) (cyc l) = false := by
  cases l with
  | nil => rfl
  | cons x xs =>
    unfold cyc
    rw [par_bd]
    show xor (A (lastD x xs)) (A (lastD x xs)) = false
    cases A (lastD x xs) <;> rfl
theorem par_none {f : α → Bool} : ∀ {l : List α}, (∀ x ∈ l, f x = false) → par f l = false
  | [], _ => rfl
  | x :: xs, h => by show xor _ _ = false; rw [h x List.mem_cons_self, par_none fun y m => h y (List.mem_cons_of_mem _ m)]; rfl
theorem par_one [DecidableEq α] {a : α} : ∀ {l : List α}, l.Nodup → a ∈ l → par (fun x => decide (x = a)) l = true
  | x :: xs, nd, h => by
    have h1 := List.nodup_cons.mp nd
    show xor (decide (x = a)) (par (fun x => decide (x = a)) xs) = true
    by_cases e : x = a
    · subst e
      rw [decide_eq_true (show x = x from rfl), par_none (f := fun y => decide (y = x)) fun y m => decide_eq_false fun e => h1.1 (by rw [← e]; exact m)]; rfl
    · rw [decide_eq_false e, par_one h1.2 ((List.mem_cons.mp h).resolve_left fun z => e z.symm)]; rfl
theorem firsts : ∀ (a : α) (l : List α), (pairsFrom a l).map (·.1) ++ [lastD a l] = a :: l
  | _, [] => rfl
  | a, x :: xs => by
    show a :: ((pairsFrom x xs).map (·.1) ++ [lastD x xs]) = _
    rw [firsts x xs]
theorem cyc_firsts {l : List α} : ((cyc l).map (·.1)).Perm l := by
  cases l with
  | nil => exact List.Perm.refl _
  | cons x xs =>
    show (lastD x xs :: (pairsFrom x xs).map (·.1)).Perm (x :: xs)
    rw [← firsts x xs]
    exact List.perm_append_comm (l₁ := [_])
/-- without those that are equal to the one before -/
def dedF [DecidableEq α] (a : α) : List α → List α
  | [] => []
  | x :: xs => if x = a then dedF a xs else x :: dedF x xs
theorem dedF_pairs [DecidableEq α] : ∀ (a : α) (l : List α), pairsFrom a (dedF a l) = (pairsFrom a l).filter fun p => !decide (p.2 = p.1)
  | _, [] => rfl
  | a, x :: xs => by
    show pairsFrom a (if x = a then dedF a xs else x :: dedF x xs) = ((a, x) :: pairsFrom x xs).filter fun p => !decide (p.2 = p.1)
    by_cases e : x = a
    · subst e
      rw [if_pos rfl, List.filter_cons_of_neg (by simp)]
      exact dedF_pairs x xs
    · rw [if_neg e, List.filter_cons_of_pos (by simp [e])]
      show _ :: _ = _ :: _
      rw [dedF_pairs x xs]
theorem dedF_last [DecidableEq α] : ∀ (a : α) (l : List α), lastD a (dedF a l) = lastD a l
  | _, [] => rfl
  | a, x :: xs => by
    show lastD a (if x = a then dedF a xs else x :: dedF x xs) = lastD x xs
    by_cases e : x = a
    · subst e
      rw [if_pos rfl]
      exact dedF_last x xs
    · rw [if_neg e]
      exact dedF_last x xs
def dedC [DecidableEq α] : List α → List α
  | [] => []
  | x :: xs => dedF (lastD x xs) (x :: xs)
theorem dedC_cyc [DecidableEq α] (l : List α) : cyc (dedC l) = (cyc l).filter fun p => !decide (p.2 = p.1) := by
  cases l with
  | nil => rfl
  | cons x xs =>
    show cyc (dedF (lastD x xs) (x :: xs)) = (pairsFrom (lastD x xs) (x :: xs)).filter _
    rw [← dedF_pairs]
    have h := dedF_last (lastD x xs) (x :: xs)
    cases e : dedF (lastD x xs) (x :: xs) with
    | nil => rfl
    | cons y ys =>
      rw [e] at h
      show pairsFrom (lastD y ys) (y :: ys) = pairsFrom (lastD x xs) (y :: ys)
      rw [show lastD y ys = lastD x xs from h]
end
/-! inside -/
def rightB (x : Sq) (s : Sq × Sq) : Bool := (decide (s.1.1 = x.1) && decide (s.2.1 = x.1 + 1) && decide (x.2 < s.1.2)) || (decide (s.2.1 = x.1) && decide (s.1.1 = x.1 + 1) && decide (x.2 < s.2.2))
def insB (R : List Sq) (x : Sq) : Bool := par (rightB x) (cyc R)
theorem rightB_iff {x : Sq} {s : Sq × Sq} : rightB x s = true ↔ (s.1.1 = x.1 ∧ s.2.1 = x.1 + 1 ∧ x.2 < s.1.2) ∨ (s.2.1 = x.1 ∧ s.1.1 = x.1 + 1 ∧ x.2 < s.2.2) := by
  unfold rightB
  simp only [Bool.or_eq_true, Bool.and_eq_true, decide_eq_true_eq]
  constructor
  · rintro (⟨⟨a, b⟩, c⟩ | ⟨⟨a, b⟩, c⟩)
    · exact .inl ⟨a, b, c⟩
    · exact .inr ⟨a, b, c⟩
  · rintro (⟨a, b, c⟩ | ⟨a, b, c⟩)
    · exact .inl ⟨⟨a, b⟩, c⟩
    · exact .inr ⟨⟨a, b⟩, c⟩
/-- a king's step or none -/
def King (p q : Sq) : Prop := p.1 - 1 ≤ q.1 ∧ q.1 ≤ p.1 + 1 ∧ p.2 - 1 ≤ q.2 ∧ q.2 ≤ p.2 + 1
theorem bool_xor_iff {a b c d : Bool} (h : (a = true ↔ ¬ (b = true)) ↔ (c = true ↔ ¬ (d = true))) : xor a b = xor c d := by
  revert h; cases a <;> cases b <;> cases c <;> cases d <;> simp
theorem ins_right {R : List Sq} {r c : Int} (h : (r, c + 1) ∉ R) : insB R (r, c) = insB R (r, c + 1) := by
  refine par_congr fun s hs => ?_
  obtain ⟨h1, h2⟩ := cyc_mem hs
  rw [Bool.eq_iff_iff, rightB_iff, rightB_iff]
  have n1 : ¬ (s.1.1 = r ∧ s.1.2 = c + 1) := fun e => h (by rw [← e.1, ← e.2]; exact h1)
  have n2 : ¬ (s.2.1 = r ∧ s.2.2 = c + 1) := fun e => h (by rw [← e.1, ← e.2]; exact h2)
  dsimp only
  omega
theorem ins_down {R : List Sq} (hk : ∀ s ∈ cyc R, King s.1 s.2) {r c : Int} (hx : (r, c) ∉ R) (hy : (r + 1, c) ∉ R) : insB R (r, c) = insB R (r + 1, c) := by
  have key : par (fun s : Sq × Sq => xor (rightB (r, c) s) (rightB (r + 1, c) s)) (cyc R) = par (fun s : Sq × Sq => xor (decide (s.1.1 = r + 1 ∧ c < s.1.2)) (decide (s.2.1 = r + 1 ∧ c < s.2.2))) (cyc R) := by
    refine par_congr fun s hs => ?_
    obtain ⟨h1, h2⟩ := cyc_mem hs
    have k := hk s hs
    unfold King at k
    have n1 : ¬ (s.1.1 = r ∧ s.1.2 = c) := fun e => hx (by rw [← e.1, ← e.2]; exact h1)
    have n2 : ¬ (s.2.1 = r ∧ s.2.2 = c) := fun e => hx (by rw [← e.1, ← e.2]; exact h2)
    have n3 : ¬ (s.1.1 = r + 1 ∧ s.1.2 = c) := fun e => hy (by rw [← e.1, ← e.2]; exact h1)
    have n4 : ¬ (s.2.1 = r + 1 ∧ s.2.2 = c) := fun e => hy (by rw [← e.1, ← e.2]; exact h2)
    refine bool_xor_iff ?_
    rw [rightB_iff, rightB_iff, decide_eq_true_eq, decide_eq_true_eq]
    dsimp only
    omega
  rw [par_xor, par_cyc (fun q : Sq => decide (q.1 = r + 1 ∧ c < q.2))] at key
  show par _ _ = par _ _
  revert key
  generalize par (rightB (r, c)) (cyc R) = a
  generalize par (rightB (r + 1, c)) (cyc R) = b
  cases a <;> cases b <;> simp
theorem ins_side {R : List Sq} (hk : ∀ s ∈ cyc R, King s.1 s.2) {x y : Sq} (h : y ∈ sides x) (hx : x ∉ R) (hy : y ∉ R) : insB R x = insB R y := by
  obtain ⟨r, c⟩ := x
  unfold sides at h
  simp only [List.mem_cons, List.not_mem_nil, or_false] at h
  rcases h with e | e | e | e <;> subst e
  · have := ins_down hk (r := r - 1) (c := c) hy (by rw [Int.sub_add_cancel]; exact hx)
    rw [Int.sub_add_cancel] at this; exact this.symm
  · have := ins_right (R := R) (r := r) (c := c - 1) (by rw [Int.sub_add_cancel]; exact hx)
    rw [Int.sub_add_cancel] at this; exact this.symm
  · exact ins_right hy
  · exact ins_down hk hx hy
end Y

/-! shores: the ring around a land -/
namespace Y
open PySem PySem.Spec PyProof.Rows L2
abbrev Shore := Sq × Sq
def nxSh (ld : Sq → Bool) (s : Shore) : Shore :=
  let d1 := s.2.2 - s.1.2
  let d2 := s.1.1 - s.2.1
  let bl : Sq := (s.1.1 + d1, s.1.2 + d2)
  let bw : Sq := (s.2.1 + d1, s.2.2 + d2)
  if !ld bl then (s.1, bl) else if !ld bw then (bl, bw) else (bw, s.2)
/-- a shore -/
structure Sh (ld : Sq → Bool) (s : Shore) : Prop where
  l : ld s.1 = true
  w : ld s.2 = false
  b : s.2 ∈ sides s.1
theorem mem_sides {p q : Sq} : q ∈ sides p ↔ (q.1 = p.1 - 1 ∧ q.2 = p.2) ∨ (q.1 = p.1 ∧ q.2 = p.2 - 1) ∨ (q.1 = p.1 ∧ q.2 = p.2 + 1) ∨ (q.1 = p.1 + 1 ∧ q.2 = p.2) := by
  obtain ⟨a, b⟩ := p
  obtain ⟨c, d⟩ := q
  unfold sides
  simp only [List.mem_cons, List.not_mem_nil, or_false, Prod.mk.injEq]
/-- where a shore leads: the three turns -/
theorem nxSh_cases {ld : Sq → Bool} {s : Shore} (h : Sh ld s) :
    let t := nxSh ld s
    Sh ld t ∧ ((t.1 = s.1 ∧ t.2.1 = s.1.1 + (s.2.2 - s.1.2) ∧ t.2.2 = s.1.2 + (s.1.1 - s.2.1)) ∨
      (t.1.1 = s.1.1 + (s.2.2 - s.1.2) ∧ t.1.2 = s.1.2 + (s.1.1 - s.2.1) ∧ t.2.1 = s.2.1 + (s.2.2 - s.1.2) ∧ t.2.2 = s.2.2 + (s.1.1 - s.2.1)) ∨
      (t.2 = s.2 ∧ t.1.1 = s.2.1 + (s.2.2 - s.1.2) ∧ t.1.2 = s.2.2 + (s.1.1 - s.2.1) ∧ ld (s.1.1 + (s.2.2 - s.1.2), s.1.2 + (s.1.1 - s.2.1)) = true)) := by
  have hb := mem_sides.mp h.b
  unfold nxSh
  dsimp only
  cases e1 : ld (s.1.1 + (s.2.2 - s.1.2), s.1.2 + (s.1.1 - s.2.1)) with
  | false =>
    simp only [Bool.not_false, if_true]
    exact ⟨⟨h.l, e1, mem_sides.mpr (by dsimp only; omega)⟩, .inl ⟨trivial, trivial, trivial⟩⟩
  | true =>
    simp only [Bool.not_true, if_false, Bool.false_eq_true]
    cases e2 : ld (s.2.1 + (s.2.2 - s.1.2), s.2.2 + (s.1.1 - s.2.1)) with
    | false =>
      simp only [Bool.not_false, if_true]
      exact ⟨⟨e1, e2, mem_sides.mpr (by dsimp only; omega)⟩, .inr (.inl ⟨trivial, trivial, trivial, trivial⟩)⟩
    | true =>
      simp only [Bool.not_true, if_false, Bool.false_eq_true]
      exact ⟨⟨e2, h.w, mem_sides.mpr (by dsimp only; omega)⟩, .inr (.inr ⟨trivial, trivial, trivial, trivial⟩)⟩
/-- a shore is what the one behind it says -/
theorem nxSh_inj {ld : Sq → Bool} {s t : Shore} (hs : Sh ld s) (ht : Sh ld t) (h : nxSh ld s = nxSh ld t) : s = t := by
  have a := (nxSh_cases hs).2
  have b := (nxSh_cases ht).2
  rw [← h] at b
  have hu := (nxSh_cases hs).1
  have sb := mem_sides.mp hs.b
  have tb := mem_sides.mp ht.b
  have ls := hs.l
  have ws := hs.w
  have lt := ht.l
  have wt := ht.w
  revert a b hu
  generalize nxSh ld s = u
  intro a b hu
  have ub := mem_sides.mp hu.b
  have lu := hu.l
  have wu := hu.w
  obtain ⟨⟨s11, s12⟩, s21, s22⟩ := s
  obtain ⟨⟨t11, t12⟩, t21, t22⟩ := t
  obtain ⟨⟨u11, u12⟩, u21, u22⟩ := u
  dsimp only at *
  have no : ∀ {a b c d : Int}, ld (a, b) = true → ld (c, d) = false → a = c → b = d → False := fun hp hq e1 e2 => by
    rw [e1, e2, hq] at hp; cases hp
  simp only [Prod.mk.injEq] at a b ⊢
  rcases a with a | a | a <;> rcases b with b | b | b
  · omega
  · exact (no lt ws (by omega) (by omega)).elim
  · exact (no b.2.2.2 ws (by omega) (by omega)).elim
  · exact (no ls wt (by omega) (by omega)).elim
  · omega
  · exact (no lt ws (by omega) (by omega)).elim
  · exact (no a.2.2.2 wt (by omega) (by omega)).elim
  · exact (no ls wt (by omega) (by omega)).elim
  · omega
end Y

/-! the ring around a land has it inside -/
namespace Y
open PySem PySem.Spec PyProof.Rows L2
def stp (ld : Sq → Bool) (q : Sq) : List Sq := (sides q).filter ld
structure Orb (ld : Sq → Bool) (s0 : Shore) (O : List Shore) : Prop where
  nd : O.Nodup
  mem : s0 ∈ O
  sh : ∀ s ∈ O, Sh ld s
  nx : ∀ p ∈ cyc O, p.2 = nxSh ld p.1
  con : ∀ s ∈ O, Rch (stp ld) s0.1 s.1
theorem seconds {α : Type} : ∀ (a : α) (l : List α), (pairsFrom a l).map (·.2) = l
  | _, [] => rfl
  | a, x :: xs => by show x :: _ = _; rw [seconds x xs]
theorem cyc_seconds {α : Type} (l : List α) : (cyc l).map (·.2) = l := by
  cases l with
  | nil => rfl
  | cons x xs => exact seconds _ _
theorem sh_con {ld : Sq → Bool} {s : Shore} (h : Sh ld s) : Rch (stp ld) s.1 (nxSh ld s).1 := by
  obtain ⟨ht, c⟩ := nxSh_cases h
  have hb := mem_sides.mp h.b
  revert ht c
  generalize nxSh ld s = t
  intro ht c
  rcases c with c | c | c
  · rw [c.1]; exact .refl
  · exact Rch.one (List.mem_filter.mpr ⟨mem_sides.mpr (by omega), ht.l⟩)
  · exact .step (Rch.one (List.mem_filter.mpr ⟨mem_sides.mpr (by dsimp only; omega), c.2.2.2⟩)) (List.mem_filter.mpr ⟨mem_sides.mpr (by dsimp only; omega), ht.l⟩)
theorem king_nx {ld : Sq → Bool} {s : Shore} (h : Sh ld s) : King s.2 (nxSh ld s).2 := by
  obtain ⟨ht, c⟩ := nxSh_cases h
  have hb := mem_sides.mp h.b
  revert ht c
  generalize nxSh ld s = t
  intro ht c
  unfold King
  rcases c with c | c | c
  · omega
  · omega
  · rw [c.1]; omega
theorem dedF_mem {α : Type} [DecidableEq α] : ∀ {a : α} {l : List α} {x : α}, x ∈ dedF a l → x ∈ l
  | a, y :: ys, x, h => by
    have h : x ∈ (if y = a then dedF a ys else y :: dedF y ys) := h
    by_cases e : y = a
    · rw [if_pos e] at h
      exact List.mem_cons_of_mem _ (dedF_mem h)
    · rw [if_neg e] at h
      rcases List.mem_cons.mp h with e2 | h
      · rw [e2]; exact List.mem_cons_self
      · exact List.mem_cons_of_mem _ (dedF_mem h)
theorem dedC_mem {α : Type} [DecidableEq α] {l : List α} {x : α} (h : x ∈ dedC l) : x ∈ l := by
  cases l with
  | nil => cases h
  | cons y ys => exact dedF_mem h
theorem par3 {α : Type} (f g h : α → Bool) (l : List α) : par (fun x => xor (f x) (xor (g x) (h x))) l = xor (par f l) (xor (par g l) (par h l)) := by
  rw [par_xor f (fun x => xor (g x) (h x)) l, par_xor g h l]
def ringOf (O : List Shore) : List Sq := dedC (O.map (·.2))
section
variable {ld : Sq → Bool} {s0 : Shore} {O : List Shore} (o : Orb ld s0 O)
include o
theorem Orb.cyc_ring : cyc (ringOf O) = ((cyc O).map fun p => (p.1.2, p.2.2)).filter fun p => !decide (p.2 = p.1) := by
  unfold ringOf
  rw [dedC_cyc, ← cyc_map (fun s : Shore => s.2)]
theorem Orb.step {p : Sq × Sq} (h : p ∈ cyc (ringOf O)) : King p.1 p.2 ∧ p.2 ≠ p.1 := by
  rw [o.cyc_ring] at h
  obtain ⟨h1, h2⟩ := List.mem_filter.mp h
  obtain ⟨q, hq, rfl⟩ := List.mem_map.mp h1
  refine ⟨?_, of_decide_eq_false (by rwa [Bool.not_eq_true'] at h2)⟩
  have e := o.nx q hq
  show King q.1.2 q.2.2
  rw [e]
  exact king_nx (o.sh _ (cyc_mem hq).1)
end
/-- the first square of a land -/
structure First (ld : Sq → Bool) (l0 : Sq) : Prop where
  l : ld l0 = true
  min : ∀ q, Rch (stp ld) l0 q → l0.1 < q.1 ∨ (l0.1 = q.1 ∧ l0.2 ≤ q.2)
section
variable {ld : Sq → Bool} {l0 : Sq} {O : List Shore} (f : First ld l0) (o : Orb ld (l0, (l0.1 - 1, l0.2)) O)
include f o
theorem Orb.only {s : Shore} (hs : s ∈ O) (h1 : s.2.1 = l0.1 - 1) (h2 : s.2.2 = l0.2) : s = (l0, (l0.1 - 1, l0.2)) := by
  have hb := mem_sides.mp (o.sh s hs).b
  have hm := f.min _ (o.con s hs)
  obtain ⟨⟨a, b⟩, c, d⟩ := s
  obtain ⟨r, k⟩ := l0
  simp only [Prod.mk.injEq] at *
  omega
theorem Orb.first_sh : Sh ld (l0, (l0.1 - 1, l0.2)) := o.sh _ o.mem
theorem Orb.left_water : ld (l0.1, l0.2 - 1) = false := by
  cases e : ld (l0.1, l0.2 - 1) with
  | false => rfl
  | true =>
    have := f.min _ (Rch.one (List.mem_filter.mpr ⟨mem_sides.mpr (by dsimp only; omega), e⟩))
    dsimp only at this
    omega
theorem Orb.left_sh : Sh ld (l0, (l0.1, l0.2 - 1)) := ⟨f.l, o.left_water f, mem_sides.mpr (by dsimp only; omega)⟩
theorem Orb.left_nx : nxSh ld (l0, (l0.1, l0.2 - 1)) = (l0, (l0.1 - 1, l0.2)) := by
  have hw := (o.first_sh f).w
  unfold nxSh
  dsimp only at hw ⊢
  have e : ld (l0.1 + (l0.2 - 1 - l0.2), l0.2 + (l0.1 - l0.1)) = false := by
    rw [show l0.1 + (l0.2 - 1 - l0.2) = l0.1 - 1 by omega, show l0.2 + (l0.1 - l0.1) = l0.2 by omega]; exact hw
  rw [e]
  simp only [Bool.not_false, if_true, Prod.mk.injEq, true_and]
  omega
/-- what stands behind the square above the first -/
theorem Orb.succ : ((nxSh ld (l0, (l0.1 - 1, l0.2))).2.1 = l0.1 ∨ (nxSh ld (l0, (l0.1 - 1, l0.2))).2.1 = l0.1 - 1) ∧ (nxSh ld (l0, (l0.1 - 1, l0.2))).2.2 = l0.2 + 1 := by
  have hs := o.first_sh f
  obtain ⟨ht, c⟩ := nxSh_cases hs
  have hc := sh_con hs
  have hm := f.min _ hc
  revert ht c hm
  generalize nxSh ld (l0, (l0.1 - 1, l0.2)) = t
  intro ht c hm
  dsimp only at c
  rcases c with c | c | c
  · omega
  · omega
  · omega
theorem Orb.before_first {p : Shore × Shore} (hp : p ∈ cyc O) (h : p.2 = (l0, (l0.1 - 1, l0.2))) : p.1 = (l0, (l0.1, l0.2 - 1)) := by
  have e := o.nx p hp
  rw [h, ← o.left_nx f] at e
  exact (nxSh_inj (o.left_sh f) (o.sh _ (cyc_mem hp).1) e).symm
theorem Orb.parity {p : Shore × Shore} (hp : p ∈ cyc O) : rightB l0 (p.1.2, p.2.2) = xor (xor (decide (p.1.2.1 = l0.1 - 1 ∧ l0.2 < p.1.2.2)) (decide (p.2.2.1 = l0.1 - 1 ∧ l0.2 < p.2.2.2))) (xor (xor (decide (p.1.2.1 = l0.1 ∧ l0.2 < p.1.2.2)) (decide (p.2.2.1 = l0.1 ∧ l0.2 < p.2.2.2))) (decide (p.1 = (l0, (l0.1 - 1, l0.2))))) := by
  obtain ⟨m1, m2⟩ := cyc_mem hp
  have s1 := o.sh _ m1
  have s2 := o.sh _ m2
  have b1 := mem_sides.mp s1.b
  have b2 := mem_sides.mp s2.b
  have g1 := f.min _ (o.con _ m1)
  have g2 := f.min _ (o.con _ m2)
  have k : King p.1.2 p.2.2 := by rw [o.nx p hp]; exact king_nx s1
  unfold King at k
  have ne : ∀ {q : Sq}, ld q = false → ¬ (q.1 = l0.1 ∧ q.2 = l0.2) := fun hq e => by
    have : _ = l0 := Prod.ext e.1 e.2
    rw [this, f.l] at hq; cases hq
  have n1 := ne s1.w
  have n2 := ne s2.w
  have fin : ∀ c : Bool, (¬ c = true → ¬ (p.1.2.1 = l0.1 - 1 ∧ p.1.2.2 = l0.2) ∧ (¬ (p.2.2.1 = l0.1 - 1 ∧ p.2.2.2 = l0.2) ∨ (p.1.2.1 = l0.1 ∧ p.1.2.2 = l0.2 - 1 ∧ p.2.2.1 = l0.1 - 1 ∧ p.2.2.2 = l0.2))) → (c = true → p.1.2.1 = l0.1 - 1 ∧ p.1.2.2 = l0.2 ∧ (p.2.2.1 = l0.1 ∨ p.2.2.1 = l0.1 - 1) ∧ p.2.2.2 = l0.2 + 1) →
      rightB l0 (p.1.2, p.2.2) = xor (xor (decide (p.1.2.1 = l0.1 - 1 ∧ l0.2 < p.1.2.2)) (decide (p.2.2.1 = l0.1 - 1 ∧ l0.2 < p.2.2.2))) (xor (xor (decide (p.1.2.1 = l0.1 ∧ l0.2 < p.1.2.2)) (decide (p.2.2.1 = l0.1 ∧ l0.2 < p.2.2.2))) c) := by
    intro c hc0 hc1
    have hr := rightB_iff (x := l0) (s := (p.1.2, p.2.2))
    dsimp only at hr
    cases c with
    | true =>
      have hc1 := hc1 rfl
      cases e : rightB l0 (p.1.2, p.2.2) <;> rw [e] at hr <;>
        by_cases a1 : (p.1.2.1 = l0.1 - 1 ∧ l0.2 < p.1.2.2) <;> by_cases a2 : (p.2.2.1 = l0.1 - 1 ∧ l0.2 < p.2.2.2) <;> by_cases a3 : (p.1.2.1 = l0.1 ∧ l0.2 < p.1.2.2) <;> by_cases a4 : (p.2.2.1 = l0.1 ∧ l0.2 < p.2.2.2) <;>
        first
          | ((first | rw [decide_eq_true a1] | rw [decide_eq_false a1]); (first | rw [decide_eq_true a2] | rw [decide_eq_false a2]); (first | rw [decide_eq_true a3] | rw [decide_eq_false a3]); (first | rw [decide_eq_true a4] | rw [decide_eq_false a4]); rfl)
          | (exfalso; simp only [true_iff, Bool.false_eq_true, false_iff] at hr; omega)
    | false =>
      have hc0 := hc0 (by decide)
      cases e : rightB l0 (p.1.2, p.2.2) <;> rw [e] at hr <;>
        by_cases a1 : (p.1.2.1 = l0.1 - 1 ∧ l0.2 < p.1.2.2) <;> by_cases a2 : (p.2.2.1 = l0.1 - 1 ∧ l0.2 < p.2.2.2) <;> by_cases a3 : (p.1.2.1 = l0.1 ∧ l0.2 < p.1.2.2) <;> by_cases a4 : (p.2.2.1 = l0.1 ∧ l0.2 < p.2.2.2) <;>
        first
          | ((first | rw [decide_eq_true a1] | rw [decide_eq_false a1]); (first | rw [decide_eq_true a2] | rw [decide_eq_false a2]); (first | rw [decide_eq_true a3] | rw [decide_eq_false a3]); (first | rw [decide_eq_true a4] | rw [decide_eq_false a4]); rfl)
          | (exfalso; simp only [true_iff, Bool.false_eq_true, false_iff] at hr; omega)
  refine fin _ (fun hn => ?_) (fun hy => ?_)
  · rw [decide_eq_true_eq] at hn
    refine ⟨fun e => hn (o.only f m1 e.1 e.2), ?_⟩
    by_cases e : p.2.2.1 = l0.1 - 1 ∧ p.2.2.2 = l0.2
    · have := o.before_first f hp (o.only f m2 e.1 e.2)
      rw [this]
      exact .inr ⟨rfl, rfl, e.1, e.2⟩
    · exact .inl e
  · have e := of_decide_eq_true hy
    have h1 := o.succ f
    have h2 := o.nx p hp
    rw [e] at h2
    rw [← h2] at h1
    rw [e]
    exact ⟨rfl, rfl, h1.1, h1.2⟩
/-- the land is inside -/
theorem Orb.inside : insB (ringOf O) l0 = true := by
  unfold insB
  have hf : ∀ p ∈ (cyc O).map (fun p => (p.1.2, p.2.2)), (!decide (p.2 = p.1)) = false → rightB l0 p = false := fun p _ hp => by
    rw [Bool.not_eq_false', decide_eq_true_eq] at hp
    rw [← Bool.not_eq_true, rightB_iff, hp]
    omega
  rw [o.cyc_ring, par_filter _ _ _ hf, par_map, par_congr fun p hp => o.parity f hp]
  have h1 : par (fun p : Shore × Shore => xor (decide (p.1.2.1 = l0.1 - 1 ∧ l0.2 < p.1.2.2)) (decide (p.2.2.1 = l0.1 - 1 ∧ l0.2 < p.2.2.2))) (cyc O) = false := par_cyc (fun s : Shore => decide (s.2.1 = l0.1 - 1 ∧ l0.2 < s.2.2)) O
  have h2 : par (fun p : Shore × Shore => xor (decide (p.1.2.1 = l0.1 ∧ l0.2 < p.1.2.2)) (decide (p.2.2.1 = l0.1 ∧ l0.2 < p.2.2.2))) (cyc O) = false := par_cyc (fun s : Shore => decide (s.2.1 = l0.1 ∧ l0.2 < s.2.2)) O
  have h3 : par (fun p : Shore × Shore => decide (p.1 = (l0, (l0.1 - 1, l0.2)))) (cyc O) = true := by
    rw [← par_map (fun s : Shore => decide (s = (l0, (l0.1 - 1, l0.2)))) (fun p : Shore × Shore => p.1)]
    exact par_one (cyc_firsts.nodup_iff.mpr o.nd) (cyc_firsts.mem_iff.mpr o.mem)
  refine (par3 (fun p : Shore × Shore => xor (decide (p.1.2.1 = l0.1 - 1 ∧ l0.2 < p.1.2.2)) (decide (p.2.2.1 = l0.1 - 1 ∧ l0.2 < p.2.2.2))) (fun p : Shore × Shore => xor (decide (p.1.2.1 = l0.1 ∧ l0.2 < p.1.2.2)) (decide (p.2.2.1 = l0.1 ∧ l0.2 < p.2.2.2))) (fun p : Shore × Shore => decide (p.1 = (l0, (l0.1 - 1, l0.2)))) (cyc O)).trans ?_
  rw [h1, h2, h3]
  rfl
end
/-! the ring is a ring -/
section
variable {ld : Sq → Bool} {l0 : Sq} {O : List Shore} (f : First ld l0) (o : Orb ld (l0, (l0.1 - 1, l0.2)) O)
include f o
theorem Orb.long : 4 ≤ (ringOf O).length := by
  have hc := o.cyc_ring
  have in1 : ∀ {p : Shore × Shore}, p ∈ cyc O → p.2.2 ≠ p.1.2 → p.1.2 ∈ ringOf O ∧ p.2.2 ∈ ringOf O := fun {p} hp hne => by
    have : (p.1.2, p.2.2) ∈ cyc (ringOf O) := by
      rw [hc]
      exact List.mem_filter.mpr ⟨List.mem_map.mpr ⟨p, hp, rfl⟩, by rw [decide_eq_false hne]; rfl⟩
    exact cyc_mem this
  -- the one before
  obtain ⟨p, hp, ep⟩ : ∃ p ∈ cyc O, p.2 = (l0, (l0.1 - 1, l0.2)) := by
    have : (l0, (l0.1 - 1, l0.2)) ∈ (cyc O).map (·.2) := by rw [cyc_seconds]; exact o.mem
    obtain ⟨p, hp, e⟩ := List.mem_map.mp this
    exact ⟨p, hp, e⟩
  have ep1 := o.before_first f hp ep
  have w := in1 hp (by rw [ep, ep1]; intro e; injection e; omega)
  rw [ep, ep1] at w
  -- the one behind
  obtain ⟨q, hq, eq⟩ : ∃ q ∈ cyc O, q.1 = (l0, (l0.1 - 1, l0.2)) := by
    have : (l0, (l0.1 - 1, l0.2)) ∈ (cyc O).map (·.1) := cyc_firsts.mem_iff.mpr o.mem
    obtain ⟨p, hp, e⟩ := List.mem_map.mp this
    exact ⟨p, hp, e⟩
  have eq2 := o.nx q hq
  have hs := o.succ f
  rw [eq] at eq2
  rw [← eq2] at hs
  have v := in1 hq (by rw [eq]; intro e; rw [e] at hs; dsimp only at hs; omega)
  -- one below
  have hi := o.inside f
  obtain ⟨s, hs2, e3⟩ : ∃ s ∈ cyc (ringOf O), rightB l0 s = true := by
    by_cases h : ∃ s ∈ cyc (ringOf O), rightB l0 s = true
    · exact h
    · have : insB (ringOf O) l0 = false := par_none fun s hs => by
        rw [← Bool.not_eq_true]; exact fun e => h ⟨s, hs, e⟩
      rw [this] at hi; cases hi
  obtain ⟨c1, c2⟩ := cyc_mem hs2
  have hb := rightB_iff.mp e3
  obtain ⟨z, hz, ez⟩ : ∃ z ∈ ringOf O, z.1 = l0.1 + 1 := by
    rcases hb with h | h
    · exact ⟨s.2, c2, h.2.1⟩
    · exact ⟨s.1, c1, h.2.1⟩
  have key : [(l0.1 - 1, l0.2), (l0.1, l0.2 - 1), q.2.2, z].length ≤ (ringOf O).length := by
    refine nodup_le ?_ fun x hx => ?_
    · simp only [List.nodup_cons, List.mem_cons, List.not_mem_nil, or_false, not_or, not_false_iff, List.nodup_nil, and_true]
      refine ⟨⟨fun e => by injection e; omega, fun e => by rw [← e] at hs; dsimp only at hs; omega, fun e => by rw [← e] at ez; dsimp only at ez; omega⟩, ⟨fun e => by rw [← e] at hs; dsimp only at hs; omega, fun e => by rw [← e] at ez; dsimp only at ez; omega⟩, fun e => by rw [e, ez] at hs; omega⟩
    · simp only [List.mem_cons, List.not_mem_nil, or_false] at hx
      rcases hx with e | e | e | e <;> subst e
      · exact w.2
      · exact w.1
      · exact v.2
      · exact hz
  exact key
end
end Y

/-! rings and ways: the defs of the program as models, and what they give -/
namespace Y
open PySem PySem.Spec PyProof.Rows L2
def aboveM (a_square : Sq) : WP Sq := (WP.pair (WP.sub (WP.fst (WP.pure a_square)) (WP.pure (1 : Int))) (WP.snd (WP.pure a_square))).bind fun r1 => (WP.pure r1)
def next_shoreM (a_chart : (List Str)) (a_shore : (Sq × Sq)) : WP (Sq × Sq) := (WP.pure a_shore).bind fun a1_land_water => (WP.sub (WP.snd (WP.pure a1_land_water.2)) (WP.snd (WP.pure a1_land_water.1))).bind fun a2_down => (WP.sub (WP.fst (WP.pure a1_land_water.1)) (WP.fst (WP.pure a1_land_water.2))).bind fun a3_right => (WP.pair (WP.add (WP.fst (WP.pure a1_land_water.1)) (WP.pure a2_down)) (WP.add (WP.snd (WP.pure a1_land_water.1)) (WP.pure a3_right))).bind fun a4_beyond_land => (WP.pair (WP.add (WP.fst (WP.pure a1_land_water.2)) (WP.pure a2_down)) (WP.add (WP.snd (WP.pure a1_land_water.2)) (WP.pure a3_right))).bind fun a5_beyond_water => (WP.not (WP.b2 (WP.pure a_chart) (WP.pure a4_beyond_land) is_landM)).bind fun b => WP.cond b ((WP.pair (WP.pure a1_land_water.1) (WP.pure a4_beyond_land)).bind fun r7 => (WP.pure r7)) ((WP.not (WP.b2 (WP.pure a_chart) (WP.pure a5_beyond_water) is_landM)).bind fun b => WP.cond b ((WP.pair (WP.pure a4_beyond_land) (WP.pure a5_beyond_water)).bind fun r9 => (WP.pure r9)) ((WP.pair (WP.pure a5_beyond_water) (WP.pure a1_land_water.2)).bind fun r10 => (WP.pure r10)))
def shores_fromM (a_chart : (List Str)) (a_start : (Sq × Sq)) : WP (List (Sq × Sq)) := (WP.row (WP.consE (WP.pure a_start) (WP.pure ([] : List (Sq × Sq))))).bind fun a1_found => (WP.b2 (WP.pure a_chart) (WP.pure a_start) next_shoreM).bind fun a2_shore => WP.after (WP.whilst (γ := (List (Sq × Sq))) (fun (y3 : (List (Sq × Sq)) × (Sq × Sq)) => (WP.neD (WP.pure y3.2) (WP.pure a_start))) (fun (y3 : (List (Sq × Sq)) × (Sq × Sq)) => ((WP.pure y3.2).bind fun a => WP.req (y3.1.length < 100000) (y3.1 ++ [a])).bind fun a4_found => (WP.b2 (WP.pure a_chart) (WP.pure y3.2) next_shoreM).bind fun a5_shore => (WP.pure (.nx (a4_found, a5_shore)))) (a1_found, a2_shore)) (fun (z3 : (List (Sq × Sq)) × (Sq × Sq)) => (WP.pure z3.1)) (fun r => (WP.pure r))
def without_repeatsM (a_squares : (List Sq)) : WP (List Sq) := (WP.lc (WP.range1 (WP.len (WP.pure a_squares))) (fun c1 => (WP.neD (WP.ix (WP.pure a_squares) (WP.pure c1)) (WP.ix (WP.pure a_squares) (WP.sub (WP.pure c1) (WP.pure (1 : Int)))))) (fun c1 => (WP.ix (WP.pure a_squares) (WP.pure c1)))).bind fun r1 => (WP.pure r1)
def way_toM (a_before : (List (Sq × (Option Sq)))) (a_goal : Sq) : WP (List Sq) := (WP.row (WP.consE (WP.pure a_goal) (WP.pure ([] : List Sq)))).bind fun a1_way => WP.after (WP.whilst (γ := (List Sq)) (fun (y2 : (List Sq)) => (WP.notN (WP.dget (WP.pure a_before) (WP.ix (WP.pure y2) (WP.neg (WP.pure (1 : Int))))))) (fun (y2 : (List Sq)) => ((WP.the (WP.dget (WP.pure a_before) (WP.ix (WP.pure y2) (WP.neg (WP.pure (1 : Int)))))).bind fun a => WP.req (y2.length < 100000) (y2 ++ [a])).bind fun a3_way => (WP.pure (.nx a3_way))) a1_way) (fun (z2 : (List Sq)) => ((WP.pure z2).bind fun xs => WP.pure xs.reverse).bind fun r4 => (WP.pure r4)) (fun r => (WP.pure r))
/-! ### the steps of a closed walk by places -/
section
variable {α : Type} [Inhabited α]
theorem pairsFrom_len : ∀ (a : α) (l : List α), (pairsFrom a l).length = l.length
  | _, [] => rfl
  | a, x :: xs => by show (pairsFrom x xs).length + 1 = xs.length + 1; rw [pairsFrom_len x xs]
theorem pairsFrom_get : ∀ (a : α) (l : List α) (i : Nat), i < l.length → (pairsFrom a l)[i]? = some ((a :: l).getD i default, l.getD i default)
  | a, [], i, h => by cases h
  | a, x :: xs, 0, h => rfl
  | a, x :: xs, i + 1, h => by
    show (pairsFrom x xs)[i]? = _
    rw [pairsFrom_get x xs i (by simpa using h)]
    rfl
theorem lastD_get : ∀ (a : α) (l : List α), lastD a l = (a :: l).getD l.length default
  | _, [] => rfl
  | a, x :: xs => by
    show lastD x xs = (x :: xs).getD xs.length default
    exact lastD_get x xs
theorem ixD_getD {l : List α} {i : Nat} (h : i < l.length) : ixD l (i : Int) = l.getD i default := by
  rw [ixD_nat h]; simp [h]
theorem ixD_last {x : α} {xs : List α} : ixD (x :: xs) (-1) = lastD x xs := by
  rw [lastD_get]
  unfold ixD atI ixN
  rw [if_neg (by omega), if_pos (by rw [List.length_cons]; omega)]
  have e : (-1 + (((x :: xs).length : Nat) : Int)).toNat = xs.length := by rw [List.length_cons]; omega
  have e2 : ((((x :: xs).length : Nat) : Int) + -1).toNat = xs.length := by rw [List.length_cons]; omega
  first | rw [e] | rw [e2]
  simp [List.getD]
theorem cyc_len (l : List α) : (cyc l).length = l.length := by
  cases l with
  | nil => rfl
  | cons x xs => exact pairsFrom_len _ _
theorem cyc_ix (l : List α) : cyc l = (rangeL 0 (l.length : Int)).map fun k => (ixD l (k - 1), ixD l k) := by
  apply List.ext_getElem?
  intro i
  by_cases h : i < l.length
  · rw [List.getElem?_map, rangeL_get (by omega)]
    show _ = some (ixD l (0 + (i : Int) - 1), ixD l (0 + (i : Int)))
    cases l with
    | nil => cases h
    | cons x xs =>
      show (pairsFrom (lastD x xs) (x :: xs))[i]? = _
      rw [pairsFrom_get _ _ _ h, Int.zero_add, ixD_getD h]
      cases i with
      | zero =>
        have e : ((0 : Nat) : Int) - 1 = -1 := rfl
        rw [e, ixD_last]; rfl
      | succ j =>
        have e : ((j + 1 : Nat) : Int) - 1 = (j : Int) := by omega
        rw [e, ixD_getD (by omega)]; rfl
  · rw [List.getElem?_eq_none (by rw [cyc_len]; omega), List.getElem?_eq_none (by rw [List.length_map, rangeL_len]; omega)]
theorem dedC_ix [DecidableEq α] (l : List α) : dedC l = ((rangeL 0 (l.length : Int)).filter fun k => !decide (ixD l k = ixD l (k - 1))).map (ixD l) := by
  have h : (cyc (dedC l)).map (·.2) = dedC l := cyc_seconds _
  rw [← h, dedC_cyc, cyc_ix l, List.filter_map, List.map_map]
  rfl
theorem okI_pred {n : Nat} {k : Int} (h : k ∈ rangeL 0 (n : Int)) : okI n k ∧ okI n (k - 1) := by
  have := mem_rangeL h
  exact ⟨⟨by omega, by omega⟩, ⟨by omega, by omega⟩⟩
end
/-! ### rings -/
theorem eqsq (q : Sq) : EqD.ok q := ⟨trivial, trivial⟩
theorem eqsh (s : Sq × Sq) : EqD.ok s := ⟨eqsq _, eqsq _⟩
theorem Is.lt {a b : WP Int} {x y : Int} (h : Is a x) (h' : Is b y) : Is (WP.lt a b) (decide (x < y)) := h.bind (h'.bind Is.pure)
theorem Is.gt {a b : WP Int} {x y : Int} (h : Is a x) (h' : Is b y) : Is (WP.gt a b) (decide (y < x)) := h.bind (h'.bind Is.pure)
theorem Is.all {w : WP (List Bool)} {bs : List Bool} (h : Is w bs) : Is (WP.all w) (bs.all id) := h.bind Is.pure
def ringB (R : List Sq) : Bool := decide (4 ≤ R.length) && (cyc R).all fun p => decide (p.2 ∈ nbrs p.1)
theorem ringB_iff {R : List Sq} : ringB R = true ↔ 4 ≤ R.length ∧ ∀ p ∈ cyc R, King p.1 p.2 ∧ p.2 ≠ p.1 := by
  unfold ringB
  simp only [Bool.and_eq_true, decide_eq_true_eq, List.all_eq_true]
  refine and_congr_right fun _ => forall_congr' fun p => imp_congr_right fun _ => ?_
  rw [mem_nbrs]; unfold King
  exact Iff.rfl
/-- what a parting ring must be -/
def partB (ch : List Str) (a b : Sq) (R : List Sq) : Bool := (ringB R && R.all (isWt ch)) && !decide (insB R a = insB R b)
end Y

/-! ways and rings: what the searches give -/
namespace Y
open PySem PySem.Spec PyProof.Rows L2
theorem next_shore_is {ch : List Str} (c : Ch ch) (s : Shore) : Is (next_shoreM ch s) (nxSh (isLd ch) s) := by
  unfold next_shoreM
  have f1 : ∀ {q : Sq}, Is (WP.fst (WP.pure q)) q.1 := Is.bind Is.pure Is.pure
  have f2 : ∀ {q : Sq}, Is (WP.snd (WP.pure q)) q.2 := Is.bind Is.pure Is.pure
  refine Is.bind Is.pure (Is.bind (Is.b2 f2 f2 Is.pure) (Is.bind (Is.b2 f1 f1 Is.pure) (Is.bind (Is.b2 (Is.b2 f1 Is.pure Is.pure) (Is.b2 f2 Is.pure Is.pure) Is.pure) (Is.bind (Is.b2 (Is.b2 f1 Is.pure Is.pure) (Is.b2 f2 Is.pure Is.pure) Is.pure) ?_))))
  refine Is.bind (Is.not (Is.b2 Is.pure Is.pure (is_land_is c _))) (Is.cond (fun e => ?_) fun e => ?_)
  · refine (Is.ret (Is.b2 Is.pure Is.pure Is.pure)).eq ?_
    unfold nxSh; dsimp only; rw [if_pos e]
  · refine Is.bind (Is.not (Is.b2 Is.pure Is.pure (is_land_is c _))) (Is.cond (fun e' => ?_) fun e' => ?_)
    · refine (Is.ret (Is.b2 Is.pure Is.pure Is.pure)).eq ?_
      unfold nxSh; dsimp only; rw [if_neg (by rw [e]; decide), if_pos e']
    · refine (Is.ret (Is.b2 Is.pure Is.pure Is.pure)).eq ?_
      unfold nxSh; dsimp only; rw [if_neg (by rw [e]; decide), if_neg (by rw [e']; decide)]
theorem pairsFrom_snoc {α : Type} : ∀ (a : α) (l : List α) (x : α), pairsFrom a (l ++ [x]) = pairsFrom a l ++ [(lastD a l, x)]
  | _, [], _ => rfl
  | a, y :: ys, x => by show (a, y) :: pairsFrom y (ys ++ [x]) = (a, y) :: pairsFrom y ys ++ [(lastD y ys, x)]; rw [pairsFrom_snoc y ys x]; rfl
theorem lastD_snoc {α : Type} : ∀ (a : α) (l : List α) (x : α), lastD a (l ++ [x]) = x
  | _, [], _ => rfl
  | _, y :: ys, x => lastD_snoc y ys x
/-- on the way round -/
structure Pre (ld : Sq → Bool) (s0 : Shore) (t : List Shore) (x : Shore) : Prop where
  nd : (s0 :: t).Nodup
  sh : ∀ s ∈ s0 :: t, Sh ld s
  nx : ∀ p ∈ pairsFrom s0 t, p.2 = nxSh ld p.1
  con : ∀ s ∈ s0 :: t, Rch (stp ld) s0.1 s.1
  cur : x = nxSh ld (lastD s0 t)
theorem Pre.step {ld : Sq → Bool} {s0 x : Shore} {t : List Shore} (p : Pre ld s0 t x) (h : x ≠ s0) : Pre ld s0 (t ++ [x]) (nxSh ld x) := by
  have hl := p.sh _ (lastD_mem (a := s0) (l := t))
  have hx : x ∉ s0 :: t := fun hm => by
    rcases List.mem_cons.mp hm with e | hm
    · exact h e
    · have hs : x ∈ (pairsFrom s0 t).map (·.2) := by rw [seconds]; exact hm
      obtain ⟨q, hq, e⟩ := List.mem_map.mp hs
      have m1 : q.1 ∈ s0 :: t := by
        rcases (pairsFrom_mem hq).1 with e | e
        · rw [e]; exact List.mem_cons_self
        · exact List.mem_cons_of_mem _ e
      have e2 := p.nx q hq
      have : q.1 = lastD s0 t := nxSh_inj (p.sh _ m1) hl (by rw [← e2, ← p.cur]; exact e)
      have nd := p.nd
      rw [← firsts s0 t, List.nodup_append] at nd
      exact nd.2.2 q.1 (List.mem_map.mpr ⟨q, hq, rfl⟩) (lastD s0 t) List.mem_cons_self this
  have hsx : Sh ld x := by rw [p.cur]; exact (nxSh_cases hl).1
  refine ⟨?_, fun s hs => ?_, fun q hq => ?_, fun s hs => ?_, by rw [lastD_snoc]⟩
  · rw [← List.cons_append, List.nodup_append]
    exact ⟨p.nd, by simp, fun a ha b hb e => hx (by simp at hb; rw [← hb, ← e]; exact ha)⟩
  · rw [← List.cons_append] at hs
    rcases List.mem_append.mp hs with hs | hs
    · exact p.sh s hs
    · simp at hs; rw [hs]; exact hsx
  · rw [pairsFrom_snoc] at hq
    rcases List.mem_append.mp hq with hq | hq
    · exact p.nx q hq
    · simp at hq; subst hq; exact p.cur
  · rw [← List.cons_append] at hs
    rcases List.mem_append.mp hs with hs | hs
    · exact p.con s hs
    · simp at hs; rw [hs, p.cur]
      exact (p.con _ (lastD_mem (a := s0) (l := t))).trans (sh_con hl)
theorem Pre.orb {ld : Sq → Bool} {s0 x : Shore} {t : List Shore} (p : Pre ld s0 t x) (h : x = s0) : Orb ld s0 (s0 :: t) := by
  refine ⟨p.nd, List.mem_cons_self, p.sh, fun q hq => ?_, p.con⟩
  have hq : q ∈ (lastD s0 t, s0) :: pairsFrom s0 t := hq
  rcases List.mem_cons.mp hq with e | hq
  · subst e; exact h.symm.trans p.cur
  · exact p.nx q hq
def shoresU (ch : List Str) : List Shore := (allSq ch).flatMap fun q => (sides q).map fun w => (q, w)
theorem shoresU_len (ch : List Str) : (shoresU ch).length = 4 * (allSq ch).length := by
  unfold shoresU
  induction allSq ch with
  | nil => rfl
  | cons x xs ih => rw [List.flatMap_cons, List.length_append, ih, List.length_cons, List.length_map]; show 4 + _ = _; omega
theorem mem_shoresU {ch : List Str} {s : Shore} (h : Sh (isLd ch) s) : s ∈ shoresU ch := List.mem_flatMap.mpr ⟨s.1, mem_allSq.mpr (isLd_sq h.l), List.mem_map.mpr ⟨s.2, h.b, rfl⟩⟩
theorem shores_from_gives2 {ch : List Str} (c : Ch ch) (hz : (allSq ch).length ≤ 24000) {s0 : Shore} (h : Sh (isLd ch) s0) : Gives (shores_fromM ch s0) (fun O => (Orb (isLd ch) s0 O ∧ O.length ≤ 96000) ∧ ∃ t, O = s0 :: t ∧ ∀ p ∈ pairsFrom s0 t, p.2 = nxSh (isLd ch) p.1) := by
  intro n Q hQ
  unfold shores_fromM
  rw [WP.run_bind]
  refine (Is.bind (a := [s0]) (Is.b2 Is.pure Is.pure Is.pure) (Is.req (by simp)) : Is (WP.row (WP.consE (WP.pure s0) (WP.pure ([] : List Shore)))) [s0]) _ _ ?_
  rw [WP.run_bind]
  refine (Is.b2 Is.pure Is.pure (next_shore_is c s0)) _ _ ?_
  have bnd : ∀ {t x}, Pre (isLd ch) s0 t x → (s0 :: t).length ≤ 96000 := fun {t x} p => by
    have := nodup_le (U := shoresU ch) p.nd fun s hs => mem_shoresU (p.sh s hs)
    rw [shoresU_len] at this
    omega
  refine WP.after_whilst (fun m n' y => n' = n ∧ ∃ t, y.1 = s0 :: t ∧ Pre (isLd ch) s0 t y.2 ∧ m = 96000 - (s0 :: t).length) ⟨_, rfl, [], rfl, ⟨by simp, by simpa using h, (by intro p hp; cases hp), (by intro s hs; simp at hs; rw [hs]; exact .refl), rfl⟩, rfl⟩ ?_
  rintro m n' ⟨fd, x⟩ ⟨rfl, t, e1, p, e3⟩
  dsimp only at e1
  subst e1
  refine (Is.neD Is.pure Is.pure (eqsh _) (eqsh _)) _ _ ⟨fun e => ?_, fun e => ?_⟩
  · have hne : x ≠ s0 := by simpa using e
    have p2 := p.step hne
    have b1 := bnd p2
    have b0 := bnd p
    have b1' : (s0 :: t).length + 1 ≤ 96000 := by
      rw [List.length_cons, List.length_append, List.length_singleton] at b1; rw [List.length_cons]; omega
    refine (Is.bind (Is.bind Is.pure (Is.req (by dsimp only; omega))) (Is.bind (Is.b2 Is.pure Is.pure (next_shore_is c x)) Is.pure) : Is _ (Ctl.nx ((s0 :: t) ++ [x], nxSh (isLd ch) x))) _ _ ?_
    refine ⟨_, ?_, rfl, t ++ [x], rfl, p2, rfl⟩
    rw [e3, List.length_cons, List.length_cons, List.length_append, List.length_singleton]
    rw [List.length_cons] at b1'
    omega
  · have he : x = s0 := by simpa using e
    exact hQ _ ⟨⟨p.orb he, bnd p⟩, t, rfl, p.nx⟩

theorem dedC_len (l : List Sq) : (dedC l).length ≤ l.length := by
  have h := congrArg List.length (dedC_ix l)
  rw [h, List.length_map]
  have := List.length_filter_le (fun k => !decide (ixD l k = ixD l (k - 1))) (rangeL 0 (l.length : Int))
  rw [rangeL_len] at this
  omega
theorem without_repeats_is {l : List Sq} (h : l.length ≤ 100000) : Is (without_repeatsM l) (dedC l) := by
  unfold without_repeatsM
  rw [dedC_ix]
  refine Is.ret (Is.lc (Is.range1 (Is.len Is.pure) h) (by rw [rangeL_len]; omega) (fun k hk => Is.neD (Is.ix Is.pure Is.pure (okI_pred hk).1) (Is.ix Is.pure (Is.b2 Is.pure Is.pure Is.pure) (okI_pred hk).2) (eqsq _) (eqsq _)) fun k hk _ => Is.ix Is.pure Is.pure (okI_pred hk).1)
theorem above_is (q : Sq) : Is (aboveM q) (q.1 - 1, q.2) := Is.ret (Is.b2 (Is.b2 (Is.bind Is.pure Is.pure) Is.pure Is.pure) (Is.bind Is.pure Is.pure) Is.pure)
end Y

/-! ways -/
namespace Y
open PySem PySem.Spec PyProof.Rows L2
/-- a way from a to b -/
def Way (st : Sq → List Sq) (a b : Sq) (w : List Sq) : Prop := ∃ t, w = a :: t ∧ lastD a t = b ∧ ∀ p ∈ pairsFrom a t, p.2 ∈ st p.1
theorem dist_one {gs : List (Sq × Nat)} (nd : (gs.map (·.1)).Nodup) {q : Sq} {d e : Nat} (h : (q, d) ∈ gs) (h' : (q, e) ∈ gs) : d = e := by
  have a := lookK_mem nd h
  rw [lookK_mem nd h'] at a
  exact (Option.some.inj a).symm
theorem ixD_rev {x : Sq} {xs : List Sq} : ixD (x :: xs).reverse (-1) = x := by
  rw [List.reverse_cons]
  cases e : xs.reverse with
  | nil => rw [List.nil_append, ixD_last]; rfl
  | cons y ys => rw [List.cons_append, ixD_last, lastD_snoc]
theorem way_to_gives {st : Sq → List Sq} {s b : Sq} {kvs : List (Sq × Option Sq)} (m : Met st s kvs) (h : Rch st s b) {U : List Sq} (hU : ∀ q, Rch st s q → q ∈ U) (hz : U.length < 100000) : Gives (way_toM kvs b) (fun w => Way st s b w ∧ w.length ≤ U.length ∧ w.Nodup ∧ ∃ d, w.length = d + 1 ∧ Wk st d s b ∧ ∀ e, Wk st e s b → d ≤ e) := by
  intro n Q hQ
  obtain ⟨gs, f, p⟩ := id m.ex
  have key : ∀ {q d}, (q, d) ∈ gs → q ∈ kvs.map (·.1) := fun h => by rw [p.keys]; exact List.mem_map.mpr ⟨_, h, rfl⟩
  have hb : ∃ d, (b, d) ∈ gs := by
    have := m.mem.mpr h
    rw [p.keys] at this
    obtain ⟨r, hr, e⟩ := List.mem_map.mp this
    exact ⟨r.2, by rw [← e]; exact hr⟩
  obtain ⟨d0, hb⟩ := hb
  unfold way_toM
  rw [WP.run_bind]
  refine (Is.bind (a := [b]) (Is.b2 Is.pure Is.pure Is.pure) (Is.req (by simp)) : Is (WP.row (WP.consE (WP.pure b) (WP.pure ([] : List Sq)))) [b]) _ _ ?_
  refine WP.after_whilst (fun m n' y => n' = n ∧ ∃ cur rest, y = (cur :: rest).reverse ∧ lastD cur rest = b ∧ (∀ q ∈ pairsFrom cur rest, q.2 ∈ st q.1) ∧ (cur, m) ∈ gs ∧ (∀ q ∈ rest, ∃ d', m < d' ∧ (q, d') ∈ gs) ∧ (cur :: rest).Nodup ∧ rest.length + m = d0) ⟨d0, rfl, b, [], rfl, rfl, (by intro q hq; cases hq), hb, (by intro q hq; cases hq), by simp, by simp⟩ ?_
  rintro d n' y ⟨rfl, cur, rest, e1, e2, e3, e4, e5, e6, e7⟩
  subst e1
  have inU : ∀ q ∈ cur :: rest, q ∈ U := fun q hq => by
    rcases List.mem_cons.mp hq with e | hq
    · subst e; exact hU _ (m.mem.mp (key e4))
    · obtain ⟨d', _, hd⟩ := e5 q hq
      exact hU _ (m.mem.mp (key hd))
  have hlen : (cur :: rest).length ≤ U.length := nodup_le e6 inU
  have hk : hasK kvs cur = true := hasK_iff.mpr (key e4)
  have il : Is (WP.ix (WP.pure (cur :: rest).reverse) (WP.neg (WP.pure (1 : Int)))) cur := (Is.ix Is.pure (Is.bind Is.pure Is.pure) ⟨by rw [List.length_reverse, List.length_cons]; omega, by rw [List.length_reverse, List.length_cons]; omega⟩).eq ixD_rev
  have ig : Is (WP.dget (WP.pure kvs) (WP.ix (WP.pure (cur :: rest).reverse) (WP.neg (WP.pure (1 : Int))))) (getK kvs cur) := Is.b2 Is.pure il (Is.req hk)
  have hgk : ∃ o, lookK kvs cur = some o ∧ getK kvs cur = o := by
    unfold hasK at hk
    obtain ⟨o, ho⟩ := Option.isSome_iff_exists.mp hk
    exact ⟨o, ho, by unfold getK; rw [ho]; rfl⟩
  obtain ⟨o, ho, hg⟩ := hgk
  rw [hg] at ig
  refine (Is.bind ig Is.pure) _ _ ⟨fun e => ?_, fun e => ?_⟩
  · obtain ⟨pr, rfl⟩ := Option.isSome_iff_exists.mp e
    obtain ⟨hp, d1, g1, g2⟩ := p.par cur pr (lookK_some ho)
    have hd := dist_one f.nd e4 g2
    have hlr : (cur :: rest).reverse.length < 100000 := by rw [List.length_reverse]; omega
    have np : pr ∉ cur :: rest := fun hm => by
      rcases List.mem_cons.mp hm with e | hm
      · subst e; have := dist_one f.nd e4 g1; omega
      · obtain ⟨d', h1, h2⟩ := e5 pr hm
        have := dist_one f.nd h2 g1; omega
    refine (Is.bind (a := (cur :: rest).reverse ++ [pr]) (Is.bind (a := pr) (Is.bind (a := some pr) ig (Is.req rfl)) (Is.req hlr)) Is.pure : Is _ (Ctl.nx ((cur :: rest).reverse ++ [pr]))) _ _ ?_
    refine ⟨d1, by omega, rfl, pr, cur :: rest, by simp, e2, fun q hq => ?_, g1, fun q hq => ?_, List.nodup_cons.mpr ⟨np, e6⟩, by rw [List.length_cons]; omega⟩
    · rcases List.mem_cons.mp hq with e | hq
      · subst e; exact hp
      · exact e3 q hq
    · rcases List.mem_cons.mp hq with e | hq
      · subst e; exact ⟨d, by omega, e4⟩
      · obtain ⟨d', h1, h2⟩ := e5 q hq
        exact ⟨d', by omega, h2⟩
  · have e : o = none := by cases o with | none => rfl | some x => cases e
    subst e
    have hc := p.non cur (lookK_some ho)
    subst hc
    have hd := dist_one f.nd e4 (List.mem_of_getElem? f.hd)
    refine hQ _ ⟨⟨rest, List.reverse_reverse _, e2, e3⟩, ?_, ?_, d0, ?_, f.wk _ hb, fun e w => ?_⟩
    · rw [List.reverse_reverse]; exact hlen
    · rw [List.reverse_reverse]; exact e6
    · rw [List.reverse_reverse, List.length_cons]; omega
    · obtain ⟨r, hr, er, hle⟩ := f.all e b w
      have : (b, r.2) ∈ gs := by rw [← er]; exact hr
      have := dist_one f.nd hb this
      omega
/-! the papers of ways -/
theorem Way.ix {st : Sq → List Sq} {a b : Sq} {w : List Sq} (h : Way st a b w) : 0 < w.length ∧ ixD w 0 = a ∧ ixD w (-1) = b ∧ ∀ k : Int, 1 ≤ k → k < w.length → ixD w k ∈ st (ixD w (k - 1)) := by
  obtain ⟨t, rfl, e, hp⟩ := h
  refine ⟨by simp, ixD_nat (xs := a :: t) (i := 0) (by simp), by rw [ixD_last]; exact e, fun k h1 h2 => ?_⟩
  obtain ⟨i, rfl⟩ : ∃ i : Nat, k = ((i + 1 : Nat) : Int) := ⟨(k - 1).toNat, by omega⟩
  rw [List.length_cons] at h2
  have hi : i < t.length := by omega
  have e1 : (((i + 1 : Nat) : Int)) - 1 = (i : Int) := by omega
  have g := pairsFrom_get a t i hi
  have := hp _ (List.mem_of_getElem? g)
  rw [e1, ixD_getD (by rw [List.length_cons]; omega), ixD_getD (by rw [List.length_cons]; omega)]
  exact this
theorem Way.ld {ch : List Str} {a b : Sq} {w : List Sq} (h : Way (ldBeside ch) a b w) (ha : isLd ch a = true) : ∀ q ∈ w, isLd ch q = true := by
  obtain ⟨t, rfl, e, hp⟩ := h
  intro q hq
  rcases List.mem_cons.mp hq with e | hq
  · rw [e]; exact ha
  · have hs : q ∈ (pairsFrom a t).map (·.2) := by rw [seconds]; exact hq
    obtain ⟨r, hr, e⟩ := List.mem_map.mp hs
    rw [← e]; exact (List.mem_filter.mp (hp r hr)).2
end Y

/-! for k, v in d.items(), d locked, its keys nested -/
namespace Y
open PySem PySem.Spec PyProof.Rows L2
end Y

/-! d.items() of a locked dict with nested keys in a for; such a dict or None; triples told by place; int of a bool -/
namespace Y
open PySem PySem.Spec PyProof.Rows L2
open NKey (toN)
section
variable {κ α β γ δ s : Type} [PyI κ] [NKey κ] [DecidableEq κ] [PyI β] {P : Program} {w : World} {K : PySem.W.Frag} {e : Ef} {σ : L2.St} {W W0 : Wo} {td te : TE} {t tz tu : TS} {i n : Nat} {v : V} {D : Ends} {R : Nat → γ → Prop} {fp : List Addr}
/-! such a dict or None -/
end
/-! triples -/
instance {α β γ : Type} [Inhabited α] [Inhabited β] [Inhabited γ] : Inhabited (Tri α β γ) := ⟨⟨default, default, default⟩⟩
section
variable {α0 α1 α2 β : Type} [PyI α0] [PyI α1] [PyI α2] {e : Ef} {σ : L2.St} {W : Wo} {K : PySem.W.Frag} {ta te : TE} {i0 i1 i2 : Nat} {D : Ends} {tz : TS} {R : Nat → β → Prop} {w : WP (Tri α0 α1 α2)}
end
section
variable {e : Ef} {σ : L2.St} {W : Wo} {ta : TE}
end
/-! the rules with the program and the world told: within a comprehension's block -/
section
variable {X : Cx} {o i e f value : Expr} {pos pos' apos cpos : Pos} {td ty tv tx : TE} {P : Program} {w : World}
end
end Y

/-! step papers -/
namespace Y
open PySem PySem.Spec PyProof.Rows L2
theorem sides_is (q : Sq) : Is (law_sidesM q) (sides q) := side_neighbours_is q
end Y

/-! dicts with nested keys, plain; tides; late papers -/
namespace Y
open PySem PySem.Spec L2
theorem Is.run {α : Type} {w : WP α} {a : α} {n : Nat} {Q : Nat → α → Prop} (h : Is w a) (q : Q n a) : w.run n Q := h n Q q
section
variable {κ β : Type} [DecidableEq κ]
theorem lookN_put {kvs : List (κ × β)} {q : κ} {b : β} (h : hasN kvs q = true) (x : κ) : lookN (putD kvs q b) x = if x = q then some b else lookN kvs x := by
  have h' := h
  unfold putD
  rw [if_pos h]
  unfold hasN lookN at h'
  unfold lookN
  clear h
  induction kvs with
  | nil => cases h'
  | cons a as ih =>
    rw [List.map_cons]
    by_cases ha : a.1 = q
    · rw [if_pos ha]
      by_cases hx : x = q
      · rw [if_pos hx, List.find?_cons_of_pos (by simpa using ha.trans hx.symm)]; rfl
      · rw [if_neg hx, List.find?_cons_of_neg (by simpa using fun z => hx (z.symm.trans ha)), List.find?_cons_of_neg (by simpa using fun z => hx (z.symm.trans ha))]
        clear ih h' ha
        induction as with
        | nil => rfl
        | cons c cs ih2 =>
          rw [List.map_cons]
          by_cases hc : c.1 = x
          · rw [if_neg (fun z => hx (hc.symm.trans z)), List.find?_cons_of_pos (by simpa using hc), List.find?_cons_of_pos (by simpa using hc)]
          · have hc' : ¬ decide ((if c.1 = q then (c.1, b) else c).1 = x) = true := by
              by_cases hcq : c.1 = q
              · rw [if_pos hcq]; simpa using hc
              · rw [if_neg hcq]; simpa using hc
            rw [List.find?_cons_of_neg (a := if c.1 = q then (c.1, b) else c) (p := fun p => decide (p.1 = x)) hc', List.find?_cons_of_neg (by simpa using hc)]
            exact ih2
    · rw [if_neg ha]
      rw [List.find?_cons_of_neg (by simpa using ha)] at h'
      have ih := ih h'
      by_cases hax : a.1 = x
      · rw [List.find?_cons_of_pos (by simpa using hax), List.find?_cons_of_pos (by simpa using hax), if_neg (fun z => ha (hax.trans z))]
      · rw [List.find?_cons_of_neg (by simpa using hax), List.find?_cons_of_neg (by simpa using hax)]
        exact ih
end
/-! ### tides -/
def tl (td : List Int) (t : Int) : Int := ixD td (t % (td.length : Int))
def dry (rel : List Str) (td : List Int) (q : Sq) (t : Int) : Bool := isSq rel q && decide (tl td t ≤ hg rel q)
def stays (q : Sq) : List Sq := q :: sides q
def nx (td : List Int) (o : Sq) (i : Int) : Sq × Int := (o, (i + 1) % (td.length : Int))
/-! ### the models -/
abbrev T3P := Tri Sq Int Int
def kk (x : T3P) : Sq × Int := (x.a, x.b)
def kv (x : T3P) : (Sq × Int) × Int := ((x.a, x.b), x.c)
def kvsL (p : List T3P) : List ((Sq × Int) × Int) := p.map kv
def inT (rel : List Str) (td : List Int) (x : T3P) : Prop := isSq rel x.a = true ∧ 0 ≤ x.b ∧ x.b < (td.length : Int) ∧ 0 ≤ x.c
structure OkL (rel : List Str) (td : List Int) (p : List T3P) : Prop where
  nd : (p.map kk).Nodup
  ok : ∀ x ∈ p, inT rel td x
/-- the height of a pair, 0 where there is none -/
def hN (p : List T3P) (k : Sq × Int) : Int := (lookN (kvsL p) k).getD 0
structure Late (rel : List Str) (td : List Int) (s g : Sq) (n : Int) (p : List T3P) : Prop where
  ok : OkL rel td p
  st : dry rel td s 0 = true → n ≤ hN p (s, 0)
  go : ∀ i, 0 ≤ i → i < (td.length : Int) → dry rel td g i = true → hN p (g, i) = 0
  le : ∀ x ∈ p, dry rel td x.a x.b = true → ∀ o ∈ stays x.a, dry rel td o (x.b + 1) = true → x.c ≤ hN p (nx td o x.b) + 1
theorem mem_rangeL0 {k i : Int} : i ∈ rangeL 0 k ↔ 0 ≤ i ∧ i < k := by
  rw [List.mem_iff_getElem?]
  constructor
  · rintro ⟨j, hj⟩
    have := rangeL0_get hj
    omega
  · rintro ⟨h1, h2⟩
    refine ⟨i.toNat, ?_⟩
    rw [rangeL_get (by rw [Int.sub_zero]; omega)]
    congr 1
    omega
end Y

/-! more of Is, Gives and Draws -/
namespace Y
open PySem PySem.Spec L2
section
variable {α β γ δ s ρ : Type}
theorem Is.consE {a : WP α} {b : WP (List α)} {x : α} {xs : List α} (h : Is a x) (h' : Is b xs) : Is (WP.consE a b) (x :: xs) := h.bind (h'.bind Is.pure)
theorem Is.row {a : WP (List α)} {xs : List α} (h : Is a xs) (hl : xs.length ≤ 100000) : Is (WP.row a) xs := h.bind (Is.req hl)
theorem Is.row1 {a : WP α} {x : α} (h : Is a x) : Is (WP.row (WP.consE a (WP.pure []))) [x] := Is.row (Is.consE h Is.pure) (by show 1 ≤ 100000; decide)
theorem Is.cat {a b : WP (List α)} {xs ys : List α} (h : Is a xs) (h' : Is b ys) (hl : xs.length + ys.length ≤ 100000) : Is (WP.cat a b) (xs ++ ys) := h.bind (h'.bind (Is.req hl))
theorem Is.cut {a : WP (List α)} {l m : WP (Option Int)} {xs : List α} {x y : Option Int} (h : Is a xs) (h1 : Is l x) (h2 : Is m y) : Is (WP.cut a l m) (cutL xs x y) := h.bind (h1.bind (h2.bind Is.pure))
theorem Is.pair {a : WP α} {b : WP β} {x : α} {y : β} (h : Is a x) (h' : Is b y) : Is (WP.pair a b) (x, y) := h.bind (h'.bind Is.pure)
theorem Is.add {a b : WP Int} {x y : Int} (h : Is a x) (h' : Is b y) : Is (WP.add a b) (x + y) := h.bind (h'.bind Is.pure)
theorem Is.sub {a b : WP Int} {x y : Int} (h : Is a x) (h' : Is b y) : Is (WP.sub a b) (x - y) := h.bind (h'.bind Is.pure)
theorem Is.mod {a b : WP Int} {x y : Int} (h : Is a x) (h' : Is b y) (hy : 0 < y) : Is (WP.mod a b) (x % y) := h.bind (h'.bind (Is.req hy))
theorem Is.neg {a : WP Int} {x : Int} (h : Is a x) : Is (WP.neg a) (-x) := h.bind Is.pure
theorem Is.fst {a : WP (α × β)} {x : α × β} (h : Is a x) : Is (WP.fst a) x.1 := h.bind Is.pure
theorem Is.snd {a : WP (α × β)} {x : α × β} (h : Is a x) : Is (WP.snd a) x.2 := h.bind Is.pure
theorem Is.ge {a b : WP Int} {x y : Int} (h : Is a x) (h' : Is b y) : Is (WP.ge a b) (decide (y ≤ x)) := h.bind (h'.bind Is.pure)
theorem Is.le {a b : WP Int} {x y : Int} (h : Is a x) (h' : Is b y) : Is (WP.le a b) (decide (x ≤ y)) := h.bind (h'.bind Is.pure)
theorem Is.min2 {a b : WP Int} {x y : Int} (h : Is a x) (h' : Is b y) : Is (WP.min2 a b) (if y < x then y else x) := h.bind (h'.bind Is.pure)
/-- if true: return, else go on -/
theorem Is.retIf {t : WP Bool} {b : Bool} {A B : WP α} {x : α} (h : Is t b) (h1 : b = true → Is A x) (h2 : b = false → Is B x) : Is (t.bind fun b => WP.cond b A B) x := h.bind (Is.cond h1 h2)
/-- a test that is false: what follows -/
theorem Is.passB {t : WP Bool} {A B : WP α} {x : α} (h : Is t false) (h2 : Is B x) : Is (t.bind fun b => WP.cond b A B) x := h.bind h2
theorem Draws.passB {t : WP Bool} {A B : WP α} {k : Nat} {P : α → Prop} (h : Is t false) (h2 : Draws B k P) : Draws (t.bind fun b => WP.cond b A B) k P := fun n Q hn q => h n _ (h2 n Q hn q)
theorem Draws.isB {w : WP β} {b : β} {f : β → WP α} {k : Nat} {P : α → Prop} (h : Is w b) (h' : Draws (f b) k P) : Draws (w.bind f) k P := fun n Q hn q => h n _ (h' n Q hn q)
theorem Gives.isB {w : WP β} {b : β} {f : β → WP α} {P : α → Prop} (h : Is w b) (h' : Gives (f b) P) : Gives (w.bind f) P := fun n Q q => h n _ (h' n Q q)
theorem Gives.passB {t : WP Bool} {A B : WP α} {P : α → Prop} (h : Is t false) (h2 : Gives B P) : Gives (t.bind fun b => WP.cond b A B) P := fun n Q q => h n _ (h2 n Q q)
theorem Draws.take' {w : WP Int} {many : Int} (h : Is w many) (h0 : 0 < many) : Draws (WP.b2 (WP.pure ()) w m_take) 1 (fun x => 0 ≤ x ∧ x < many) := fun m Q hm q => h m _ ⟨by omega, h0, fun x a b => q (m + 1) x (by omega) (by omega) ⟨a, b⟩⟩
/-- a loop over a list in which each turn ends well -/
theorem Draws.loopT {body : α → Unit → WP (Ctl Unit γ)} {xs : List α} {k : Nat} {f : Unit → WP ρ} {r : γ → WP ρ} {k' : Nat} {P : ρ → Prop} (h : ∀ x ∈ xs, Draws (body x ()) k (· = .nx ())) (h' : Draws (f ()) k' P) : Draws (WP.after (WP.loop body xs ()) f r) (xs.length * k + k') P :=
  Draws.loop (I := fun _ _ => True) k trivial (fun i a y ha _ => (h a (List.mem_of_getElem? ha)).imp (Nat.le_refl _) fun c hc => ⟨(), hc, trivial⟩) (fun _ _ => h')
/-- a turn: if what is told is false, return; it is true -/
theorem Draws.turn {w : WP Bool} {no : γ} {k : Nat} (h : Draws w k (· = true)) : Draws ((WP.not w).bind fun b => WP.cond b ((WP.pure no).bind fun r => WP.pure (.rt r)) (WP.pure (Ctl.nx ()))) k (· = (.nx () : Ctl Unit γ)) := fun n Q hn q => h n _ hn fun m b h1 h2 hb => by
  subst hb; exact q m _ h1 h2 rfl
theorem any_eqvQ (x : Sq) (ys : List Sq) : ((ys.map Dat.dat).any fun z => PyData.eqv z (Dat.dat x)) = decide (x ∈ ys) := by
  rw [any_eqv]
  exact Bool.eq_iff_iff.mpr (by simp only [decide_eq_true_eq])
theorem Is.inQ {a : WP Sq} {b : WP (List Sq)} {x : Sq} {ys : List Sq} (ha : Is a x) (hb : Is b ys) : Is (WP.inD a b) (decide (x ∈ ys)) := ha.bind (hb.bind ((Is.req ⟨shaped_of (ok_sq x), shaped_L fun y _ => ok_sq y⟩).eq (any_eqvQ x ys)))
/-- steps of a law, each with its draws -/
theorem Draws.go {w : WP β} {f : β → WP α} {k K : Nat} {P : β → Prop} {P' : α → Prop} (h : Draws w k P) (h' : ∀ b, P b → Draws (f b) (K - k) P') (hk : k ≤ K := by decide) : Draws (w.bind f) K P' := fun n Q hn q => h n _ (by omega) fun m b h1 h2 hb => h' b hb m Q (by omega) fun m' c h3 h4 hc => q m' c (by omega) (by omega) hc
theorem Draws.u2 {a : WP β} {x : β} {f : Unit → β → WP α} {k : Nat} {P : α → Prop} (ha : Is a x) (h : Draws (f () x) k P) : Draws (WP.b2 (WP.pure ()) a f) k P := fun n Q hn q => ha n _ (h n Q hn q)
theorem run_plain {w : WP Bool} {k : Nat} (h : Draws w k (· = true)) (hk : k ≤ 1000000 := by decide) : w.run 0 fun _ b => b = true := h 0 _ (by omega) fun _ _ _ _ e => e
theorem Draws.skip {w : WP α} {K k : Nat} {P : α → Prop} (h : Draws w k P) (hk : k ≤ K := by decide) : Draws w K P := h.imp hk fun _ z => z
theorem Draws.of {w : WP α} {a : α} {k : Nat} (h : Is w a) : Draws w k (· = a) := h.draws
/-- what is told is true, so the law goes on -/
theorem Draws.notT {w : WP Bool} {k : Nat} (h : Draws w k (· = true)) : Draws (WP.not w) k (· = false) := fun n Q hn q => h n _ hn fun m b h1 h2 hb => by subst hb; exact q m _ h1 h2 rfl
theorem Draws.orF {a b : WP Bool} {k k' : Nat} (h : Draws a k (· = false)) (h' : Draws b k' (· = false)) : Draws (WP.or a b) (k + k') (· = false) := fun n Q hn q => h n _ (by omega) fun m x h1 h2 hx => by
  subst hx
  exact h' m Q (by omega) fun m' y h3 h4 hy => q m' y (by omega) (by omega) hy
/-- a test that is false, with draws -/
theorem Draws.pass {t : WP Bool} {A B : WP α} {k K : Nat} {P : α → Prop} (h : Draws t k (· = false)) (h2 : Draws B (K - k) P) (hk : k ≤ K := by decide) : Draws (t.bind fun b => WP.cond b A B) K P := Draws.go h (fun b hb => by subst hb; exact h2) hk
theorem Gives.andF {a b : WP Bool} (h : Gives a (fun x => x = true → Gives b (· = false))) : Gives (WP.and a b) (· = false) := fun n Q q => h n _ fun x hx => by
  cases x with
  | true => exact hx rfl n Q q
  | false => exact q _ rfl
theorem Gives.orF {a b : WP Bool} (h : Gives a (· = false)) (h' : Gives b (· = false)) : Gives (WP.or a b) (· = false) := fun n Q q => h n _ fun x hx => by
  subst hx
  exact h' n Q q
theorem Gives.notT {w : WP Bool} (h : Gives w (· = true)) : Gives (WP.not w) (· = false) := fun n Q q => h n _ fun b hb => by subst hb; exact q _ rfl
theorem Gives.the [Inhabited α] {w : WP (Option α)} {P : α → Prop} (h : Gives w (fun o => ∃ x, o = Option.some x ∧ P x)) : Gives (WP.the w) P := fun n Q q => h n _ fun o ⟨x, e, hx⟩ => by subst e; exact ⟨rfl, q _ hx⟩
theorem Gives.of {w : WP α} {a : α} (h : Is w a) : Gives w (· = a) := h.gives rfl
theorem Gives.c1 {a : WP β} {x : β} {f : β → WP α} {P : α → Prop} (ha : Is a x) (h : Gives (f x) P) : Gives (WP.b1 a f) P := fun n Q q => ha n _ (h n Q q)
theorem Gives.c2 {a : WP β} {b : WP γ} {x : β} {y : γ} {f : β → γ → WP α} {P : α → Prop} (ha : Is a x) (hb : Is b y) (h : Gives (f x y) P) : Gives (WP.b2 a b f) P := fun n Q q => ha n _ (hb n _ (h n Q q))
theorem Gives.c3 {a : WP β} {b : WP γ} {c : WP δ} {x : β} {y : γ} {z : δ} {f : β → γ → δ → WP α} {P : α → Prop} (ha : Is a x) (hb : Is b y) (hc : Is c z) (h : Gives (f x y z) P) : Gives (WP.b3 a b c f) P := fun n Q q => ha n _ (hb n _ (hc n _ (h n Q q)))
theorem Gives.c4 {ε : Type} {a : WP β} {b : WP γ} {c : WP δ} {d : WP ε} {x : β} {y : γ} {z : δ} {u : ε} {f : β → γ → δ → ε → WP α} {P : α → Prop} (ha : Is a x) (hb : Is b y) (hc : Is c z) (hd : Is d u) (h : Gives (f x y z u) P) : Gives (WP.b4 a b c d f) P := fun n Q q => ha n _ (hb n _ (hc n _ (hd n _ (h n Q q))))
theorem Gives.b2L {a : WP β} {b : WP γ} {x : β} {f : β → γ → WP α} {P : α → Prop} {P' : γ → Prop} (ha : Is a x) (hb : Gives b P') (h : ∀ y, P' y → Gives (f x y) P) : Gives (WP.b2 a b f) P := fun n Q q => ha n _ (hb n _ fun y hy => h y hy n Q q)
theorem Gives.pass {t : WP Bool} {A B : WP α} {P : α → Prop} (h : Gives t (· = false)) (h2 : Gives B P) : Gives (t.bind fun b => WP.cond b A B) P := h.bind fun b hb => by subst hb; exact h2
theorem Gives.retT {b : Bool} {P : Bool → Prop} (h : P b) : Gives ((WP.pure b).bind fun r => WP.pure r) P := Gives.pure h
theorem Gives.c5 {ε ζ : Type} {a : WP β} {b : WP γ} {c : WP δ} {d : WP ε} {e : WP ζ} {x : β} {y : γ} {z : δ} {u : ε} {v : ζ} {f : β → γ → δ → ε → ζ → WP α} {P : α → Prop} (ha : Is a x) (hb : Is b y) (hc : Is c z) (hd : Is d u) (he : Is e v) (h : Gives (f x y z u v) P) : Gives (WP.b5 a b c d e f) P := fun n Q q => ha n _ (hb n _ (hc n _ (hd n _ (he n _ (h n Q q)))))
theorem Is.notF {w : WP Bool} (h : Is w true) : Is (WP.not w) false := (Is.not h).eq rfl
theorem Is.the [Inhabited α] {w : WP (Option α)} {x : α} (h : Is w (Option.some x)) : Is (WP.the w) x := h.bind (Is.req rfl)
theorem Is.isN {w : WP (Option α)} {o : Option α} (h : Is w o) : Is (WP.isN w) o.isNone := h.bind Is.pure
theorem Is.notN {w : WP (Option α)} {o : Option α} (h : Is w o) : Is (WP.notN w) o.isSome := h.bind Is.pure
theorem Gives.loopT {body : α → Unit → WP (Ctl Unit γ)} {xs : List α} {f : Unit → WP ρ} {r : γ → WP ρ} {P : ρ → Prop} (h : ∀ x ∈ xs, Gives (body x ()) (· = .nx ())) (h' : Gives (f ()) P) : Gives (WP.after (WP.loop body xs ()) f r) P := fun n Q q => by
  refine WP.after_inv (fun i m y => m = n) rfl (fun i m x y hi hm => ?_) fun m y hm => ?_
  · refine h x (List.mem_of_getElem? hi) m _ fun c hc => ?_
    subst hc; exact hm
  · subst hm
    exact h' m Q q
theorem Gives.turn {w : WP Bool} {no : γ} (h : Gives w (· = true)) : Gives ((WP.not w).bind fun b => WP.cond b ((WP.pure no).bind fun r => WP.pure (.rt r)) (WP.pure (Ctl.nx ()))) (· = (.nx () : Ctl Unit γ)) := fun n Q q => h n _ fun b hb => by
  subst hb; exact q _ rfl
theorem Gives.stop {w : WP Bool} {no : γ} {B : WP (Ctl Unit γ)} (h : Gives w (· = false)) (hB : Gives B (· = (.nx () : Ctl Unit γ))) : Gives (w.bind fun b => WP.cond b ((WP.pure no).bind fun r => WP.pure (.rt r)) B) (· = (.nx () : Ctl Unit γ)) := Gives.pass h hB
/-- two told truths that agree -/
theorem Gives.neF {a b : WP Bool} {x : Bool} (h : Gives a (· = x)) (h' : Gives b (· = x)) : Gives (WP.ne a b) (· = false) := fun n Q q => h n _ fun y hy => h' n _ fun z hz => by subst hy; subst hz; exact q _ (by simp)
end
end Y

/-! judges of any ways and rings; saddle papers as a law judges them -/
namespace Y
open PySem PySem.Spec L2
def law_inside56M (a_ring : (Ls Sq)) (a_square : Sq) : WP Bool := (WP.pure (0 : Int)).bind fun a1_many => (WP.range1 (WP.len ((WP.pure a_ring).bind fun x => WP.pure x.l))).bind fun xs2 => WP.after (WP.loop (γ := Bool) (fun c2 (y2 : Int) => (WP.ix ((WP.pure a_ring).bind fun x => WP.pure x.l) (WP.sub (WP.pure c2) (WP.pure (1 : Int)))).bind fun a3_a => (WP.ix ((WP.pure a_ring).bind fun x => WP.pure x.l) (WP.pure c2)).bind fun a4_b => ((WP.and (WP.eq (WP.fst (WP.pure a3_a)) (WP.fst (WP.pure a_square))) (WP.and (WP.eq (WP.fst (WP.pure a4_b)) (WP.add (WP.fst (WP.pure a_square)) (WP.pure (1 : Int)))) (WP.gt (WP.snd (WP.pure a3_a)) (WP.snd (WP.pure a_square))))).bind fun b => WP.cond b ((WP.add (WP.pure y2) (WP.pure (1 : Int))).bind fun a8_many => (WP.pure a8_many)) ((WP.pure y2))).bind fun (y5 : Int) => ((WP.and (WP.eq (WP.fst (WP.pure a4_b)) (WP.fst (WP.pure a_square))) (WP.and (WP.eq (WP.fst (WP.pure a3_a)) (WP.add (WP.fst (WP.pure a_square)) (WP.pure (1 : Int)))) (WP.gt (WP.snd (WP.pure a4_b)) (WP.snd (WP.pure a_square))))).bind fun b => WP.cond b ((WP.add (WP.pure y5) (WP.pure (1 : Int))).bind fun a7_many => (WP.pure a7_many)) ((WP.pure y5))).bind fun (y6 : Int) => (WP.pure (.nx y6))) xs2 a1_many) (fun (z2 : Int) => (WP.eq (WP.mod (WP.pure z2) (WP.pure (2 : Int))) (WP.pure (1 : Int))).bind fun r9 => (WP.pure r9)) (fun r => (WP.pure r))
theorem mem_rangeLI {lo hi x : Int} : x ∈ rangeL lo hi ↔ lo ≤ x ∧ x < hi := ⟨mem_rangeL, fun ⟨h1, h2⟩ => by
  have := rangeL_get (lo := lo) (hi := hi) (i := (x - lo).toNat) (by omega)
  rw [show lo + (((x - lo).toNat : Nat) : Int) = x by omega] at this
  exact List.mem_of_getElem? this⟩
section
variable {rel : List Str} (r : Rel rel)
include r
omit r in
theorem law_inside56_is {R : List Sq} (h : R.length ≤ 100000) (x : Sq) : Is (law_inside56M ⟨R⟩ x) (insB R x) := by
  unfold law_inside56M
  refine Is.bind Is.pure (Is.bind (Is.range1 (Is.len (Is.bind Is.pure Is.pure)) h) ?_)
  refine Is.loop (fun i => ((((cyc R).take i).filter (rightB x)).length : Int)) rfl (fun i k hk => ?_) ?_
  · have hk' := List.mem_of_getElem? hk
    have i1 : Is (WP.ix ((WP.pure (⟨R⟩ : Ls Sq)).bind fun x => WP.pure x.l) (WP.pure k)) (ixD R k) := Is.ix (Is.bind Is.pure Is.pure) Is.pure (okI_pred hk').1
    have i2 : Is (WP.ix ((WP.pure (⟨R⟩ : Ls Sq)).bind fun x => WP.pure x.l) (WP.sub (WP.pure k) (WP.pure (1 : Int)))) (ixD R (k - 1)) := Is.ix (Is.bind Is.pure Is.pure) (Is.b2 Is.pure Is.pure Is.pure) (okI_pred hk').2
    have hc : (cyc R)[i]? = some (ixD R (k - 1), ixD R k) := by rw [cyc_ix, List.getElem?_map, hk]; rfl
    have et : (cyc R).take (i + 1) = (cyc R).take i ++ [(ixD R (k - 1), ixD R k)] := Y.take_snoc hc
    refine Is.bind i2 (Is.bind i1 ?_)
    generalize ixD R (k - 1) = p at et ⊢
    generalize ixD R k = q at et ⊢
    generalize hm : ((((cyc R).take i).filter (rightB x)).length : Int) = m
    have hm2 : ((((cyc R).take (i + 1)).filter (rightB x)).length : Int) = m + (if rightB x (p, q) then 1 else 0) := by
      rw [et, List.filter_append, List.length_append, List.filter_cons]
      split <;> simp <;> omega
    have f1 : ∀ {q : Sq}, Is (WP.fst (WP.pure q)) q.1 := Is.bind Is.pure Is.pure
    have f2 : ∀ {q : Sq}, Is (WP.snd (WP.pure q)) q.2 := Is.bind Is.pure Is.pure
    rw [hm2]
    refine Is.bind (a := m + (if p.1 = x.1 ∧ q.1 = x.1 + 1 ∧ x.2 < p.2 then 1 else 0)) ?_ (Is.bind (a := m + (if rightB x (p, q) then 1 else 0)) ?_ Is.pure)
    · refine Is.bind (Is.and (Is.eqv f1 f1) fun _ => Is.and (Is.eqv f1 (Is.add f1 Is.pure)) fun _ => Is.gt f2 f2) (Is.cond (fun e => ?_) fun e => ?_)
      · simp only [Bool.and_eq_true, decide_eq_true_eq] at e
        rw [if_pos e]
        exact Is.bind (Is.add Is.pure Is.pure) Is.pure
      · rw [if_neg fun z => by rw [decide_eq_true z.1, decide_eq_true z.2.1, decide_eq_true z.2.2] at e; cases e]
        exact Is.pure.eq (by omega)
    · refine Is.bind (Is.and (Is.eqv f1 f1) fun _ => Is.and (Is.eqv f1 (Is.add f1 Is.pure)) fun _ => Is.gt f2 f2) (Is.cond (fun e => ?_) fun e => ?_)
      · simp only [Bool.and_eq_true, decide_eq_true_eq] at e
        refine Is.bind (Is.add Is.pure Is.pure) (Is.pure.eq ?_)
        rw [if_neg (by omega), if_pos (rightB_iff.mpr (.inr e))]
        omega
      · refine Is.pure.eq ?_
        have hn : ¬ (q.1 = x.1 ∧ p.1 = x.1 + 1 ∧ x.2 < q.2) := fun z => by rw [decide_eq_true z.1, decide_eq_true z.2.1, decide_eq_true z.2.2] at e; cases e
        by_cases hp : p.1 = x.1 ∧ q.1 = x.1 + 1 ∧ x.2 < p.2
        · rw [if_pos hp, if_pos (rightB_iff.mpr (.inl hp))]
        · rw [if_neg hp, if_neg fun z => by
            rcases rightB_iff.mp z with z | z
            · exact hp z
            · exact hn z]
  · rw [rangeL_len]
    refine Is.ret ((Is.eqv (Is.b2 Is.pure Is.pure (Is.req (by decide))) Is.pure).eq ?_)
    unfold insB
    rw [par_len, List.take_of_length_le (by rw [cyc_len]; dsimp only; omega), decide_eq_decide]
    omega
theorem lvl_nr (L : Int) (q : Sq) : isNr (lvl rel L) q = isNr rel q := by
  unfold isNr
  rw [lvl_wid r.ch]
  unfold lvl
  rw [List.length_map]
end
end Y

/-! rings that hold a lake -/
namespace Y
open PySem PySem.Spec PyProof.Rows L2
section
variable {α β : Type}
theorem par_app (f : α → Bool) : ∀ l m : List α, par f (l ++ m) = xor (par f l) (par f m)
  | [], m => by show _ = xor false _; rw [Bool.false_xor]; rfl
  | x :: xs, m => by show xor (f x) (par f (xs ++ m)) = xor (xor (f x) (par f xs)) (par f m); rw [par_app f xs m, Bool.xor_assoc]
theorem par_flat (f : β → Bool) (g : α → List β) : ∀ l : List α, par f (l.flatMap g) = par (fun x => par f (g x)) l
  | [] => rfl
  | x :: xs => by
    rw [List.flatMap_cons, par_app, par_flat f g xs]; rfl
theorem pairsFrom_app (a : α) : ∀ l m : List α, pairsFrom a (l ++ m) = pairsFrom a l ++ pairsFrom (lastD a l) m := fun l => by
  induction l generalizing a with
  | nil => intro m; rfl
  | cons x xs ih => intro m; show (a, x) :: pairsFrom x (xs ++ m) = (a, x) :: pairsFrom x xs ++ _; rw [ih x m]; rfl
theorem lastD_app (a : α) : ∀ l m : List α, lastD a (l ++ m) = lastD (lastD a l) m := fun l => by
  induction l generalizing a with
  | nil => intro m; rfl
  | cons x xs ih => intro m; exact ih x m
/-- steps told piece by piece -/
theorem pairs_flat (e : α → β) (h : α × α → List β) (hh : ∀ p, lastD (e p.1) (h p) = e p.2) : ∀ (a : α) (l : List α), pairsFrom (e a) ((pairsFrom a l).flatMap h) = (pairsFrom a l).flatMap (fun p => pairsFrom (e p.1) (h p)) ∧ lastD (e a) ((pairsFrom a l).flatMap h) = e (lastD a l)
  | a, [] => ⟨rfl, rfl⟩
  | a, x :: xs => by
    have ih := pairs_flat e h hh x xs
    show pairsFrom (e a) (((a, x) :: pairsFrom x xs).flatMap h) = ((a, x) :: pairsFrom x xs).flatMap _ ∧ lastD (e a) (((a, x) :: pairsFrom x xs).flatMap h) = e (lastD x xs)
    rw [List.flatMap_cons, List.flatMap_cons, pairsFrom_app, lastD_app, hh (a, x)]
    exact ⟨by rw [ih.1], ih.2⟩
theorem cyc_flat (e : α → β) (h : α × α → List β) (hh : ∀ p, lastD (e p.1) (h p) = e p.2) (hn : ∀ p, h p ≠ []) (l : List α) : cyc ((cyc l).flatMap h) = (cyc l).flatMap fun p => pairsFrom (e p.1) (h p) := by
  cases l with
  | nil => rfl
  | cons x xs =>
    have k := pairs_flat e h hh (lastD x xs) (x :: xs)
    have hc : cyc (x :: xs) = pairsFrom (lastD x xs) (x :: xs) := rfl
    rw [hc, ← k.1]
    have k2 : lastD (e (lastD x xs)) ((pairsFrom (lastD x xs) (x :: xs)).flatMap h) = e (lastD x xs) := k.2
    revert k2
    generalize hL : (pairsFrom (lastD x xs) (x :: xs)).flatMap h = L
    intro k2
    cases L with
    | nil =>
      exfalso
      have : h (lastD x xs, x) = [] := by
        have hL' : ((lastD x xs, x) :: pairsFrom x xs).flatMap h = [] := hL
        rw [List.flatMap_cons] at hL'
        exact (List.append_eq_nil_iff.mp hL').1
      exact hn _ this
    | cons y ys =>
      show pairsFrom (lastD y ys) (y :: ys) = pairsFrom (e (lastD x xs)) (y :: ys)
      have k3 : lastD y ys = e (lastD x xs) := k2
      rw [k3]
end
/-- the squares of the ring that a step of shores adds -/
def cornerOf (p : Shore × Shore) : Sq := (p.1.1.1 + p.2.1.1 - p.2.2.1, p.1.1.2 + p.2.1.2 - p.2.2.2)
def hF (p : Shore × Shore) : List Sq := if p.2.2 = p.1.2 then [cornerOf p, p.2.1] else [p.2.1]
def sqsOf (O : List Shore) : List Sq := (cyc O).flatMap hF
def ringH (O : List Shore) : List Sq := dedC (sqsOf O)
theorem hF_last (p : Shore × Shore) : lastD p.1.1 (hF p) = p.2.1 := by unfold hF; split <;> rfl
theorem hF_ne (p : Shore × Shore) : hF p ≠ [] := by unfold hF; split <;> exact fun h => by cases h
theorem sqs_cyc (O : List Shore) : cyc (sqsOf O) = (cyc O).flatMap fun p => pairsFrom p.1.1 (hF p) := cyc_flat (fun s : Shore => s.1) hF hF_last hF_ne O
/-- the step of the ring to the right of its top square -/
def Hq (w0 : Sq) (x : Sq × Sq) : Bool := decide ((x.1 = (w0.1 - 1, w0.2) ∧ x.2 = (w0.1 - 1, w0.2 + 1)) ∨ (x.2 = (w0.1 - 1, w0.2) ∧ x.1 = (w0.1 - 1, w0.2 + 1)))
theorem hq_iff {w0 : Sq} {x : Sq × Sq} : Hq w0 x = true ↔ ((x.1.1 = w0.1 - 1 ∧ x.1.2 = w0.2) ∧ x.2.1 = w0.1 - 1 ∧ x.2.2 = w0.2 + 1) ∨ ((x.2.1 = w0.1 - 1 ∧ x.2.2 = w0.2) ∧ x.1.1 = w0.1 - 1 ∧ x.1.2 = w0.2 + 1) := by
  obtain ⟨⟨a, b⟩, c, d⟩ := x
  unfold Hq
  simp only [decide_eq_true_eq, Prod.mk.injEq]
/-- a lake, w0 its first square -/
structure Lake (ld : Sq → Bool) (w0 : Sq) (Λ : Sq → Prop) : Prop where
  in0 : Λ w0
  wat : ∀ q, Λ q → ld q = false
  cl : ∀ q p, Λ q → p ∈ nbrs q → ld p = false → Λ p
  min : ∀ q, Λ q → w0.1 < q.1 ∨ (w0.1 = q.1 ∧ w0.2 ≤ q.2)
section
variable {ld : Sq → Bool} {w0 : Sq} {Λ : Sq → Prop} (K : Lake ld w0 Λ)
include K
theorem Lake.no {q : Sq} (h : q.1 < w0.1 ∨ (q.1 = w0.1 ∧ q.2 < w0.2)) : ¬ Λ q := fun z => by have := K.min q z; omega
theorem Lake.top : Sh ld ((w0.1 - 1, w0.2), w0) := by
  refine ⟨?_, K.wat _ K.in0, mem_sides.mpr (by dsimp only; omega)⟩
  cases e : ld (w0.1 - 1, w0.2) with
  | true => rfl
  | false => exact absurd (K.cl w0 _ K.in0 (mem_nbrs.mpr ⟨by dsimp only; omega, fun e => by have := congrArg Prod.fst e; dsimp only at this; omega⟩) e) (K.no (by dsimp only; omega))
theorem Lake.next {s : Shore} (h : Sh ld s) (hw : Λ s.2) : Λ (nxSh ld s).2 := by
  obtain ⟨ht, c⟩ := nxSh_cases h
  have k := king_nx h
  by_cases e : (nxSh ld s).2 = s.2
  · rw [e]; exact hw
  · exact K.cl _ _ hw (mem_nbrs.mpr ⟨k, e⟩) ht.w
theorem Lake.ne {q : Sq} (h : ld q = true) : ¬ (q.1 = w0.1 ∧ q.2 = w0.2) := fun e => by
  have : q = w0 := Prod.ext e.1 e.2
  rw [this, K.wat _ K.in0] at h; cases h
variable {O : List Shore} (o : Orb ld ((w0.1 - 1, w0.2), w0) O) (hΛ : ∀ s ∈ O, Λ s.2)
include o hΛ
/-- what a step of the orbit gives -/
theorem Lake.cases {p : Shore × Shore} (hp : p ∈ cyc O) : Sh ld p.1 ∧ Sh ld p.2 ∧ Λ p.1.2 ∧ Λ p.2.2 ∧
    ((hF p = [p.2.1] ∧ p.2.1 = p.1.1 ∧ p.2.2.1 = p.1.1.1 + (p.1.2.2 - p.1.1.2) ∧ p.2.2.2 = p.1.1.2 + (p.1.1.1 - p.1.2.1)) ∨
     (hF p = [p.2.1] ∧ p.2.1.1 = p.1.1.1 + (p.1.2.2 - p.1.1.2) ∧ p.2.1.2 = p.1.1.2 + (p.1.1.1 - p.1.2.1) ∧ p.2.2.1 = p.1.2.1 + (p.1.2.2 - p.1.1.2) ∧ p.2.2.2 = p.1.2.2 + (p.1.1.1 - p.1.2.1)) ∨
     (hF p = [cornerOf p, p.2.1] ∧ p.2.2 = p.1.2 ∧ p.2.1.1 = p.1.2.1 + (p.1.2.2 - p.1.1.2) ∧ p.2.1.2 = p.1.2.2 + (p.1.1.1 - p.1.2.1) ∧ cornerOf p = (p.1.1.1 + (p.1.2.2 - p.1.1.2), p.1.1.2 + (p.1.1.1 - p.1.2.1)) ∧ ld (cornerOf p) = true)) := by
  obtain ⟨m1, m2⟩ := cyc_mem hp
  have s1 := o.sh _ m1
  have s2 := o.sh _ m2
  have e := o.nx p hp
  obtain ⟨ht, c⟩ := nxSh_cases s1
  rw [← e] at ht c
  have hb := mem_sides.mp s1.b
  refine ⟨s1, s2, hΛ _ m1, hΛ _ m2, ?_⟩
  rcases c with c | c | c
  · refine .inl ⟨?_, c⟩
    unfold hF; rw [if_neg]
    intro z
    have z1 := congrArg Prod.fst z
    have z2 := congrArg Prod.snd z
    omega
  · refine .inr (.inl ⟨?_, c⟩)
    unfold hF; rw [if_neg]
    intro z
    have z1 := congrArg Prod.fst z
    have z2 := congrArg Prod.snd z
    omega
  · have ec : cornerOf p = (p.1.1.1 + (p.1.2.2 - p.1.1.2), p.1.1.2 + (p.1.1.1 - p.1.2.1)) := by
      unfold cornerOf
      have z1 := congrArg Prod.fst c.1
      have z2 := congrArg Prod.snd c.1
      apply Prod.ext
      · dsimp only; omega
      · dsimp only; omega
    refine .inr (.inr ⟨?_, c.1, c.2.1, c.2.2.1, ec, by rw [ec]; exact c.2.2.2⟩)
    unfold hF; rw [if_pos c.1]
theorem Lake.loc {p : Shore × Shore} (hp : p ∈ cyc O) : par (Hq w0) (pairsFrom p.1.1 (hF p)) = decide (p.2 = ((w0.1 - 1, w0.2), w0)) := by
  obtain ⟨s1, s2, l1, l2, c⟩ := K.cases o hΛ hp
  have b1 := mem_sides.mp s1.b
  have b2 := mem_sides.mp s2.b
  have m1 := K.min _ l1
  have m2 := K.min _ l2
  have n1 := K.ne s1.l
  have n2 := K.ne s2.l
  have et : p.2 = ((w0.1 - 1, w0.2), w0) ↔ (p.2.1.1 = w0.1 - 1 ∧ p.2.1.2 = w0.2) ∧ p.2.2.1 = w0.1 ∧ p.2.2.2 = w0.2 := by
    constructor
    · intro e; rw [e]; exact ⟨⟨rfl, rfl⟩, rfl, rfl⟩
    · rintro ⟨⟨h1, h2⟩, h3, h4⟩
      exact Prod.ext (Prod.ext h1 h2) (Prod.ext h3 h4)
  rcases c with ⟨h, c⟩ | ⟨h, c⟩ | ⟨h, c⟩
  · rw [h, c.1]
    show xor (Hq w0 (p.1.1, p.1.1)) false = _
    have e1 : Hq w0 (p.1.1, p.1.1) = false := by
      rw [Bool.eq_false_iff]; intro z
      rw [hq_iff] at z; dsimp only at z; omega
    rw [e1, eq_comm, Bool.xor_false, decide_eq_false_iff_not, et]
    have c1 := congrArg Prod.fst c.1
    have c2 := congrArg Prod.snd c.1
    omega
  · rw [h]
    show xor (Hq w0 (p.1.1, p.2.1)) false = _
    rw [Bool.xor_false, Bool.eq_iff_iff, decide_eq_true_eq, et, hq_iff]
    dsimp only
    omega
  · have k1 := K.ne c.2.2.2.2
    have c5 := congrArg Prod.fst c.2.2.2.1
    have c6 := congrArg Prod.snd c.2.2.2.1
    have c7 := congrArg Prod.fst c.1
    have c8 := congrArg Prod.snd c.1
    dsimp only at c5 c6
    rw [h]
    show xor (Hq w0 (p.1.1, cornerOf p)) (xor (Hq w0 (cornerOf p, p.2.1)) false) = _
    have e1 : Hq w0 (p.1.1, cornerOf p) = false := by
      rw [Bool.eq_false_iff]; intro z
      rw [hq_iff] at z; dsimp only at z; omega
    rw [e1, Bool.false_xor, Bool.xor_false, Bool.eq_iff_iff, decide_eq_true_eq, et, hq_iff]
    dsimp only
    omega
/-- the ring's squares are land, its steps go to a side, and it does not rise above the lake's top but for one row -/
theorem Lake.steps {x : Sq × Sq} (hx : x ∈ cyc (sqsOf O)) : ld x.1 = true ∧ ld x.2 = true ∧ w0.1 - 1 ≤ x.1.1 ∧ w0.1 - 1 ≤ x.2.1 ∧ (x.2 = x.1 ∨ x.2 ∈ sides x.1) := by
  rw [sqs_cyc] at hx
  obtain ⟨p, hp, hx⟩ := List.mem_flatMap.mp hx
  obtain ⟨s1, s2, l1, l2, c⟩ := K.cases o hΛ hp
  have b1 := mem_sides.mp s1.b
  have b2 := mem_sides.mp s2.b
  have m1 := K.min _ l1
  have m2 := K.min _ l2
  rcases c with ⟨h, c⟩ | ⟨h, c⟩ | ⟨h, c⟩
  · rw [h] at hx
    have hx : x ∈ [(p.1.1, p.2.1)] := hx
    simp at hx; subst hx
    refine ⟨s1.l, s2.l, ?_, ?_, .inl c.1⟩
    · dsimp only; omega
    · dsimp only; omega
  · rw [h] at hx
    have hx : x ∈ [(p.1.1, p.2.1)] := hx
    simp at hx; subst hx
    refine ⟨s1.l, s2.l, ?_, ?_, .inr (mem_sides.mpr ?_)⟩
    · dsimp only; omega
    · dsimp only; omega
    · dsimp only; omega
  · have c5 := congrArg Prod.fst c.2.2.2.1
    have c6 := congrArg Prod.snd c.2.2.2.1
    have c7 := congrArg Prod.fst c.1
    have c8 := congrArg Prod.snd c.1
    dsimp only at c5 c6
    rw [h] at hx
    have hx : x ∈ [(p.1.1, cornerOf p), (cornerOf p, p.2.1)] := hx
    simp at hx
    rcases hx with hx | hx
    · subst hx
      refine ⟨s1.l, c.2.2.2.2, ?_, ?_, .inr (mem_sides.mpr ?_)⟩
      · dsimp only; omega
      · dsimp only; omega
      · dsimp only; omega
    · subst hx
      refine ⟨c.2.2.2.2, s2.l, ?_, ?_, .inr (mem_sides.mpr ?_)⟩
      · dsimp only; omega
      · dsimp only; omega
      · dsimp only; omega
theorem Lake.inside : insB (ringH O) w0 = true := by
  unfold insB ringH
  rw [dedC_cyc, par_filter _ _ _ fun x hx e => ?_]
  · have key : par (rightB w0) (cyc (sqsOf O)) = par (fun x : Sq × Sq => xor (xor (decide (x.1.1 ≤ w0.1 ∧ w0.2 < x.1.2)) (decide (x.2.1 ≤ w0.1 ∧ w0.2 < x.2.2))) (Hq w0 x)) (cyc (sqsOf O)) := by
      refine par_congr fun x hx => ?_
      obtain ⟨d1, d2, r1, r2, st⟩ := K.steps o hΛ hx
      have n1 := K.ne d1
      have n2 := K.ne d2
      have st : (x.2.1 = x.1.1 ∧ x.2.2 = x.1.2) ∨ ((x.2.1 = x.1.1 - 1 ∧ x.2.2 = x.1.2) ∨ (x.2.1 = x.1.1 ∧ x.2.2 = x.1.2 - 1) ∨ (x.2.1 = x.1.1 ∧ x.2.2 = x.1.2 + 1) ∨ (x.2.1 = x.1.1 + 1 ∧ x.2.2 = x.1.2)) := by
        rcases st with e | e
        · exact .inl ⟨congrArg Prod.fst e, congrArg Prod.snd e⟩
        · exact .inr (mem_sides.mp e)
      cases hA : decide (x.1.1 ≤ w0.1 ∧ w0.2 < x.1.2) <;> cases hB : decide (x.2.1 ≤ w0.1 ∧ w0.2 < x.2.2) <;> cases hC : Hq w0 x <;>
        simp only [decide_eq_true_eq, decide_eq_false_iff_not, ← Bool.not_eq_true, hq_iff] at hA hB hC <;>
        simp only [Bool.xor_false, Bool.xor_true, Bool.not_false, Bool.not_true, Bool.false_xor, Bool.true_xor] <;>
        first
          | (rw [rightB_iff]; omega)
          | (rw [← Bool.not_eq_true, rightB_iff]; omega)
    rw [key, par_xor (fun x : Sq × Sq => xor (decide (x.1.1 ≤ w0.1 ∧ w0.2 < x.1.2)) (decide (x.2.1 ≤ w0.1 ∧ w0.2 < x.2.2))) (Hq w0), par_cyc (fun q : Sq => decide (q.1 ≤ w0.1 ∧ w0.2 < q.2)), Bool.false_xor, sqs_cyc, par_flat, par_congr (g := fun p => decide (p.2 = ((w0.1 - 1, w0.2), w0))) fun p hp => K.loc o hΛ hp]
    have := par_map (fun s : Shore => decide (s = ((w0.1 - 1, w0.2), w0))) (fun p : Shore × Shore => p.2) (cyc O)
    rw [cyc_seconds] at this
    rw [← this]
    exact par_one o.nd o.mem
  · have e : x.2 = x.1 := by simpa using e
    rw [← Bool.not_eq_true, rightB_iff, e]
    omega
end
end Y

/-! rings that hold a lake: their steps, their length, what is inside -/
namespace Y
open PySem PySem.Spec PyProof.Rows L2
theorem par_some {α : Type} {f : α → Bool} : ∀ {l : List α}, par f l = true → ∃ x ∈ l, f x = true
  | [], h => by cases h
  | x :: xs, h => by
    have h : xor (f x) (par f xs) = true := h
    cases e : f x with
    | true => exact ⟨x, List.mem_cons_self, e⟩
    | false =>
      rw [e, Bool.false_xor] at h
      obtain ⟨y, hy, e2⟩ := par_some h
      exact ⟨y, List.mem_cons_of_mem _ hy, e2⟩
/-- a side ring: what is beside at a corner is on the same side of it -/
theorem ins_diag {R : List Sq} (hk : ∀ s ∈ cyc R, s.2 ∈ sides s.1) {r c c' : Int} (hc : c' = c + 1 ∨ c' = c - 1) (hx : (r, c) ∉ R) (hy : (r + 1, c') ∉ R) : insB R (r, c) = insB R (r + 1, c') := by
  have key : par (fun s : Sq × Sq => xor (rightB (r, c) s) (rightB (r + 1, c') s)) (cyc R) = par (fun s : Sq × Sq => xor (decide (s.1.1 = r + 1 ∧ c' < s.1.2)) (decide (s.2.1 = r + 1 ∧ c' < s.2.2))) (cyc R) := by
    refine par_congr fun s hs => ?_
    obtain ⟨h1, h2⟩ := cyc_mem hs
    have k := mem_sides.mp (hk s hs)
    have n1 : ¬ (s.1.1 = r ∧ s.1.2 = c) := fun e => hx (by rw [← e.1, ← e.2]; exact h1)
    have n2 : ¬ (s.2.1 = r ∧ s.2.2 = c) := fun e => hx (by rw [← e.1, ← e.2]; exact h2)
    have n3 : ¬ (s.1.1 = r + 1 ∧ s.1.2 = c') := fun e => hy (by rw [← e.1, ← e.2]; exact h1)
    have n4 : ¬ (s.2.1 = r + 1 ∧ s.2.2 = c') := fun e => hy (by rw [← e.1, ← e.2]; exact h2)
    refine bool_xor_iff ?_
    rw [rightB_iff, rightB_iff, decide_eq_true_eq, decide_eq_true_eq]
    dsimp only
    omega
  rw [par_xor, par_cyc (fun q : Sq => decide (q.1 = r + 1 ∧ c' < q.2))] at key
  show par _ _ = par _ _
  revert key
  generalize par (rightB (r, c)) (cyc R) = a
  generalize par (rightB (r + 1, c')) (cyc R) = b
  cases a <;> cases b <;> simp
theorem side_king {p q : Sq} (h : q ∈ sides p) : King p q := by
  have := mem_sides.mp h
  unfold King; omega
theorem ins_king {R : List Sq} (hk : ∀ s ∈ cyc R, s.2 ∈ sides s.1) {x y : Sq} (h : y ∈ nbrs x) (hx : x ∉ R) (hy : y ∉ R) : insB R x = insB R y := by
  have h := mem_nbrs.mp h
  obtain ⟨r, c⟩ := x
  obtain ⟨r', c'⟩ := y
  dsimp only at h
  have hne : ¬ (r' = r ∧ c' = c) := fun e => h.2 (by rw [e.1, e.2])
  have kk : ∀ s ∈ cyc R, King s.1 s.2 := fun s hs => side_king (hk s hs)
  have h := h.1
  by_cases e : c' = c
  · subst e
    exact ins_side kk (mem_sides.mpr (by dsimp only; omega)) hx hy
  · by_cases e1 : r' = r
    · subst e1
      exact ins_side kk (mem_sides.mpr (by dsimp only; omega)) hx hy
    · by_cases e2 : r' = r + 1
      · subst e2
        exact ins_diag hk (by omega) hx hy
      · have e3 : r = r' + 1 := by omega
        subst e3
        exact (ins_diag hk (by omega) hy hx).symm
theorem ins_wet {ch : List Str} {R : List Sq} (hk : ∀ s ∈ cyc R, s.2 ∈ sides s.1) (hl : ∀ q ∈ R, isLd ch q = true) {a b : Sq} (ha : isLd ch a = false) (h : Rch (wtBeside ch) a b) : insB R a = insB R b := by
  have no : ∀ {q}, isLd ch q = false → q ∉ R := fun hq hm => by rw [hl _ hm] at hq; cases hq
  induction h with
  | refl => rfl
  | @step p q hp hq ih =>
    have hpw : isLd ch p = false := by
      rcases rch_wt hp with e | e
      · rw [e]; exact ha
      · exact (isWt_iff.mp e).2
    obtain ⟨h1, h2⟩ := mem_wtB.mp hq
    rw [ih]
    exact ins_king hk h1 (no hpw) (no (isWt_iff.mp h2).2)
section
variable {ld : Sq → Bool} {w0 : Sq} {Λ : Sq → Prop} (K : Lake ld w0 Λ)
variable {O : List Shore} (o : Orb ld ((w0.1 - 1, w0.2), w0) O) (hΛ : ∀ s ∈ O, Λ s.2)
include K o hΛ
theorem Lake.ring_step {x : Sq × Sq} (hx : x ∈ cyc (ringH O)) : x.2 ∈ sides x.1 := by
  unfold ringH at hx
  rw [dedC_cyc] at hx
  obtain ⟨h1, h2⟩ := List.mem_filter.mp hx
  rcases (K.steps o hΛ h1).2.2.2.2 with e | e
  · rw [e] at h2; simp at h2
  · exact e
theorem Lake.ring_land {q : Sq} (h : q ∈ ringH O) : ld q = true := by
  have h := dedC_mem h
  have e := cyc_seconds (sqsOf O)
  rw [← e] at h
  obtain ⟨x, hx, rfl⟩ := List.mem_map.mp h
  exact (K.steps o hΛ hx).2.1
theorem Lake.ring_in {x : Sq × Sq} (hx : x ∈ cyc (sqsOf O)) (hne : x.2 ≠ x.1) : x.1 ∈ ringH O ∧ x.2 ∈ ringH O := by
  have : x ∈ cyc (ringH O) := by
    unfold ringH; rw [dedC_cyc]
    exact List.mem_filter.mpr ⟨hx, by simpa using hne⟩
  exact cyc_mem this
theorem Lake.long : 4 ≤ (ringH O).length := by
  have f1 : ((w0.1 - 1, w0.2), w0) ∈ (cyc O).map (·.2) := by rw [cyc_seconds]; exact o.mem
  obtain ⟨p0, h0, e0⟩ := List.mem_map.mp f1
  have f2 : ((w0.1 - 1, w0.2), w0) ∈ (cyc O).map (·.1) := cyc_firsts.mem_iff.mpr o.mem
  obtain ⟨p1, h1, e1⟩ := List.mem_map.mp f2
  have q0 := K.loc o hΛ h0
  rw [e0, decide_eq_true rfl] at q0
  obtain ⟨x, hx, hq⟩ := par_some q0
  have hxc : x ∈ cyc (sqsOf O) := by rw [sqs_cyc]; exact List.mem_flatMap.mpr ⟨p0, h0, hx⟩
  have hq := hq_iff.mp hq
  have xne : x.2 ≠ x.1 := fun e => by
    have a := congrArg Prod.fst e
    have b := congrArg Prod.snd e
    omega
  obtain ⟨x1, x2⟩ := K.ring_in o hΛ hxc xne
  have mA : (w0.1 - 1, w0.2) ∈ ringH O ∧ (w0.1 - 1, w0.2 + 1) ∈ ringH O := by
    rcases hq with ⟨a, b⟩ | ⟨a, b⟩
    · have g1 : x.1 = (w0.1 - 1, w0.2) := Prod.ext a.1 a.2
      have g2 : x.2 = (w0.1 - 1, w0.2 + 1) := Prod.ext b.1 b.2
      exact ⟨g1 ▸ x1, g2 ▸ x2⟩
    · have g1 : x.2 = (w0.1 - 1, w0.2) := Prod.ext a.1 a.2
      have g2 : x.1 = (w0.1 - 1, w0.2 + 1) := Prod.ext b.1 b.2
      exact ⟨g1 ▸ x2, g2 ▸ x1⟩
  obtain ⟨s1, s2, l1, l2, c⟩ := K.cases o hΛ h1
  have m2 := K.min _ l2
  rw [e1] at c
  dsimp only at c
  rcases c with ⟨h, c⟩ | ⟨h, c⟩ | ⟨h, c⟩
  · have c1 := c.2.1
    have c2 := c.2.2
    omega
  · have c1 := c.2.2.1
    have c2 := c.2.2.2
    omega
  · have hpair : pairsFrom p1.1.1 (hF p1) = [(p1.1.1, cornerOf p1), (cornerOf p1, p1.2.1)] := by rw [h]; rfl
    have hc : (cornerOf p1, p1.2.1) ∈ cyc (sqsOf O) := by
      rw [sqs_cyc]; exact List.mem_flatMap.mpr ⟨p1, h1, by rw [hpair]; simp⟩
    have k1 := congrArg Prod.fst c.2.2.2.1
    have k2 := congrArg Prod.snd c.2.2.2.1
    dsimp only at k1 k2
    have cne : p1.2.1 ≠ cornerOf p1 := fun e => by
      have a := congrArg Prod.fst e
      have b := congrArg Prod.snd e
      omega
    obtain ⟨y1, y2⟩ := K.ring_in o hΛ hc cne
    have mB : (w0.1 - 1, w0.2 - 1) ∈ ringH O := by
      have : cornerOf p1 = (w0.1 - 1, w0.2 - 1) := Prod.ext (by dsimp only; omega) (by dsimp only; omega)
      exact this ▸ y1
    have mC : (w0.1, w0.2 - 1) ∈ ringH O := by
      have : p1.2.1 = (w0.1, w0.2 - 1) := Prod.ext (by dsimp only; omega) (by dsimp only; omega)
      exact this ▸ y2
    have nd : [((w0.1 - 1, w0.2) : Sq), (w0.1 - 1, w0.2 + 1), (w0.1 - 1, w0.2 - 1), (w0.1, w0.2 - 1)].Nodup := by
      have d : ∀ {a b c d : Int}, (a ≠ c ∨ b ≠ d) → ((a, b) : Sq) ≠ (c, d) := fun h e => by
        have e1 := congrArg Prod.fst e
        have e2 := congrArg Prod.snd e
        dsimp only at e1 e2
        omega
      simp only [List.nodup_cons, List.mem_cons, List.not_mem_nil, or_false, not_or, List.nodup_nil, and_true, not_false_eq_true]
      exact ⟨⟨d (by omega), d (by omega), d (by omega)⟩, ⟨d (by omega), d (by omega)⟩, d (by omega)⟩
    exact nodup_le nd fun q hq => by
      simp only [List.mem_cons, List.not_mem_nil, or_false] at hq
      rcases hq with e | e | e | e <;> rw [e]
      · exact mA.1
      · exact mA.2
      · exact mB
      · exact mC
end
end Y

/-! charts drawn with a water to the left and a land to the right; lands listed -/
namespace Y
open PySem PySem.Spec PyProof.Rows L2
end Y

/-! ways to the sea and holding rings: what the defs give -/
namespace Y
open PySem PySem.Spec PyProof.Rows L2
def lake_shoresM (a_chart : (List Str)) (a_lake : (List Sq)) : WP (List (Sq × Sq)) := (WP.b2 (WP.pure a_chart) (WP.pair (WP.b1 (WP.ix (WP.pure a_lake) (WP.pure (0 : Int))) aboveM) (WP.ix (WP.pure a_lake) (WP.pure (0 : Int)))) shores_fromM).bind fun r1 => (WP.pure r1)
def ring_holdingM (a_chart : (List Str)) (a_lake : (List Sq)) : WP (List Sq) := (WP.b2 (WP.pure a_chart) (WP.pure a_lake) lake_shoresM).bind fun a1_shores => (WP.row (WP.pure ([] : List Sq))).bind fun a2_squares => (WP.range1 (WP.len (WP.pure a1_shores))).bind fun xs3 => WP.after (WP.loop (γ := (List Sq)) (fun c3 (y3 : (List Sq)) => (WP.ix (WP.pure a1_shores) (WP.sub (WP.pure c3) (WP.pure (1 : Int)))).bind fun a4_last_last_water => (WP.ix (WP.pure a1_shores) (WP.pure c3)).bind fun a5_land_water => ((WP.eqD (WP.pure a5_land_water.2) (WP.pure a4_last_last_water.2)).bind fun b => WP.cond b (((WP.pair (WP.sub (WP.add (WP.fst (WP.pure a4_last_last_water.1)) (WP.fst (WP.pure a5_land_water.1))) (WP.fst (WP.pure a5_land_water.2))) (WP.sub (WP.add (WP.snd (WP.pure a4_last_last_water.1)) (WP.snd (WP.pure a5_land_water.1))) (WP.snd (WP.pure a5_land_water.2)))).bind fun a => WP.req (y3.length < 100000) (y3 ++ [a])).bind fun a8_squares => (WP.pure a8_squares)) ((WP.pure y3))).bind fun (y6 : (List Sq)) => ((WP.pure a5_land_water.1).bind fun a => WP.req (y6.length < 100000) (y6 ++ [a])).bind fun a7_squares => (WP.pure (.nx a7_squares))) xs3 a2_squares) (fun (z3 : (List Sq)) => (WP.b1 (WP.pure z3) without_repeatsM).bind fun r9 => (WP.pure r9)) (fun r => (WP.pure r))
def holding_ringM (a_chart : (List Str)) (a_square : Sq) : WP (Option (Ls Sq)) := (WP.b1 (WP.pure a_chart) lakesM).bind fun xs1 => WP.after (WP.loop (γ := (Option (Ls Sq))) (fun c1 (y1 : Unit) => (WP.inD (WP.pure a_square) (WP.pure c1)).bind fun b => WP.cond b ((WP.some' ((WP.b2 (WP.pure a_chart) (WP.pure c1) ring_holdingM).bind fun xs => WP.pure (⟨xs⟩ : (Ls Sq)))).bind fun r3 => (WP.pure (.rt r3))) ((WP.pure (.nx ())))) xs1 ()) (fun (z1 : Unit) => (WP.pure (none : (Option (Ls Sq)))).bind fun r4 => (WP.pure r4)) (fun r => (WP.pure r))
def is_marginM (a_chart : (List Str)) (a_square : Sq) : WP Bool := (WP.and (WP.b2 (WP.pure a_chart) (WP.pure a_square) is_nearM) (WP.not (WP.b2 (WP.pure a_chart) (WP.pure a_square) is_squareM))).bind fun r1 => (WP.pure r1)
def water_wayM (a_chart : (List Str)) (a_square : Sq) : WP (Option (Ls Sq)) := (WP.b3 (WP.pure a_chart) (WP.pure a_square) (WP.pure water_stepsM) met_fromM).bind fun a1_before => (WP.pure (⟨a1_before⟩ : (Fd (Option Sq)))).bind fun a2_before => ((WP.pure a2_before).bind fun x => WP.pure (x.kvs.map (·.1))).bind fun xs3 => WP.after (WP.loop (γ := (Option (Ls Sq))) (fun c3 (y3 : Unit) => (WP.b2 (WP.pure a_chart) (WP.pure c3) is_marginM).bind fun b => WP.cond b ((WP.some' ((WP.b2 ((WP.pure a2_before).bind fun x => WP.pure x.kvs) (WP.pure c3) way_toM).bind fun xs => WP.pure (⟨xs⟩ : (Ls Sq)))).bind fun r5 => (WP.pure (.rt r5))) ((WP.pure (.nx ())))) xs3 ()) (fun (z3 : Unit) => (WP.pure (none : (Option (Ls Sq)))).bind fun r6 => (WP.pure r6)) (fun r => (WP.pure r))
theorem margin_rch {ch : List Str} (c : Ch ch) {q : Sq} (hn : isNr ch q = true) (hs : isSq ch q = false) : Rch (wtBeside ch) (-1, -1) q := by
  have hl := c.ne
  have hw := c.w0
  have out : ∀ {r k : Int}, (r < 0 ∨ (ch.length : Int) ≤ r ∨ k < 0 ∨ (wid ch : Int) ≤ k) → -1 ≤ r → r ≤ (ch.length : Int) → -1 ≤ k → k ≤ (wid ch : Int) → isWt ch (r, k) = true := fun ho a b c d => wet_out (isNr_iff.mpr ⟨a, b, c, d⟩) (sq_no ho)
  have right : ∀ (r : Int), (r = -1 ∨ r = (ch.length : Int)) → ∀ n : Nat, (n : Int) ≤ (wid ch : Int) + 1 → Rch (wtBeside ch) (r, -1) (r, (n : Int) - 1) := fun r hr n => by
    induction n with
    | zero => intro _; exact .refl
    | succ n ih =>
      intro h
      refine .step (ih (by omega)) (mem_wtB.mpr ⟨mem_nbrs.mpr ⟨⟨by dsimp only; omega, by dsimp only; omega, by dsimp only; omega, by dsimp only; omega⟩, fun e => by injection e; omega⟩, out (by omega) (by omega) (by omega) (by omega) (by omega)⟩)
  have down : ∀ (k : Int), (k = -1 ∨ k = (wid ch : Int)) → ∀ n : Nat, (n : Int) ≤ (ch.length : Int) + 1 → Rch (wtBeside ch) (-1, k) ((n : Int) - 1, k) := fun k hk n => by
    induction n with
    | zero => intro _; exact .refl
    | succ n ih =>
      intro h
      refine .step (ih (by omega)) (mem_wtB.mpr ⟨mem_nbrs.mpr ⟨⟨by dsimp only; omega, by dsimp only; omega, by dsimp only; omega, by dsimp only; omega⟩, fun e => by injection e; omega⟩, out (by omega) (by omega) (by omega) (by omega) (by omega)⟩)
  obtain ⟨r, k⟩ := q
  have hh := isNr_iff.mp hn
  dsimp only at hh
  have hout : r < 0 ∨ (ch.length : Int) ≤ r ∨ k < 0 ∨ (wid ch : Int) ≤ k := by
    by_cases h : r < 0 ∨ (ch.length : Int) ≤ r ∨ k < 0 ∨ (wid ch : Int) ≤ k
    · exact h
    · rw [isSq_iff.mpr ⟨by dsimp only; omega, by dsimp only; omega, by dsimp only; omega, by dsimp only; omega⟩] at hs; cases hs
  have ek : (((k + 1).toNat : Nat) : Int) - 1 = k := by omega
  have er : (((r + 1).toNat : Nat) : Int) - 1 = r := by omega
  by_cases h1 : r = -1
  · subst h1
    have := right (-1) (.inl rfl) (k + 1).toNat (by omega)
    rwa [ek] at this
  · by_cases h2 : r = (ch.length : Int)
    · have a := down (-1) (.inl rfl) (r + 1).toNat (by omega)
      have b := right r (.inr h2) (k + 1).toNat (by omega)
      rw [er] at a
      rw [ek] at b
      exact a.trans b
    · by_cases h3 : k = -1
      · subst h3
        have a := down (-1) (.inl rfl) (r + 1).toNat (by omega)
        rwa [er] at a
      · have a := right (-1) (.inl rfl) (k + 1).toNat (by omega)
        have b := down k (.inr (by omega)) (r + 1).toNat (by omega)
        rw [ek] at a
        rw [er] at b
        exact a.trans b
/-- what a holding ring must be -/
def holdB (ch : List Str) (x : Sq) (R : List Sq) : Bool := ((ringB R && (cyc R).all fun p => decide (p.2 ∈ sides p.1)) && R.all (isLd ch)) && insB R x
theorem hF_len (p : Shore × Shore) : (hF p).length ≤ 2 := by unfold hF; split <;> simp
theorem flat_len {α β : Type} (h : α → List β) (k : Nat) (hk : ∀ p, (h p).length ≤ k) : ∀ l : List α, (l.flatMap h).length ≤ k * l.length
  | [] => Nat.zero_le _
  | x :: xs => by
    rw [List.flatMap_cons, List.length_append, List.length_cons, Nat.mul_succ]
    have := hk x
    have := flat_len h k hk xs
    omega
theorem chain_all {α : Type} {g : α → α} {P : α → Prop} (hs : ∀ x, P x → P (g x)) : ∀ {a : α} {l : List α}, (∀ p ∈ pairsFrom a l, p.2 = g p.1) → P a → ∀ x ∈ a :: l, P x
  | a, [], _, h, x, hx => by simp at hx; rw [hx]; exact h
  | a, y :: ys, hp, h, x, hx => by
    have hy : y = g a := hp (a, y) List.mem_cons_self
    rcases List.mem_cons.mp hx with e | hx
    · rw [e]; exact h
    · exact chain_all hs (fun p m => hp p (List.mem_cons_of_mem _ m)) (hy ▸ hs a h) x hx
theorem lake_shores_gives {ch : List Str} (c : Ch ch) (hz : (allSq ch).length ≤ 24000) {lake : List Sq} (hl : 0 < lake.length) {Λ : Sq → Prop} (K : Lake (isLd ch) (ixD lake 0) Λ) :
    Gives (lake_shoresM ch lake) (fun O => Orb (isLd ch) (((ixD lake 0).1 - 1, (ixD lake 0).2), ixD lake 0) O ∧ ∀ s ∈ O, Λ s.2) := by
  have i0 : Is (WP.ix (WP.pure lake) (WP.pure (0 : Int))) (ixD lake 0) := Is.ix Is.pure Is.pure ⟨by omega, by omega⟩
  have i1 : Is (WP.pair (WP.b1 (WP.ix (WP.pure lake) (WP.pure (0 : Int))) aboveM) (WP.ix (WP.pure lake) (WP.pure (0 : Int)))) (((ixD lake 0).1 - 1, (ixD lake 0).2), ixD lake 0) := Is.b2 (Is.b1 i0 (above_is _)) i0 Is.pure
  unfold lake_shoresM
  refine Gives.bind (fun n Q q => i1 n _ (shores_from_gives2 c hz K.top n Q q)) fun O hO => Gives.pure ⟨hO.1.1, fun s hs => ?_⟩
  obtain ⟨t, e, hp⟩ := hO.2
  rw [e] at hs
  exact (chain_all (P := fun s : Shore => Sh (isLd ch) s ∧ Λ s.2) (fun s h => ⟨(nxSh_cases h.1).1, K.next h.1 h.2⟩) hp ⟨K.top, K.in0⟩ s hs).2
/-- the ring around a lake -/
theorem ring_holding_gives {ch : List Str} (c : Ch ch) (hz : (allSq ch).length ≤ 12000) {lake : List Sq} (hl : 0 < lake.length) {Λ : Sq → Prop} (K : Lake (isLd ch) (ixD lake 0) Λ) :
    Gives (ring_holdingM ch lake) (fun R => R.length ≤ 96000 ∧ holdB ch (ixD lake 0) R = true) := by
  intro n Q hQ
  unfold ring_holdingM
  rw [WP.run_bind]
  refine lake_shores_gives c (by omega) hl K n _ fun O ⟨o, hΛ⟩ => ?_
  generalize ixD lake 0 = w0 at *
  have hOl : O.length ≤ 48000 := by
    have := nodup_le (U := shoresU ch) o.nd fun s hs => mem_shoresU (o.sh s hs)
    rw [shoresU_len] at this
    omega
  have hsl : (sqsOf O).length ≤ 96000 := by
    have := flat_len hF 2 hF_len (cyc O)
    rw [cyc_len] at this
    unfold sqsOf; omega
  have hrl : (ringH O).length ≤ 96000 := Nat.le_trans (dedC_len _) hsl
  have fin : Is (((WP.row (WP.pure ([] : List Sq))).bind fun a2_squares => (WP.range1 (WP.len (WP.pure O))).bind fun xs3 => WP.after (WP.loop (γ := (List Sq)) (fun c3 (y3 : (List Sq)) => (WP.ix (WP.pure O) (WP.sub (WP.pure c3) (WP.pure (1 : Int)))).bind fun a4_last_last_water => (WP.ix (WP.pure O) (WP.pure c3)).bind fun a5_land_water => ((WP.eqD (WP.pure a5_land_water.2) (WP.pure a4_last_last_water.2)).bind fun b => WP.cond b (((WP.pair (WP.sub (WP.add (WP.fst (WP.pure a4_last_last_water.1)) (WP.fst (WP.pure a5_land_water.1))) (WP.fst (WP.pure a5_land_water.2))) (WP.sub (WP.add (WP.snd (WP.pure a4_last_last_water.1)) (WP.snd (WP.pure a5_land_water.1))) (WP.snd (WP.pure a5_land_water.2)))).bind fun a => WP.req (y3.length < 100000) (y3 ++ [a])).bind fun a8_squares => (WP.pure a8_squares)) ((WP.pure y3))).bind fun (y6 : (List Sq)) => ((WP.pure a5_land_water.1).bind fun a => WP.req (y6.length < 100000) (y6 ++ [a])).bind fun a7_squares => (WP.pure (.nx a7_squares))) xs3 a2_squares) (fun (z3 : (List Sq)) => (WP.b1 (WP.pure z3) without_repeatsM).bind fun r9 => (WP.pure r9)) (fun r => (WP.pure r)))) (ringH O) := by
    refine Is.bind (a := []) (Is.bind Is.pure (Is.req (by simp))) (Is.bind (Is.range1 (Is.len Is.pure) (by omega)) ?_)
    refine Is.loop (fun i => ((cyc O).take i).flatMap hF) rfl (fun i k hk => ?_) ?_
    · have hk' := List.mem_of_getElem? hk
      have i1 : Is (WP.ix (WP.pure O) (WP.sub (WP.pure k) (WP.pure (1 : Int)))) (ixD O (k - 1)) := Is.ix Is.pure (Is.b2 Is.pure Is.pure Is.pure) (okI_pred hk').2
      have i2 : Is (WP.ix (WP.pure O) (WP.pure k)) (ixD O k) := Is.ix Is.pure Is.pure (okI_pred hk').1
      have hc : (cyc O)[i]? = some (ixD O (k - 1), ixD O k) := by rw [cyc_ix, List.getElem?_map, hk]; rfl
      have et : ((cyc O).take (i + 1)).flatMap hF = ((cyc O).take i).flatMap hF ++ hF (ixD O (k - 1), ixD O k) := by
        rw [Y.take_snoc hc, List.flatMap_append]; simp
      have bl : (((cyc O).take i).flatMap hF).length + 2 ≤ 96000 + 2 := by
        have h1 := flat_len hF 2 hF_len ((cyc O).take i)
        have h2 : ((cyc O).take i).length ≤ O.length := by rw [List.length_take, cyc_len]; omega
        omega
      rw [et]
      generalize ((cyc O).take i).flatMap hF = Y0 at bl
      generalize ixD O (k - 1) = s at i1
      generalize ixD O k = t at i2
      refine Is.bind i1 (Is.bind i2 ?_)
      have f1 : ∀ {q : Sq}, Is (WP.fst (WP.pure q)) q.1 := Is.bind Is.pure Is.pure
      have f2 : ∀ {q : Sq}, Is (WP.snd (WP.pure q)) q.2 := Is.bind Is.pure Is.pure
      refine Is.bind (a := if t.2 = s.2 then Y0 ++ [cornerOf (s, t)] else Y0) (Is.bind (Is.eqD Is.pure Is.pure (eqsq _) (eqsq _)) (Is.cond (fun e => ?_) fun e => ?_)) ?_
      · have e : t.2 = s.2 := by simpa using e
        rw [if_pos e]
        exact Is.bind (a := Y0 ++ [cornerOf (s, t)]) (Is.bind (a := cornerOf (s, t)) (Is.b2 (Is.b2 (Is.b2 f1 f1 Is.pure) f1 Is.pure) (Is.b2 (Is.b2 f2 f2 Is.pure) f2 Is.pure) Is.pure) (Is.req (by omega))) Is.pure
      · have e : ¬ t.2 = s.2 := by simpa using e
        rw [if_neg e]; exact Is.pure
      · have ez : (if t.2 = s.2 then Y0 ++ [cornerOf (s, t)] else Y0) ++ [t.1] = Y0 ++ hF (s, t) := by
          unfold hF
          dsimp only
          split <;> simp
        have lz : (if t.2 = s.2 then Y0 ++ [cornerOf (s, t)] else Y0).length < 100000 := by
          split
          · rw [List.length_append, List.length_singleton]; omega
          · omega
        refine Is.bind (a := Y0 ++ hF (s, t)) ?_ Is.pure
        rw [← ez]
        exact Is.bind Is.pure (Is.req lz)
    · rw [rangeL_len, List.take_of_length_le (by rw [cyc_len]; omega)]
      exact Is.ret (Is.b1 Is.pure (without_repeats_is (by show (sqsOf O).length ≤ 100000; omega)))
  refine fin n _ (hQ _ ⟨hrl, ?_⟩)
  unfold holdB
  rw [K.inside o hΛ, Bool.and_true, Bool.and_eq_true, Bool.and_eq_true]
  refine ⟨⟨ringB_iff.mpr ⟨K.long o hΛ, fun p hp => ⟨side_king (K.ring_step o hΛ hp), fun e => ?_⟩⟩, List.all_eq_true.mpr fun p hp => decide_eq_true (K.ring_step o hΛ hp)⟩, List.all_eq_true.mpr fun q hq => K.ring_land o hΛ hq⟩
  have := mem_sides.mp (K.ring_step o hΛ hp)
  have a := congrArg Prod.fst e
  have b := congrArg Prod.snd e
  omega

theorem sea_sq {ch : List Str} (c : Ch ch) {S : List Sq} {L : List (List Sq)} (h : WatersOf ch (S :: L)) {l : List Sq} (hl : l ∈ L) {q : Sq} (hq : q ∈ l) : isSq ch q = true ∧ isWt ch q = true ∧ ¬ Rch (wtBeside ch) q (-1, -1) := by
  have hw := h.in l (List.mem_cons_of_mem _ hl) q hq
  obtain ⟨S', L', e, hS⟩ := h.cons
  injection e with e1 e2
  subst e1
  have hno : q ∉ S := fun hm => (List.pairwise_cons.mp h.apart).1 l hl q hm hq
  have hnr : ¬ Rch (wtBeside ch) q (-1, -1) := fun r => hno ((hS.2 q).mpr (wch_symm hw r))
  refine ⟨?_, hw, hnr⟩
  cases e : isSq ch q with
  | true => rfl
  | false => exact absurd ((hS.2 q).mpr (margin_rch c (isWt_iff.mp hw).1 e)) hno
theorem lake_of {ch : List Str} (c : Ch ch) {S : List Sq} {L : List (List Sq)} (h : WatersOf ch (S :: L)) {l : List Sq} (hl : l ∈ L) : 0 < l.length ∧ Lake (isLd ch) (ixD l 0) (· ∈ l) := by
  rcases h.mem l (List.mem_cons_of_mem _ hl) with hm | ⟨x, hx, hr⟩
  · cases hm
  have mx : x ∈ l := (hr.2 x).mpr .refl
  have hs := fun {q} hq => sea_sq c h hl (q := q) hq
  have hcl : ∀ q p, q ∈ l → p ∈ nbrs q → isLd ch p = false → p ∈ l := fun q p hq hp hd => by
    have k := mem_nbrs.mp hp
    have hsq := isSq_iff.mp (hs hq).1
    exact (hr.2 p).mpr (.step ((hr.2 q).mp hq) (mem_wtB.mpr ⟨hp, isWt_iff.mpr ⟨isNr_iff.mpr (by omega), hd⟩⟩))
  refine ⟨List.length_pos_of_mem mx, ?_⟩
  cases l with
  | nil => cases mx
  | cons y ys =>
    have e0 : ixD (y :: ys) 0 = y := ixD_nat (xs := y :: ys) (i := 0) (by simp)
    rw [e0]
    refine ⟨List.mem_cons_self, fun q hq => (isWt_iff.mp (hs hq).2.1).2, hcl, fun q hq => ?_⟩
    rcases List.mem_cons.mp hq with e | hq
    · subst e; exact .inr ⟨rfl, Int.le_refl _⟩
    · have := (List.pairwise_cons.mp hr.1).1 q hq
      unfold ltQ at this; omega
theorem hold_in {ch : List Str} {R : List Sq} {x y : Sq} (hx : isLd ch x = false) (h : Rch (wtBeside ch) x y) : holdB ch x R = holdB ch y R := by
  unfold holdB
  cases h1 : (ringB R && (cyc R).all fun p => decide (p.2 ∈ sides p.1)) with
  | false => rfl
  | true =>
    cases h2 : R.all (isLd ch) with
    | false => rfl
    | true =>
      rw [Bool.and_eq_true] at h1
      rw [ins_wet (fun s hs => by simpa using List.all_eq_true.mp h1.2 s hs) (fun q hq => List.all_eq_true.mp h2 q hq) hx h]
theorem holding_ring_gives {ch : List Str} (c : Ch ch) (hz : (allSq ch).length ≤ 12000) {x : Sq} (hx : isWt ch x = true) : Gives (holding_ringM ch x) (fun o => (o = none ↔ Rch (wtBeside ch) x (-1, -1)) ∧ ∀ R, o = some R → R.l.length ≤ 96000 ∧ holdB ch x R.l = true) := by
  intro n Q hQ
  unfold holding_ringM
  rw [WP.run_bind]
  refine lakes_gives c n _ fun L ⟨S, hR⟩ => ?_
  refine WP.after_inv (fun i m _ => m = n ∧ ∀ l ∈ L.take i, x ∉ l) ⟨rfl, fun l hl => by cases hl⟩ (fun i m l _ hli ⟨hm, hno⟩ => ?_) (fun m _ ⟨hm, hno⟩ => ?_)
  · subst hm
    have hl := List.mem_of_getElem? hli
    rw [WP.run_bind]
    refine (Is.inD Is.pure Is.pure (eqsq _) (fun _ _ => eqsq _)) _ _ ?_
    rw [WP.run_cond]
    refine ⟨fun e => ?_, fun e => ⟨rfl, fun l' hl' => ?_⟩⟩
    · have e : x ∈ l := by simpa using e
      obtain ⟨h0, K⟩ := lake_of c hR hl
      refine ring_holding_gives c hz h0 K m _ fun R hRR => ?_
      refine hQ _ ⟨⟨fun h => (by cases h), fun h => absurd h (sea_sq c hR hl e).2.2⟩, fun T hT => ?_⟩
      cases hT
      refine ⟨hRR.1, ?_⟩
      have hr : Rch (wtBeside ch) x (ixD l 0) := by
        rcases hR.mem l (List.mem_cons_of_mem _ hl) with hm | ⟨y, hy, hr⟩
        · cases hm
        have hyw := mem_waterList.mp hy
        exact (wch_symm hyw ((hr.2 x).mp e)).trans ((hr.2 _).mp K.in0)
      rw [hold_in (isWt_iff.mp hx).2 hr]
      exact hRR.2
    · rw [Y.take_snoc hli] at hl'
      rcases List.mem_append.mp hl' with hl' | hl'
      · exact hno l' hl'
      · simp at hl'; subst hl'; simpa using e
  · subst hm
    rw [List.take_length] at hno
    refine hQ _ ⟨⟨fun _ => ?_, fun _ => rfl⟩, fun R h => by cases h⟩
    obtain ⟨S', L', e, hS⟩ := hR.cons
    injection e with e1 e2
    subst e1
    obtain ⟨l, hl, hxl⟩ := hR.cov x (mem_waterList.mpr hx)
    rcases List.mem_cons.mp hl with e | hl
    · subst e
      exact wch_symm (corner_wt ch) ((hS.2 x).mp hxl)
    · exact absurd hxl (hno l hl)
end Y

/-! ways to the sea -/
namespace Y
open PySem PySem.Spec PyProof.Rows L2
def isMg (ch : List Str) (q : Sq) : Bool := isNr ch q && !isSq ch q
theorem is_margin_is {ch : List Str} (c : Ch ch) (q : Sq) : Is (is_marginM ch q) (isMg ch q) := Is.ret (Is.and (Is.b2 Is.pure Is.pure (is_near_is c q)) fun _ => Is.not (Is.b2 Is.pure Is.pure (is_square_is c q)))
theorem mg_iff {ch : List Str} {q : Sq} : isMg ch q = true ↔ isNr ch q = true ∧ isSq ch q = false := by
  unfold isMg; rw [Bool.and_eq_true, Bool.not_eq_true']
theorem water_way_gives {ch : List Str} (c : Ch ch) {x : Sq} (hx : isWt ch x = true) : Gives (water_wayM ch x) (fun o => (o = none ↔ ¬ Rch (wtBeside ch) x (-1, -1)) ∧ ∀ w, o = some w → w.l.length ≤ 91204 ∧ ∃ z, Way (wtBeside ch) x z w.l ∧ isMg ch z = true) := by
  have hl := mc_len c
  have hU : ∀ q, Rch (wtBeside ch) x q → q ∈ mc ch := fun q hq => rch_in (isWt_iff.mp hx).1 hq
  have mcor : isMg ch (-1, -1) = true := mg_iff.mpr ⟨(isWt_iff.mp (corner_wt ch)).1, sq_no (.inl (by decide))⟩
  intro n Q hQ
  unfold water_wayM
  rw [WP.run_bind]
  refine met_gives (U := mc ch) (fun q _ => water_steps_is c q) hU (by omega) n _ fun kvs m => ?_
  rw [WP.run_bind, WP.run_pure, WP.run_bind]
  refine (Is.bind Is.pure Is.pure : Is ((WP.pure (⟨kvs⟩ : Fd (Option Sq))).bind fun x => WP.pure (x.kvs.map (·.1))) (kvs.map (·.1))) _ _ ?_
  refine WP.after_inv (fun i m' _ => m' = n ∧ ∀ q ∈ (kvs.map (·.1)).take i, isMg ch q = false) ⟨rfl, fun q hq => by cases hq⟩ (fun i m' q _ hqi ⟨hm, hno⟩ => ?_) (fun m' _ ⟨hm, hno⟩ => ?_)
  · subst hm
    have hq := List.mem_of_getElem? hqi
    have hr := m.mem.mp hq
    rw [WP.run_bind]
    refine (Is.b2 Is.pure Is.pure (is_margin_is c q)) _ _ ?_
    rw [WP.run_cond]
    refine ⟨fun e => ?_, fun e => ⟨rfl, fun p hp => ?_⟩⟩
    · refine way_to_gives m hr hU (by omega) m' _ fun w hw => ?_
      refine hQ _ ⟨⟨fun h => (by cases h), fun h => ?_⟩, fun w' h => ?_⟩
      · have hqw : isWt ch q = true := by
          rcases rch_wt hr with e | e
          · rw [e]; exact hx
          · exact e
        exact absurd (hr.trans (wch_symm (corner_wt ch) (margin_rch c (mg_iff.mp e).1 (mg_iff.mp e).2))) h
      · cases h
        exact ⟨Nat.le_trans hw.2.1 hl, q, hw.1, e⟩
    · rw [Y.take_snoc hqi] at hp
      rcases List.mem_append.mp hp with hp | hp
      · exact hno p hp
      · simp only [List.mem_singleton] at hp; rw [hp]; exact e
  · subst hm
    rw [List.take_length] at hno
    refine hQ _ ⟨⟨fun _ h => ?_, fun _ => rfl⟩, fun w h => by cases h⟩
    have := hno _ (m.mem.mpr h)
    rw [mcor] at this; cases this
theorem Way.wt {ch : List Str} {a b : Sq} {w : List Sq} (h : Way (wtBeside ch) a b w) (ha : isWt ch a = true) : ∀ q ∈ w, isWt ch q = true := by
  obtain ⟨t, rfl, e, hp⟩ := h
  intro q hq
  rcases List.mem_cons.mp hq with e | hq
  · rw [e]; exact ha
  · have hs : q ∈ (pairsFrom a t).map (·.2) := by rw [seconds]; exact hq
    obtain ⟨r, hr, e⟩ := List.mem_map.mp hs
    rw [← e]; exact (List.mem_filter.mp (hp r hr)).2
end Y

/-! two lands in one water: none is inside the ring around the other -/
namespace Y
open PySem PySem.Spec PyProof.Rows L2
theorem rb_same {x p q : Sq} (h : p.1 = q.1) : rightB x (p, q) = false := by
  rw [← Bool.not_eq_true, rightB_iff]; dsimp only; omega
theorem rb_dn {x p q : Sq} (h : q.1 = p.1 + 1) : rightB x (p, q) = decide (p.1 = x.1 ∧ x.2 < p.2) := by
  rw [Bool.eq_iff_iff, rightB_iff, decide_eq_true_eq]; dsimp only; omega
theorem rb_up {x p q : Sq} (h : p.1 = q.1 + 1) : rightB x (p, q) = decide (q.1 = x.1 ∧ x.2 < q.2) := by
  rw [Bool.eq_iff_iff, rightB_iff, decide_eq_true_eq]; dsimp only; omega
theorem xor_iff' {a b : Bool} : (xor a b = true) ↔ (a = true ∧ ¬ b = true) ∨ (¬ a = true ∧ b = true) := by cases a <;> cases b <;> simp
section
variable {ld : Sq → Bool} {s0 : Shore} {O : List Shore} (o : Orb ld s0 O)
include o
/-- what a step of the orbit gives -/
theorem Orb.cases3 {p : Shore × Shore} (hp : p ∈ cyc O) : Sh ld p.1 ∧ Sh ld p.2 ∧
    ((hF p = [p.2.1] ∧ p.2.1 = p.1.1 ∧ p.2.2.1 = p.1.1.1 + (p.1.2.2 - p.1.1.2) ∧ p.2.2.2 = p.1.1.2 + (p.1.1.1 - p.1.2.1)) ∨
     (hF p = [p.2.1] ∧ p.2.1.1 = p.1.1.1 + (p.1.2.2 - p.1.1.2) ∧ p.2.1.2 = p.1.1.2 + (p.1.1.1 - p.1.2.1) ∧ p.2.2.1 = p.1.2.1 + (p.1.2.2 - p.1.1.2) ∧ p.2.2.2 = p.1.2.2 + (p.1.1.1 - p.1.2.1)) ∨
     (hF p = [cornerOf p, p.2.1] ∧ p.2.2 = p.1.2 ∧ p.2.1.1 = p.1.2.1 + (p.1.2.2 - p.1.1.2) ∧ p.2.1.2 = p.1.2.2 + (p.1.1.1 - p.1.2.1) ∧ cornerOf p = (p.1.1.1 + (p.1.2.2 - p.1.1.2), p.1.1.2 + (p.1.1.1 - p.1.2.1)) ∧ ld (cornerOf p) = true)) := by
  obtain ⟨m1, m2⟩ := cyc_mem hp
  have s1 := o.sh _ m1
  have s2 := o.sh _ m2
  have e := o.nx p hp
  obtain ⟨ht, c⟩ := nxSh_cases s1
  rw [← e] at ht c
  have hb := mem_sides.mp s1.b
  refine ⟨s1, s2, ?_⟩
  rcases c with c | c | c
  · refine .inl ⟨?_, c⟩
    unfold hF; rw [if_neg]
    intro z
    have z1 := congrArg Prod.fst z
    have z2 := congrArg Prod.snd z
    omega
  · refine .inr (.inl ⟨?_, c⟩)
    unfold hF; rw [if_neg]
    intro z
    have z1 := congrArg Prod.fst z
    have z2 := congrArg Prod.snd z
    omega
  · have ec : cornerOf p = (p.1.1.1 + (p.1.2.2 - p.1.1.2), p.1.1.2 + (p.1.1.1 - p.1.2.1)) := by
      unfold cornerOf
      have z1 := congrArg Prod.fst c.1
      have z2 := congrArg Prod.snd c.1
      apply Prod.ext
      · dsimp only; omega
      · dsimp only; omega
    refine .inr (.inr ⟨?_, c.1, c.2.1, c.2.2.1, ec, by rw [ec]; exact c.2.2.2⟩)
    unfold hF; rw [if_pos c.1]
/-- a step of shores: no square is between -/
theorem Orb.quad {x : Sq} (h1 : ∀ s ∈ O, s.1 ≠ x) (h2 : ∀ s ∈ O, s.2 ≠ x) {p : Shore × Shore} (hp : p ∈ cyc O) (h3 : cornerOf p ≠ x ∨ ld x = false ∨ ¬ Rch (stp ld) s0.1 x) : xor (rightB x (p.1.2, p.2.2)) (par (rightB x) (pairsFrom p.1.1 (hF p))) = xor (rightB x p.1) (rightB x p.2) := by
  obtain ⟨s1, s2, c⟩ := o.cases3 hp
  have ne : ∀ {q : Sq}, q ≠ x → ¬ (q.1 = x.1 ∧ q.2 = x.2) := fun h e => h (Prod.ext e.1 e.2)
  have n1 := ne (h1 _ (cyc_mem hp).1)
  have n2 := ne (h2 _ (cyc_mem hp).1)
  have n3 := ne (h1 _ (cyc_mem hp).2)
  have n4 := ne (h2 _ (cyc_mem hp).2)
  have b1 := mem_sides.mp s1.b
  have r1 := o.con _ (cyc_mem hp).1
  clear ne h1 h2 s2
  obtain ⟨⟨⟨a1, a2⟩, w1, w2⟩, ⟨c1, c2⟩, d1, d2⟩ := p
  obtain ⟨x1, x2⟩ := x
  dsimp only at *
  rcases c with ⟨h, c⟩ | ⟨h, c⟩ | ⟨h, c⟩
  · rw [h]
    injection c.1 with e1 e2
    obtain ⟨_, e3, e4⟩ := c
    show xor _ (xor (rightB (x1, x2) ((a1, a2), (c1, c2))) false) = _
    rw [rb_same (p := (a1, a2)) (q := (c1, c2)) (by dsimp only; omega)]
    rcases b1 with b1 | b1 | b1 | b1 <;>
      (first | rw [rb_same (p := (w1, w2)) (q := (d1, d2)) (by dsimp only; omega)] | rw [rb_dn (p := (w1, w2)) (q := (d1, d2)) (by dsimp only; omega)] | rw [rb_up (p := (w1, w2)) (q := (d1, d2)) (by dsimp only; omega)]) <;>
      (first | rw [rb_same (p := (a1, a2)) (q := (w1, w2)) (by dsimp only; omega)] | rw [rb_dn (p := (a1, a2)) (q := (w1, w2)) (by dsimp only; omega)] | rw [rb_up (p := (a1, a2)) (q := (w1, w2)) (by dsimp only; omega)]) <;>
      (first | rw [rb_same (p := (c1, c2)) (q := (d1, d2)) (by dsimp only; omega)] | rw [rb_dn (p := (c1, c2)) (q := (d1, d2)) (by dsimp only; omega)] | rw [rb_up (p := (c1, c2)) (q := (d1, d2)) (by dsimp only; omega)]) <;>
      (rw [Bool.eq_iff_iff]; simp only [xor_iff', decide_eq_true_eq, Bool.false_eq_true, and_false, false_and, not_false_eq_true, and_true, or_false, false_or, not_true_eq_false, true_and]; try (constructor <;> intro _ <;> first | contradiction | omega))
  · rw [h]
    show xor _ (xor (rightB (x1, x2) ((a1, a2), (c1, c2))) false) = _
    rcases b1 with b1 | b1 | b1 | b1 <;>
      (first | rw [rb_same (p := (w1, w2)) (q := (d1, d2)) (by dsimp only; omega)] | rw [rb_dn (p := (w1, w2)) (q := (d1, d2)) (by dsimp only; omega)] | rw [rb_up (p := (w1, w2)) (q := (d1, d2)) (by dsimp only; omega)]) <;>
      (first | rw [rb_same (p := (a1, a2)) (q := (c1, c2)) (by dsimp only; omega)] | rw [rb_dn (p := (a1, a2)) (q := (c1, c2)) (by dsimp only; omega)] | rw [rb_up (p := (a1, a2)) (q := (c1, c2)) (by dsimp only; omega)]) <;>
      (first | rw [rb_same (p := (a1, a2)) (q := (w1, w2)) (by dsimp only; omega)] | rw [rb_dn (p := (a1, a2)) (q := (w1, w2)) (by dsimp only; omega)] | rw [rb_up (p := (a1, a2)) (q := (w1, w2)) (by dsimp only; omega)]) <;>
      (first | rw [rb_same (p := (c1, c2)) (q := (d1, d2)) (by dsimp only; omega)] | rw [rb_dn (p := (c1, c2)) (q := (d1, d2)) (by dsimp only; omega)] | rw [rb_up (p := (c1, c2)) (q := (d1, d2)) (by dsimp only; omega)]) <;>
      (rw [Bool.eq_iff_iff]; simp only [xor_iff', decide_eq_true_eq, Bool.false_eq_true, and_false, false_and, not_false_eq_true, and_true, or_false, false_or, not_true_eq_false, true_and]; try (constructor <;> intro _ <;> first | contradiction | omega))
  · obtain ⟨e0, e1, e2, e3, e4⟩ := c
    injection e0 with f1 f2
    have rc : Rch (stp ld) s0.1 (cornerOf (((a1, a2), (w1, w2)), ((c1, c2), (d1, d2)))) := .step r1 (List.mem_filter.mpr ⟨by rw [e3]; exact mem_sides.mpr (by clear n1 n2 n3 n4; dsimp only; omega), e4⟩)
    have nx : cornerOf (((a1, a2), (w1, w2)), ((c1, c2), (d1, d2))) ≠ (x1, x2) := by
      rcases h3 with h3 | h3 | h3
      · exact h3
      · intro e; rw [e, h3] at e4; cases e4
      · intro e; rw [e] at rc; exact h3 rc
    rw [e3] at nx
    rw [h, e3]
    have n5 : ¬ (a1 + (w2 - a2) = x1 ∧ a2 + (a1 - w1) = x2) := fun e => nx (by rw [e.1, e.2])
    clear nx rc h3 h e3 e4 hp s1 r1
    revert n5
    generalize hk1 : a1 + (w2 - a2) = k1
    generalize hk2 : a2 + (a1 - w1) = k2
    intro n5
    show xor _ (xor (rightB (x1, x2) ((a1, a2), (k1, k2))) (xor (rightB (x1, x2) ((k1, k2), (c1, c2))) false)) = _
    rw [rb_same (p := (w1, w2)) (q := (d1, d2)) f1.symm]
    rcases b1 with b1 | b1 | b1 | b1 <;>
      (first | rw [rb_same (p := (a1, a2)) (q := (k1, k2)) (by dsimp only; omega)] | rw [rb_dn (p := (a1, a2)) (q := (k1, k2)) (by dsimp only; omega)] | rw [rb_up (p := (a1, a2)) (q := (k1, k2)) (by dsimp only; omega)]) <;>
      (first | rw [rb_same (p := (k1, k2)) (q := (c1, c2)) (by dsimp only; omega)] | rw [rb_dn (p := (k1, k2)) (q := (c1, c2)) (by dsimp only; omega)] | rw [rb_up (p := (k1, k2)) (q := (c1, c2)) (by dsimp only; omega)]) <;>
      (first | rw [rb_same (p := (a1, a2)) (q := (w1, w2)) (by dsimp only; omega)] | rw [rb_dn (p := (a1, a2)) (q := (w1, w2)) (by dsimp only; omega)] | rw [rb_up (p := (a1, a2)) (q := (w1, w2)) (by dsimp only; omega)]) <;>
      (first | rw [rb_same (p := (c1, c2)) (q := (d1, d2)) (by dsimp only; omega)] | rw [rb_dn (p := (c1, c2)) (q := (d1, d2)) (by dsimp only; omega)] | rw [rb_up (p := (c1, c2)) (q := (d1, d2)) (by dsimp only; omega)]) <;>
      (rw [Bool.eq_iff_iff]; simp only [xor_iff', decide_eq_true_eq, Bool.false_eq_true, and_false, false_and, not_false_eq_true, and_true, or_false, false_or, not_true_eq_false, true_and]; try (constructor <;> intro _ <;> first | contradiction | omega))
/-- the ring of water and the ring of land run side by side -/
theorem Orb.same {x : Sq} (h1 : ∀ s ∈ O, s.1 ≠ x) (h2 : ∀ s ∈ O, s.2 ≠ x) (h3 : ld x = false ∨ ¬ Rch (stp ld) s0.1 x) : insB (ringOf O) x = insB (ringH O) x := by
  have e1 : insB (ringOf O) x = par (fun p : Shore × Shore => rightB x (p.1.2, p.2.2)) (cyc O) := by
    unfold insB
    rw [o.cyc_ring, par_filter _ _ _ fun p _ hp => ?_, par_map]
    rw [Bool.not_eq_false', decide_eq_true_eq] at hp
    rw [← Bool.not_eq_true, rightB_iff, hp]
    omega
  have e2 : insB (ringH O) x = par (fun p : Shore × Shore => par (rightB x) (pairsFrom p.1.1 (hF p))) (cyc O) := by
    unfold insB ringH
    rw [dedC_cyc, par_filter _ _ _ fun p _ hp => ?_, sqs_cyc, par_flat]
    rw [Bool.not_eq_false', decide_eq_true_eq] at hp
    rw [← Bool.not_eq_true, rightB_iff, hp]
    omega
  have e3 := par_xor (fun p : Shore × Shore => rightB x (p.1.2, p.2.2)) (fun p : Shore × Shore => par (rightB x) (pairsFrom p.1.1 (hF p))) (cyc O)
  rw [par_congr fun p hp => o.quad h1 h2 hp (.inr h3), par_cyc (fun s : Shore => rightB x s), ← e1, ← e2] at e3
  revert e3
  cases insB (ringOf O) x <;> cases insB (ringH O) x <;> decide
end
end Y

/-! lands and waters of a chart, told once -/
namespace Y
open PySem PySem.Spec PyProof.Rows L2
end Y

/-! one square more: papers of ways and rings before and behind it -/
namespace Y
open PySem PySem.Spec PyProof.Rows L2
/-! ways, judged -/
/-! a square more -/
structure AddL (ch new : List Str) (s : Sq) : Prop where
  ld : ∀ p, isLd new p = (isLd ch p || decide (p = s))
  no : isLd ch s = false
  nr : ∀ p, isNr new p = isNr ch p
  sq : ∀ p, isSq new p = isSq ch p
  sin : isSq ch s = true
section
variable {ch new : List Str} {s : Sq} (A : AddL ch new s)
include A
theorem AddL.all_ld (w : List Sq) : w.all (isLd ch) = (w.all (isLd new) && decide (s ∉ w)) := by
  rw [Bool.eq_iff_iff, Bool.and_eq_true, List.all_eq_true, List.all_eq_true, decide_eq_true_eq]
  constructor
  · intro h
    refine ⟨fun q hq => by rw [A.ld, h q hq]; rfl, fun hs => ?_⟩
    have := h s hs
    rw [A.no] at this; cases this
  · rintro ⟨h, hs⟩ q hq
    have := h q hq
    rw [A.ld] at this
    have hne : q ≠ s := fun e => hs (e ▸ hq)
    rwa [decide_eq_false hne, Bool.or_false] at this
theorem AddL.all_wt (w : List Sq) : w.all (isWt new) = (w.all (isWt ch) && decide (s ∉ w)) := by
  rw [Bool.eq_iff_iff, Bool.and_eq_true, List.all_eq_true, List.all_eq_true, decide_eq_true_eq]
  constructor
  · intro h
    refine ⟨fun q hq => ?_, fun hs => ?_⟩
    · have := isWt_iff.mp (h q hq)
      rw [A.nr, A.ld, Bool.or_eq_false_iff] at this
      exact isWt_iff.mpr ⟨this.1, this.2.1⟩
    · have := (isWt_iff.mp (h s hs)).2
      rw [A.ld, decide_eq_true rfl, Bool.or_true] at this; cases this
  · rintro ⟨h, hs⟩ q hq
    have := isWt_iff.mp (h q hq)
    have hne : q ≠ s := fun e => hs (e ▸ hq)
    exact isWt_iff.mpr ⟨by rw [A.nr]; exact this.1, by rw [A.ld, this.2, decide_eq_false hne]; rfl⟩
theorem AddL.mg (q : Sq) : isMg new q = isMg ch q := by unfold isMg; rw [A.nr, A.sq]
theorem AddL.part (a b : Sq) (R : List Sq) : partB new a b R = (partB ch a b R && decide (s ∉ R)) := by
  unfold partB; rw [A.all_wt R]
  generalize ringB R = x; generalize R.all (isWt ch) = y; generalize (!decide (insB R a = insB R b)) = z; generalize decide (s ∉ R) = u
  cases x <;> cases y <;> cases z <;> cases u <;> rfl
theorem AddL.hold (a : Sq) (R : List Sq) : holdB ch a R = (holdB new a R && decide (s ∉ R)) := by
  unfold holdB; rw [A.all_ld R]
  generalize (ringB R && (cyc R).all fun p => decide (p.2 ∈ sides p.1)) = x; generalize R.all (isLd new) = y; generalize insB R a = z; generalize decide (s ∉ R) = u
  cases x <;> cases y <;> cases z <;> cases u <;> rfl
theorem AddL.mono {a b : Sq} (h : Rch (ldBeside ch) a b) : Rch (ldBeside new) a b := by
  induction h with
  | refl => exact .refl
  | step _ h2 ih =>
    obtain ⟨m1, m2⟩ := mem_ldB.mp h2
    exact .step ih (mem_ldB.mpr ⟨m1, by rw [A.ld, m2]; rfl⟩)
/-- beside the square and joined with a -/
def Touch (ch : List Str) (s a : Sq) : Prop := ∃ t ∈ sides s, isLd ch t = true ∧ Rch (ldBeside ch) a t
theorem AddL.split {a y : Sq} (ha : isLd ch a = true) (h : Rch (ldBeside new) a y) : Rch (ldBeside ch) a y ∨ Touch ch s a := by
  induction h with
  | refl => exact .inl .refl
  | @step p q _ h2 ih =>
    rcases ih with ih | ih
    · obtain ⟨m1, m2⟩ := mem_ldB.mp h2
      rw [A.ld, Bool.or_eq_true, decide_eq_true_eq] at m2
      rcases m2 with m2 | m2
      · exact .inl (.step ih (mem_ldB.mpr ⟨m1, m2⟩))
      · subst m2
        have hp : isLd ch p = true := (rch_land ih).elim (fun e => e ▸ ha) id
        refine .inr ⟨p, ?_, hp, ih⟩
        have := mem_sides.mp m1
        exact mem_sides.mpr (by omega)
    · exact .inr ih
theorem AddL.to {a : Sq} (h : Touch ch s a) : Rch (ldBeside new) a s := by
  obtain ⟨t, h1, h2, h3⟩ := h
  refine .step (A.mono h3) (mem_ldB.mpr ⟨?_, by rw [A.ld, decide_eq_true rfl, Bool.or_true]⟩)
  have := mem_sides.mp h1
  exact mem_sides.mpr (by omega)
end
end Y

set_option maxHeartbeats 1000000
/-! what the late laws share: floods, rings -/
namespace Y
open PySem PySem.Spec L2
def law_atLM (a_chart : (List Str)) (a_r : Int) (a_c : Int) : WP Bool := (WP.and (WP.chain (fun i j => decide (i ≤ j)) (fun i j => decide (i < j)) (WP.pure (0 : Int)) (WP.pure a_r) (WP.len (WP.pure a_chart))) (WP.and (WP.chain (fun i j => decide (i ≤ j)) (fun i j => decide (i < j)) (WP.pure (0 : Int)) (WP.pure a_c) (WP.lenS (WP.ix (WP.pure a_chart) (WP.pure (0 : Int))))) (WP.eq (WP.ixS (WP.ix (WP.pure a_chart) (WP.pure a_r)) (WP.pure a_c)) (WP.pure (Str.ofString "x"))))).bind fun r1 => (WP.pure r1)
def law_sidesLM (a_square : Sq) : WP (List Sq) := (WP.pure a_square).bind fun a1_r_c => (WP.row (WP.consE (WP.pair (WP.sub (WP.pure a1_r_c.1) (WP.pure (1 : Int))) (WP.pure a1_r_c.2)) (WP.consE (WP.pair (WP.pure a1_r_c.1) (WP.sub (WP.pure a1_r_c.2) (WP.pure (1 : Int)))) (WP.consE (WP.pair (WP.pure a1_r_c.1) (WP.add (WP.pure a1_r_c.2) (WP.pure (1 : Int)))) (WP.consE (WP.pair (WP.add (WP.pure a1_r_c.1) (WP.pure (1 : Int))) (WP.pure a1_r_c.2)) (WP.pure ([] : List Sq))))))).bind fun r2 => (WP.pure r2)
def law_aroundLM (a_square : Sq) : WP (List Sq) := (WP.pure a_square).bind fun a1_r_c => (WP.row (WP.pure ([] : List Sq))).bind fun a2_found => (WP.row (WP.consE (WP.neg (WP.pure (1 : Int))) (WP.consE (WP.pure (0 : Int)) (WP.consE (WP.pure (1 : Int)) (WP.pure ([] : List Int)))))).bind fun xs3 => WP.after (WP.loop (γ := (List Sq)) (fun c3 (y3 : (List Sq)) => (WP.row (WP.consE (WP.neg (WP.pure (1 : Int))) (WP.consE (WP.pure (0 : Int)) (WP.consE (WP.pure (1 : Int)) (WP.pure ([] : List Int)))))).bind fun xs4 => WP.after (WP.loop (γ := (List Sq)) (fun c4 (y4 : (List Sq)) => ((WP.or (WP.ne (WP.pure c3) (WP.pure (0 : Int))) (WP.ne (WP.pure c4) (WP.pure (0 : Int)))).bind fun b => WP.cond b (((WP.pair (WP.add (WP.pure a1_r_c.1) (WP.pure c3)) (WP.add (WP.pure a1_r_c.2) (WP.pure c4))).bind fun a => WP.req (y4.length < 100000) (y4 ++ [a])).bind fun a6_found => (WP.pure a6_found)) ((WP.pure y4))).bind fun (y5 : (List Sq)) => (WP.pure (.nx y5))) xs4 y3) (fun (z4 : (List Sq)) => (WP.pure (.nx z4))) (fun r => (WP.pure (.rt r)))) xs3 a2_found) (fun (z3 : (List Sq)) => (WP.pure z3)) (fun r => (WP.pure r))
def law_spreadLM (a_squares : (List Sq)) (a_start : Sq) (a_wide : Bool) : WP (List Sq) := (WP.pure ([] : (List (Sq × Bool)))).bind fun a1_known => WP.after (WP.loop (γ := (List Sq)) (fun c2 (y2 : (List (Sq × Bool))) => (WP.b2 (WP.pure false) (WP.pure c2) fun b q => WP.req (y2.length < 100000) (putQ y2 q b)).bind fun a3_known => (WP.pure (.nx a3_known))) a_squares a1_known) (fun (z2 : (List (Sq × Bool))) => (WP.row (WP.consE (WP.pure a_start) (WP.pure ([] : List Sq)))).bind fun a4_met => (WP.b2 (WP.pure true) (WP.pure a_start) fun b q => WP.req (z2.length < 100000) (putQ z2 q b)).bind fun a5_known => (WP.range1 (WP.pure (3000 : Int))).bind fun xs6 => WP.after (WP.loop (γ := (List Sq)) (fun c6 (y6 : (List (Sq × Bool)) × (List Sq)) => ((WP.lt (WP.pure c6) (WP.len (WP.pure y6.2))).bind fun b => WP.cond b (((WP.ite (WP.pure a_wide) (WP.b1 (WP.ix (WP.pure y6.2) (WP.pure c6)) law_aroundLM) (WP.b1 (WP.ix (WP.pure y6.2) (WP.pure c6)) law_sidesLM)).bind fun xs => WP.pure (⟨xs⟩ : (Ls Sq))).bind fun a8_near => ((WP.pure a8_near).bind fun x => WP.pure x.l).bind fun xs9 => WP.after (WP.loop (γ := (List Sq)) (fun c9 (y9 : (List (Sq × Bool)) × (List Sq)) => ((WP.and (WP.din (WP.pure c9) (WP.pure y9.1)) (WP.not (WP.dget (WP.pure y9.1) (WP.pure c9)))).bind fun b => WP.cond b ((WP.b2 (WP.pure true) (WP.pure c9) fun b q => WP.req (y9.1.length < 100000) (putQ y9.1 q b)).bind fun a11_known => ((WP.pure c9).bind fun a => WP.req (y9.2.length < 100000) (y9.2 ++ [a])).bind fun a12_met => (WP.pure (a11_known, a12_met))) ((WP.pure (y9.1, y9.2)))).bind fun (y10 : (List (Sq × Bool)) × (List Sq)) => (WP.pure (.nx (y10.1, y10.2)))) xs9 (y6.1, y6.2)) (fun (z9 : (List (Sq × Bool)) × (List Sq)) => (WP.pure (z9.1, z9.2))) (fun r => (WP.none (b := r)))) ((WP.pure (y6.1, y6.2)))).bind fun (y7 : (List (Sq × Bool)) × (List Sq)) => (WP.pure (.nx (y7.1, y7.2)))) xs6 (a5_known, a4_met)) (fun (z6 : (List (Sq × Bool)) × (List Sq)) => (WP.pure z6.2)) (fun r => (WP.pure r))) (fun r => (WP.pure r))
def law_wetLM (a_chart : (List Str)) : WP (List Sq) := (WP.row (WP.pure ([] : List Sq))).bind fun a1_found => (WP.range2 (WP.neg (WP.pure (1 : Int))) (WP.add (WP.len (WP.pure a_chart)) (WP.pure (1 : Int)))).bind fun xs2 => WP.after (WP.loop (γ := (List Sq)) (fun c2 (y2 : (List Sq)) => (WP.range2 (WP.neg (WP.pure (1 : Int))) (WP.add (WP.lenS (WP.ix (WP.pure a_chart) (WP.pure (0 : Int)))) (WP.pure (1 : Int)))).bind fun xs3 => WP.after (WP.loop (γ := (List Sq)) (fun c3 (y3 : (List Sq)) => ((WP.not (WP.b3 (WP.pure a_chart) (WP.pure c2) (WP.pure c3) law_atLM)).bind fun b => WP.cond b (((WP.pair (WP.pure c2) (WP.pure c3)).bind fun a => WP.req (y3.length < 100000) (y3 ++ [a])).bind fun a5_found => (WP.pure a5_found)) ((WP.pure y3))).bind fun (y4 : (List Sq)) => (WP.pure (.nx y4))) xs3 y2) (fun (z3 : (List Sq)) => (WP.pure (.nx z3))) (fun r => (WP.pure (.rt r)))) xs2 a1_found) (fun (z2 : (List Sq)) => (WP.pure z2)) (fun r => (WP.pure r))
def law_drainedLM (a_chart : (List Str)) (a_square : Sq) : WP Bool := (WP.inD (WP.pair (WP.neg (WP.pure (1 : Int))) (WP.neg (WP.pure (1 : Int)))) (WP.b3 (WP.b1 (WP.pure a_chart) law_wetLM) (WP.pure a_square) (WP.pure true) law_spreadLM)).bind fun r1 => (WP.pure r1)
def law_ring_rightLM (a_chart : (List Str)) (a_ring : (Ls Sq)) (a_water : Bool) : WP Bool := (WP.or (WP.not ((WP.pure a_ring).bind fun _ => WP.pure true)) (WP.lt (WP.len ((WP.pure a_ring).bind fun x => WP.pure x.l)) (WP.pure (4 : Int)))).bind fun b => WP.cond b ((WP.pure false).bind fun r2 => (WP.pure r2)) ((WP.range1 (WP.len ((WP.pure a_ring).bind fun x => WP.pure x.l))).bind fun xs3 => WP.after (WP.loop (γ := Bool) (fun c3 (y3 : Unit) => (WP.ix ((WP.pure a_ring).bind fun x => WP.pure x.l) (WP.pure c3)).bind fun a4_r_c => (WP.and (WP.pure a_water) (WP.or (WP.b3 (WP.pure a_chart) (WP.pure a4_r_c.1) (WP.pure a4_r_c.2) law_atLM) (WP.or (WP.not (WP.chain (fun i j => decide (i ≤ j)) (fun i j => decide (i ≤ j)) (WP.neg (WP.pure (1 : Int))) (WP.pure a4_r_c.1) (WP.len (WP.pure a_chart)))) (WP.not (WP.chain (fun i j => decide (i ≤ j)) (fun i j => decide (i ≤ j)) (WP.neg (WP.pure (1 : Int))) (WP.pure a4_r_c.2) (WP.lenS (WP.ix (WP.pure a_chart) (WP.pure (0 : Int))))))))).bind fun b => WP.cond b ((WP.pure false).bind fun r6 => (WP.pure (.rt r6))) ((WP.and (WP.not (WP.pure a_water)) (WP.or (WP.not (WP.b3 (WP.pure a_chart) (WP.pure a4_r_c.1) (WP.pure a4_r_c.2) law_atLM)) (WP.not (WP.inD (WP.ix ((WP.pure a_ring).bind fun x => WP.pure x.l) (WP.pure c3)) (WP.b1 (WP.ix ((WP.pure a_ring).bind fun x => WP.pure x.l) (WP.sub (WP.pure c3) (WP.pure (1 : Int)))) law_sidesLM))))).bind fun b => WP.cond b ((WP.pure false).bind fun r8 => (WP.pure (.rt r8))) ((WP.not (WP.inD (WP.ix ((WP.pure a_ring).bind fun x => WP.pure x.l) (WP.pure c3)) (WP.b1 (WP.ix ((WP.pure a_ring).bind fun x => WP.pure x.l) (WP.sub (WP.pure c3) (WP.pure (1 : Int)))) law_aroundLM))).bind fun b => WP.cond b ((WP.pure false).bind fun r10 => (WP.pure (.rt r10))) ((WP.pure (.nx ())))))) xs3 ()) (fun (z3 : Unit) => (WP.pure true).bind fun r11 => (WP.pure r11)) (fun r => (WP.pure r)))
def law_holdsLM (a_chart : (List Str)) (a_square : Sq) (a_ring : (Ls Sq)) : WP Bool := (WP.and (WP.b3 (WP.pure a_chart) (WP.pure a_ring) (WP.pure false) law_ring_rightLM) (WP.b2 (WP.pure a_ring) (WP.pure a_square) law_inside56M)).bind fun r1 => (WP.pure r1)

theorem lookK_put {β : Type} {kvs : List (Sq × β)} {q p : Sq} {b : β} : lookK (putQ kvs q b) p = if p = q then some b else lookK kvs p := by
  cases h : hasK kvs q with
  | true => exact lookN_put (κ := Sq) h p
  | false =>
    rw [putQ_new h]
    have hn : lookK kvs q = none := by
      unfold hasK at h
      cases e : lookK kvs q with
      | none => rfl
      | some x => rw [e] at h; cases h
    unfold lookK at hn ⊢
    rw [List.find?_append]
    by_cases e : p = q
    · subst e
      rw [if_pos rfl]
      rw [Option.map_eq_none_iff] at hn
      rw [hn]; simp
    · rw [if_neg e]
      have : ([(q, b)] : List (Sq × β)).find? (fun x => decide (x.1 = p)) = none := by simp; exact fun z => e z.symm
      rw [this]; simp
theorem putQ_same {β : Type} {kvs : List (Sq × β)} {q : Sq} {b : β} (h : hasK kvs q = true) : (putQ kvs q b).length = kvs.length := by
  rw [putQ_old h, List.length_map]
theorem putQ_len1 {β : Type} (kvs : List (Sq × β)) (q : Sq) (b : β) : (putQ kvs q b).length ≤ kvs.length + 1 := by
  unfold putQ
  split
  · rw [List.length_map]; omega
  · rw [List.length_append, List.length_singleton]; omega
def nbW (wide : Bool) (p : Sq) : List Sq := if wide then nbrs p else sides p
theorem law_aroundL_is (q : Sq) : Is (law_aroundLM q) (nbrs q) := neighbours_is q
theorem law_sidesL_is (q : Sq) : Is (law_sidesLM q) (sides q) := sides_is q
/-- what a flood knows: i squares looked at -/
structure Fl (sq : List Sq) (s : Sq) (st : Sq → List Sq) (i : Nat) (y : List (Sq × Bool) × List Sq) : Prop where
  km : ∀ q, lookK y.1 q = if q ∈ y.2 then some true else if q ∈ sq then some false else none
  kl : y.1.length ≤ sq.length + 1
  nd : y.2.Nodup
  sub : ∀ q ∈ y.2, q = s ∨ q ∈ sq
  s0 : s ∈ y.2
  rch : ∀ q ∈ y.2, Rch st s q
  cl : ∀ j p, j < i → y.2[j]? = some p → ∀ x ∈ st p, x ∈ y.2
theorem Fl.len {sq : List Sq} {s : Sq} {st : Sq → List Sq} {i : Nat} {y : List (Sq × Bool) × List Sq} (f : Fl sq s st i y) : y.2.length ≤ sq.length + 1 := by
  have := nodup_le (U := s :: sq) f.nd fun q hq => by
    rcases f.sub q hq with rfl | h
    · exact List.mem_cons_self
    · exact List.mem_cons_of_mem _ h
  rwa [List.length_cons] at this
theorem spread_gives {sq : List Sq} {s : Sq} {wide : Bool} (hl : sq.length < 2999) : Gives (law_spreadLM sq s wide) (fun met => (∀ q, q ∈ met ↔ Rch (fun p => (nbW wide p).filter fun x => decide (x = s) || decide (x ∈ sq)) s q) ∧ met.Nodup) := by
  intro n Q q
  unfold law_spreadLM
  rw [WP.run_bind, WP.run_pure]
  refine WP.after_inv (fun i m y => m = n ∧ y.length ≤ i ∧ ∀ p, lookK y p = if p ∈ sq.take i then some false else none) ⟨rfl, Nat.le_refl _, fun p => by simp [lookK]⟩ (fun i m c y hi hI => ?_) fun m y hI => ?_
  · obtain ⟨rfl, h1, h2⟩ := hI
    have hi' := (List.getElem?_eq_some_iff.mp hi).1
    rw [WP.run_bind]
    refine Is.run (a := putQ y c false) (Is.b2 Is.pure Is.pure (Is.req (by omega))) ?_
    refine ⟨rfl, by have := putQ_len1 y c false; omega, fun p => ?_⟩
    rw [lookK_put, h2 p, take_snoc hi]
    by_cases e : p = c
    · rw [if_pos e, if_pos (by rw [e]; simp)]
    · rw [if_neg e]
      by_cases e2 : p ∈ sq.take i
      · rw [if_pos e2, if_pos (List.mem_append_left _ e2)]
      · rw [if_neg e2, if_neg fun z => by
          rcases List.mem_append.mp z with z | z
          · exact e2 z
          · exact e (List.mem_singleton.mp z)]
  · obtain ⟨rfl, h1, h2⟩ := hI
    rw [List.take_length] at h2
    rw [WP.run_bind]
    refine Is.run (Is.row1 Is.pure) ?_
    rw [WP.run_bind]
    refine Is.run (a := putQ y s true) (Is.b2 Is.pure Is.pure (Is.req (by omega))) ?_
    rw [WP.run_bind]
    refine Is.run (Is.range1 Is.pure (by decide)) ?_
    refine WP.after_inv (fun i m' z => m' = m ∧ Fl sq s (fun p => (nbW wide p).filter fun x => decide (x = s) || decide (x ∈ sq)) i z) ⟨rfl, ⟨fun p => ?_, by have := putQ_len1 y s true; show (putQ y s true).length ≤ _; omega, by simp, fun p hp => .inl (List.mem_singleton.mp hp), by simp, fun p hp => by rw [List.mem_singleton.mp hp]; exact .refl, fun j p hj => by omega⟩⟩ (fun i m' t z hi hI => ?_) fun m' z hI => ?_
    · show lookK (putQ y s true) p = if p ∈ [s] then _ else _
      rw [lookK_put, h2 p]
      by_cases e : p = s
      · rw [if_pos e, if_pos (by rw [e]; simp)]
      · rw [if_neg e, if_neg (show ¬ p ∈ [s] from fun z => e (List.mem_singleton.mp z))]
    · obtain ⟨rfl, f⟩ := hI
      obtain ⟨rfl, _⟩ := rangeL0_get hi
      rw [WP.run_bind, WP.run_bind]
      refine Is.run (Is.lt Is.pure (Is.len Is.pure)) ?_
      rw [WP.run_cond]
      refine ⟨fun h => ?_, fun h => ?_⟩
      · have h : (i : Int) < (z.2.length : Int) := of_decide_eq_true h
        have hiz : i < z.2.length := by omega
        rw [WP.run_bind]
        have e1 : Is (WP.ix (WP.pure z.2) (WP.pure (i : Int))) (z.2[i]) := (Is.ix Is.pure Is.pure ⟨by omega, by omega⟩).eq (ixD_nat hiz)
        generalize hc : z.2[i] = c at e1
        have hget : z.2[i]? = some c := by rw [List.getElem?_eq_getElem hiz, hc]
        refine Is.run (a := (⟨nbW wide c⟩ : Ls Sq)) (Is.bind ((Is.ite Is.pure (fun _ => Is.b1 e1 (law_aroundL_is c)) fun _ => Is.b1 e1 (law_sidesL_is c)).eq (by unfold nbW; rfl)) Is.pure) ?_
        rw [WP.run_bind]
        refine Is.run (Is.bind Is.pure Is.pure) ?_
        have fl := f.len
        refine WP.after_inv (fun j m2 x => m2 = m' ∧ Fl sq s (fun p => (nbW wide p).filter fun x => decide (x = s) || decide (x ∈ sq)) i x ∧ x.2[i]? = some c ∧ ∀ o ∈ (nbW wide c).take j, (o = s ∨ o ∈ sq) → o ∈ x.2) ⟨rfl, f, hget, fun o ho => by simp at ho⟩ (fun j m2 o x hj hx => ?_) fun m2 x hx => ?_
        · obtain ⟨rfl, g, gc, gn⟩ := hx
          have gl := g.len
          have gk := g.kl
          have hmem : c ∈ x.2 := List.mem_of_getElem? gc
          have kmo := g.km o
          rw [WP.run_bind, WP.run_bind]
          have e2 : Is (WP.and (WP.din (WP.pure o) (WP.pure x.1)) (WP.not (WP.dget (WP.pure x.1) (WP.pure o)))) (decide (o ∉ x.2 ∧ o ∈ sq)) := by
            refine (Is.and (x := hasK x.1 o) (y := !getK x.1 o) (Is.b2 Is.pure Is.pure Is.pure) fun h => Is.not (Is.b2 Is.pure Is.pure (Is.req h))).eq ?_
            unfold hasK getK
            rw [kmo]
            by_cases a : o ∈ x.2
            · rw [if_pos a, decide_eq_false fun z => z.1 a]; rfl
            · rw [if_neg a]
              by_cases b : o ∈ sq
              · rw [if_pos b, decide_eq_true ⟨a, b⟩]; rfl
              · rw [if_neg b, decide_eq_false fun z => b z.2]; rfl
          refine Is.run e2 ?_
          rw [WP.run_cond]
          refine ⟨fun h => ?_, fun h => ?_⟩
          · obtain ⟨a, b⟩ := of_decide_eq_true h
            have hk : hasK x.1 o = true := by unfold hasK; rw [kmo, if_neg a, if_pos b]; rfl
            rw [WP.run_bind]
            refine Is.run (a := putQ x.1 o true) (Is.b2 Is.pure Is.pure (Is.req (by omega))) ?_
            rw [WP.run_bind]
            refine Is.run (a := x.2 ++ [o]) (Is.bind Is.pure (Is.req (by omega))) ?_
            refine ⟨rfl, ⟨fun p => ?_, by show (putQ x.1 o true).length ≤ _; rw [putQ_same hk]; exact gk, ?_, fun p hp => ?_, List.mem_append_left _ g.s0, fun p hp => ?_, fun k p hk2 hp y hy => ?_⟩, ?_, fun p hp hps => ?_⟩
            · show lookK (putQ x.1 o true) p = if p ∈ x.2 ++ [o] then _ else _
              rw [lookK_put, g.km p]
              by_cases e : p = o
              · rw [if_pos e, if_pos (by rw [e]; simp)]
              · rw [if_neg e]
                by_cases e2 : p ∈ x.2
                · rw [if_pos e2, if_pos (List.mem_append_left _ e2)]
                · rw [if_neg e2, if_neg (show ¬ p ∈ x.2 ++ [o] from fun z => by
                    rcases List.mem_append.mp z with z | z
                    · exact e2 z
                    · exact e (List.mem_singleton.mp z))]
            · refine List.nodup_append.mpr ⟨g.nd, by simp, fun u hu v hv e => ?_⟩
              rw [List.mem_singleton.mp hv] at e
              exact a (e ▸ hu)
            · rcases List.mem_append.mp hp with hp | hp
              · exact g.sub p hp
              · rw [List.mem_singleton.mp hp]; exact .inr b
            · rcases List.mem_append.mp hp with hp | hp
              · exact g.rch p hp
              · rw [List.mem_singleton.mp hp]
                refine .step (g.rch c hmem) (List.mem_filter.mpr ⟨List.mem_of_getElem? hj, ?_⟩)
                rw [decide_eq_true b, Bool.or_true]
            · have hkl : k < x.2.length := by
                have := (List.getElem?_eq_some_iff.mp gc).1
                omega
              rw [show (x.1, x.2).2 = x.2 from rfl] at *
              have hp : (x.2 ++ [o])[k]? = some p := hp
              rw [List.getElem?_append_left hkl] at hp
              exact List.mem_append_left _ (g.cl k p hk2 hp y hy)
            · show (x.2 ++ [o])[i]? = some c
              rw [List.getElem?_append_left (List.getElem?_eq_some_iff.mp gc).1]; exact gc
            · rw [take_snoc hj] at hp
              rcases List.mem_append.mp hp with hp | hp
              · exact List.mem_append_left _ (gn p hp hps)
              · rw [List.mem_singleton.mp hp]; exact List.mem_append_right _ (List.mem_singleton.mpr rfl)
          · refine ⟨rfl, g, gc, fun p hp hps => ?_⟩
            rw [take_snoc hj] at hp
            rcases List.mem_append.mp hp with hp | hp
            · exact gn p hp hps
            · have hpo := List.mem_singleton.mp hp
              subst hpo
              apply Classical.byContradiction
              intro hn
              rcases hps with hps | hps
              · exact hn (by rw [hps]; exact g.s0)
              · exact of_decide_eq_false h ⟨hn, hps⟩
        · obtain ⟨rfl, g, gc, gn⟩ := hx
          rw [List.take_length] at gn
          refine ⟨rfl, g.km, g.kl, g.nd, g.sub, g.s0, g.rch, fun k p hk hp y hy => ?_⟩
          by_cases e : k = i
          · subst e
            rw [gc] at hp
            cases hp
            obtain ⟨hy1, hy2⟩ := List.mem_filter.mp hy
            refine gn y hy1 ?_
            rw [Bool.or_eq_true, decide_eq_true_eq, decide_eq_true_eq] at hy2
            exact hy2
          · exact g.cl k p (by omega) hp y hy
      · have h : ¬ (i : Int) < (z.2.length : Int) := of_decide_eq_false h
        refine ⟨rfl, f.km, f.kl, f.nd, f.sub, f.s0, f.rch, fun k p hk hp => ?_⟩
        have hp' : z.2[k]? = some p := hp
        have := (List.getElem?_eq_some_iff.mp hp').1
        exact f.cl k p (by omega) hp'
    · obtain ⟨rfl, f⟩ := hI
      have fl := f.len
      rw [rangeL0_len] at f
      refine q _ ⟨fun p => ⟨f.rch p, fun h => ?_⟩, f.nd⟩
      induction h with
      | refl => exact f.s0
      | step h1 h2 ih =>
        obtain ⟨k, hk, e⟩ := List.getElem_of_mem ih
        have hk' : k < z.2.length := hk
        exact f.cl k _ (show k < 3000 by omega) (by rw [List.getElem?_eq_getElem hk, e]) _ h2
section
variable {ch : List Str} (c : Ch ch)
include c
theorem law_atL_is (r k : Int) : Is (law_atLM ch r k) (isLd ch (r, k)) := law_at7_is c r k
theorem law_wetL_gives (h40 : ch.length ≤ 40) (w40 : wid ch ≤ 40) : Gives (law_wetLM ch) (fun l => (∀ q, q ∈ l ↔ isWt ch q = true) ∧ l.length < 2999) := by
  intro n Q q
  unfold law_wetLM
  rw [WP.run_bind]
  refine Is.run (Is.row Is.pure (by decide)) ?_
  rw [WP.run_bind]
  have r1 : Is (WP.range2 (WP.neg (WP.pure (1 : Int))) (WP.add (WP.len (WP.pure ch)) (WP.pure (1 : Int)))) (rangeL (-1) (ch.length + 1)) := Is.bind (Is.neg Is.pure) (Is.bind (Is.add (Is.len Is.pure) Is.pure) (Is.req ⟨by decide, by decide, by omega, by omega⟩))
  have r2 : Is (WP.range2 (WP.neg (WP.pure (1 : Int))) (WP.add (WP.lenS (WP.ix (WP.pure ch) (WP.pure (0 : Int)))) (WP.pure (1 : Int)))) (rangeL (-1) (wid ch + 1)) := Is.bind (Is.neg Is.pure) (Is.bind (Is.add (Is.wid0 c) Is.pure) (Is.req ⟨by decide, by decide, by omega, by omega⟩))
  refine Is.run r1 ?_
  refine WP.after_inv (fun i m y => m = n ∧ y.length ≤ i * 42 ∧ ∀ q, q ∈ y ↔ isWt ch q = true ∧ q.1 < -1 + (i : Int)) ⟨rfl, Nat.le_refl _, fun q => ⟨fun h => (by cases h), fun ⟨h1, h2⟩ => by have := isNr_iff.mp (isWt_iff.mp h1).1; omega⟩⟩ (fun i m r y hi hI => ?_) fun m y hI => ?_
  · obtain ⟨rfl, hl, hm⟩ := hI
    have hi' : i < (rangeL (-1) (ch.length + 1)).length := (List.getElem?_eq_some_iff.mp hi).1
    rw [rangeL_len] at hi'
    rw [rangeL_get hi'] at hi
    have er : r = -1 + (i : Int) := (Option.some.inj hi).symm
    rw [WP.run_bind]
    refine Is.run r2 ?_
    refine WP.after_inv (fun j m' z => m' = m ∧ z.length ≤ i * 42 + j ∧ ∀ q, q ∈ z ↔ isWt ch q = true ∧ (q.1 < r ∨ (q.1 = r ∧ q.2 < -1 + (j : Int)))) ⟨rfl, hl, fun q => (hm q).trans (and_congr_right fun h => ⟨fun h => .inl (by omega), fun h => ?_⟩)⟩ (fun j m' k z hj hz => ?_) fun m' z hz => ?_
    · rcases h with h | h
      · omega
      · rename_i hw
        have := isNr_iff.mp (isWt_iff.mp hw).1; omega
    · obtain ⟨rfl, zl, zm⟩ := hz
      have hj' : j < (rangeL (-1) (wid ch + 1)).length := (List.getElem?_eq_some_iff.mp hj).1
      rw [rangeL_len] at hj'
      rw [rangeL_get hj'] at hj
      have ek : k = -1 + (j : Int) := (Option.some.inj hj).symm
      rw [WP.run_bind, WP.run_bind]
      refine Is.run (Is.not (Is.b3 Is.pure Is.pure Is.pure (law_atL_is c r k))) ?_
      rw [WP.run_cond]
      have hnr : isNr ch (r, k) = true := isNr_iff.mpr ⟨by dsimp only; omega, by dsimp only; omega, by dsimp only; omega, by dsimp only; omega⟩
      refine ⟨fun h => ?_, fun h => ?_⟩
      · rw [Bool.not_eq_true'] at h
        rw [WP.run_bind]
        refine Is.run (a := z ++ [(r, k)]) (Is.bind (Is.pair Is.pure Is.pure) (Is.req (by omega))) ?_
        refine ⟨rfl, by rw [List.length_append]; show _ + 1 ≤ _; omega, fun q => ?_⟩
        rw [List.mem_append, List.mem_singleton, zm q]
        constructor
        · rintro (⟨h1, h2⟩ | rfl)
          · exact ⟨h1, by omega⟩
          · exact ⟨isWt_iff.mpr ⟨hnr, h⟩, .inr ⟨rfl, by dsimp only; omega⟩⟩
        · rintro ⟨h1, h2⟩
          by_cases e : q = (r, k)
          · exact .inr e
          · refine .inl ⟨h1, ?_⟩
            have : ¬ (q.1 = r ∧ q.2 = k) := fun z => e (Prod.ext z.1 z.2)
            omega
      · rw [Bool.not_eq_false'] at h
        refine ⟨rfl, by omega, fun q => (zm q).trans (and_congr_right fun h1 => ⟨fun h => by omega, fun h2 => ?_⟩)⟩
        have : ¬ (q.1 = r ∧ q.2 = k) := fun z => by
          have e : q = (r, k) := Prod.ext z.1 z.2
          rw [e] at h1
          have := (isWt_iff.mp h1).2
          rw [h] at this; cases this
        omega
    · obtain ⟨rfl, zl, zm⟩ := hz
      rw [rangeL_len] at zl zm
      refine ⟨rfl, by omega, fun q => (zm q).trans (and_congr_right fun h1 => ⟨fun h => by omega, fun h => ?_⟩)⟩
      have := isNr_iff.mp (isWt_iff.mp h1).1
      omega
  · obtain ⟨rfl, hl, hm⟩ := hI
    rw [rangeL_len] at hl hm
    refine q _ ⟨fun p => (hm p).trans ⟨fun h => h.1, fun h => ⟨h, ?_⟩⟩, ?_⟩
    · have := isNr_iff.mp (isWt_iff.mp h).1
      omega
    · have : (((ch.length : Int) + 1 - -1).toNat) * 42 ≤ 42 * 42 := Nat.mul_le_mul_right _ (by omega)
      omega
theorem law_drainedL_gives (h40 : ch.length ≤ 40) (w40 : wid ch ≤ 40) {x : Sq} (hx : isWt ch x = true) : Gives (law_drainedLM ch x) (fun b => b = true ↔ Rch (wtBeside ch) x (-1, -1)) := by
  unfold law_drainedLM
  refine Gives.bind (P := fun b => b = true ↔ Rch (wtBeside ch) x (-1, -1)) ?_ fun b hb => Gives.pure hb
  refine Gives.b2L (x := ((-1, -1) : Sq)) (Is.pair (Is.neg Is.pure) (Is.neg Is.pure)) (P' := fun met => ∀ q, q ∈ met ↔ Rch (wtBeside ch) x q) ?_ fun met hm => ?_
  · refine Gives.bind (law_wetL_gives c h40 w40) fun l ⟨hl, hn⟩ => ?_
    refine (spread_gives (s := x) (wide := true) hn).imp fun met ⟨hm, _⟩ q => (hm q).trans ?_
    have : (fun p => (nbW true p).filter fun y => decide (y = x) || decide (y ∈ l)) = wtBeside ch := funext fun p => by
      show (nbrs p).filter _ = (nbrs p).filter _
      refine List.filter_congr fun y _ => ?_
      rw [Bool.eq_iff_iff, Bool.or_eq_true, decide_eq_true_eq, decide_eq_true_eq, hl y]
      exact ⟨fun h => h.elim (fun e => by rw [e]; exact hx) id, .inr⟩
    rw [this]
  · exact (Gives.of (Is.inQ (x := ((-1, -1) : Sq)) (ys := met) Is.pure Is.pure)).imp fun b hb => by rw [hb, decide_eq_true_eq]; exact hm _
def rgB (ch : List Str) (R : List Sq) (water : Bool) (k : Int) : Bool := (if water then isWt ch (ixD R k) else isLd ch (ixD R k) && decide (ixD R k ∈ sides (ixD R (k - 1)))) && decide (ixD R k ∈ nbrs (ixD R (k - 1)))
theorem law_ring_rightL_is {R : List Sq} {water : Bool} (hl : R.length ≤ 100000) : Is (law_ring_rightLM ch ⟨R⟩ water) (decide (4 ≤ R.length) && (rangeL 0 (R.length : Int)).all (rgB ch R water)) := by
  unfold law_ring_rightLM
  have e0 : Is ((WP.pure (⟨R⟩ : Ls Sq)).bind fun x => WP.pure x.l) R := Is.bind Is.pure Is.pure
  refine Is.retIf (b := decide ((R.length : Int) < 4)) ((Is.or (x := false) (Is.notF (Is.bind Is.pure Is.pure)) fun _ => Is.lt (Is.len e0) Is.pure).eq (Bool.false_or _)) (fun h => ?_) fun h => ?_
  · have h := of_decide_eq_true h
    rw [decide_eq_false (by omega)]
    exact Is.bind Is.pure Is.pure
  · have h := of_decide_eq_false h
    rw [decide_eq_true (show 4 ≤ R.length by omega), Bool.true_and]
    refine Is.bind (Is.range1 (Is.len e0) hl) ?_
    refine Is.afterAll (Is.loopAll (p := rgB ch R water) (no := false) fun k hk => ?_) (fun h => ?_) fun h => ?_
    · have hk1 := okI_pred hk
      have e1 : Is (WP.ix ((WP.pure (⟨R⟩ : Ls Sq)).bind fun x => WP.pure x.l) (WP.pure k)) (ixD R k) := Is.ix e0 Is.pure hk1.1
      have e2 : Is (WP.ix ((WP.pure (⟨R⟩ : Ls Sq)).bind fun x => WP.pure x.l) (WP.sub (WP.pure k) (WP.pure (1 : Int)))) (ixD R (k - 1)) := Is.ix e0 (Is.sub Is.pure Is.pure) hk1.2
      refine Is.bind e1 ?_
      generalize hq : ixD R k = q at e1
      generalize hp : ixD R (k - 1) = p at e2
      refine (Is.guard (b := !water || isWt ch q) ?_ fun _ => Is.guard (b := water || (isLd ch q && decide (q ∈ sides p))) ?_ fun _ => Is.guard (b := decide (q ∈ nbrs p)) (Is.not (Is.inQ e1 (Is.b1 e2 (law_aroundL_is _)))) fun _ => Is.pure).eq ?_
      · refine (Is.and Is.pure fun _ => Is.or (Is.b3 Is.pure Is.pure Is.pure (law_atL_is c _ _)) fun _ => Is.or (Is.not (Is.chain (Is.neg Is.pure) Is.pure fun _ => Is.len Is.pure)) fun _ => Is.not (Is.chain (Is.neg Is.pure) Is.pure fun _ => Is.wid0 c)).eq ?_
        unfold isWt isNr
        cases water with
        | false => rfl
        | true => simp [Bool.and_comm, Bool.or_comm]
      · refine (Is.and (Is.not Is.pure) fun _ => Is.or (Is.not (Is.b3 Is.pure Is.pure Is.pure (law_atL_is c _ _))) fun _ => Is.not (Is.inQ e1 (Is.b1 e2 (law_sidesL_is _)))).eq ?_
        show (!water && (!isLd ch q || !decide (q ∈ sides p))) = !(water || (isLd ch q && decide (q ∈ sides p)))
        cases water <;> cases isLd ch q <;> cases decide (q ∈ sides p) <;> rfl
      · unfold rgB
        rw [hq, hp]
        cases water <;> cases isWt ch q <;> cases isLd ch q <;> cases decide (q ∈ sides p) <;> cases decide (q ∈ nbrs p) <;> rfl
    · rw [h]; exact Is.bind Is.pure Is.pure
    · rw [h]; exact Is.pure
omit c in
theorem rg_land {R : List Sq} {x : Sq} : ((decide (4 ≤ R.length) && (rangeL 0 (R.length : Int)).all (rgB ch R false)) && insB R x) = holdB ch x R := by
  unfold holdB ringB
  congr 1
  rw [Bool.eq_iff_iff]
  simp only [Bool.and_eq_true, List.all_eq_true, cyc_ix, List.mem_map, forall_exists_index, and_imp, forall_apply_eq_imp_iff₂]
  unfold rgB
  simp only [Bool.and_eq_true, Bool.false_eq_true, if_false, decide_eq_true_eq]
  constructor
  · intro ⟨h1, h2⟩
    refine ⟨⟨⟨h1, fun k hk => (h2 k hk).2⟩, fun k hk => (h2 k hk).1.2⟩, fun q hq => ?_⟩
    obtain ⟨i, hi, e⟩ := List.getElem_of_mem hq
    have := (h2 (i : Int) (mem_rangeL0.mpr ⟨by omega, by omega⟩)).1.1
    rwa [ixD_nat hi, e] at this
  · intro ⟨⟨⟨h1, h2⟩, h3⟩, h4⟩
    refine ⟨h1, fun k hk => ⟨⟨h4 _ ?_, h3 k hk⟩, h2 k hk⟩⟩
    obtain ⟨k0, k1⟩ := mem_rangeL0.mp hk
    exact ixD_mem k0 k1
theorem law_holdsL_is {R : List Sq} {x : Sq} (hl : R.length ≤ 100000) : Is (law_holdsLM ch x ⟨R⟩) (holdB ch x R) := by
  unfold law_holdsLM
  exact Is.ret ((Is.and (Is.b3 Is.pure Is.pure Is.pure (law_ring_rightL_is c hl)) fun _ => Is.b2 Is.pure Is.pure (law_inside56_is hl x)).eq rg_land)
end
end Y

set_option maxHeartbeats 1000000
/-! reliefs as the late laws draw them -/
namespace Y
open PySem PySem.Spec L2
def law_reliefLM (_ : Unit) (a_most : Int) : WP (List Str) := (WP.add (WP.pure (1 : Int)) (WP.b2 (WP.pure ()) (WP.pure a_most) m_take)).bind fun a1_rows => (WP.add (WP.pure (1 : Int)) (WP.b2 (WP.pure ()) (WP.pure a_most) m_take)).bind fun a2_columns => (WP.ix (WP.row (WP.consE (WP.pure (2 : Int)) (WP.consE (WP.pure (3 : Int)) (WP.consE (WP.pure (5 : Int)) (WP.consE (WP.pure (10 : Int)) (WP.pure ([] : List Int))))))) (WP.b2 (WP.pure ()) (WP.pure (4 : Int)) m_take)).bind fun a3_range_of => (WP.b2 (WP.pure ()) (WP.sub (WP.pure (11 : Int)) (WP.pure a3_range_of)) m_take).bind fun a4_base => (WP.b2 (WP.pure ()) (WP.pure (4 : Int)) m_take).bind fun a5_style => (WP.row (WP.pure ([] : List Str))).bind fun a6_grid => (WP.range1 (WP.pure a1_rows)).bind fun xs7 => WP.after (WP.loop (γ := (List Str)) (fun c7 (y7 : (List Str)) => (WP.pure (Str.ofString "")).bind fun a8_row => (WP.range1 (WP.pure a2_columns)).bind fun xs9 => WP.after (WP.loop (γ := (List Str)) (fun c9 (y9 : Str) => (WP.add (WP.pure a4_base) (WP.b2 (WP.pure ()) (WP.pure a3_range_of) m_take)).bind fun a10_high => ((WP.eq (WP.pure a5_style) (WP.pure (1 : Int))).bind fun b => WP.cond b ((WP.add (WP.pure a4_base) (WP.min2 (WP.sub (WP.pure a3_range_of) (WP.pure (1 : Int))) (WP.add (WP.min4 (WP.pure c7) (WP.pure c9) (WP.sub (WP.sub (WP.pure a1_rows) (WP.pure (1 : Int))) (WP.pure c7)) (WP.sub (WP.sub (WP.pure a2_columns) (WP.pure (1 : Int))) (WP.pure c9))) (WP.b2 (WP.pure ()) (WP.pure (2 : Int)) m_take)))).bind fun a15_high => (WP.pure a15_high)) ((WP.pure a10_high))).bind fun (y11 : Int) => ((WP.eq (WP.pure a5_style) (WP.pure (2 : Int))).bind fun b => WP.cond b ((WP.add (WP.pure a4_base) (WP.min2 (WP.sub (WP.pure a3_range_of) (WP.pure (1 : Int))) (WP.add (WP.abs (WP.sub (WP.pure c7) (WP.pure c9))) (WP.b2 (WP.pure ()) (WP.pure (2 : Int)) m_take)))).bind fun a14_high => (WP.pure a14_high)) ((WP.pure y11))).bind fun (y12 : Int) => (WP.catS (WP.pure y9) (WP.str' (WP.pure y12))).bind fun a13_row => (WP.pure (.nx a13_row))) xs9 a8_row) (fun (z9 : Str) => ((WP.pure z9).bind fun a => WP.req (y7.length < 100000) (y7 ++ [a])).bind fun a16_grid => (WP.pure (.nx a16_grid))) (fun r => (WP.pure (.rt r)))) xs7 a6_grid) (fun (z7 : (List Str)) => ((WP.pure z7).bind fun xs => WP.pure (α := List _) xs).bind fun r17 => (WP.pure r17)) (fun r => (WP.pure r))
def law_pickLM (_ : Unit) (a_squares : (List Sq)) : WP Sq := (WP.ix (WP.pure a_squares) (WP.b2 (WP.pure ()) (WP.len (WP.pure a_squares)) m_take)).bind fun r1 => (WP.pure r1)

theorem draw_pickL {row : List Sq} (h : 0 < row.length) : Draws (law_pickLM () row) 1 (· ∈ row) := by
  intro n Q hn q
  unfold law_pickLM
  (simp only [WP.run_bind, WP.run_pure, WP.run_req, WP.run_any, WP.run_take, WP.run_cond, WP.run_range1, WP.run_range2, decide_eq_true_eq, decide_eq_false_iff_not, Bool.not_eq_true', Bool.not_eq_false'])
  exact ⟨by omega, by omega, fun x x0 x1 => ⟨⟨by omega, by omega⟩, q _ _ (by omega) (by omega) (ixD_mem x0 x1)⟩⟩
theorem str_cat {a b : Str} : a ++ b = mkS (a.cps.toList ++ b.cps.toList) := by
  have h := mkS_tl (a ++ b)
  have : (a ++ b).cps.toList = a.cps.toList ++ b.cps.toList := by
    show (a.cps ++ b.cps).toList = _
    rw [Array.toList_append]
  rw [this] at h
  exact h.symm
theorem rowT_len (r : List Int) : (rowT r).length = r.length := by
  unfold rowT
  rw [mkS_len, List.length_map]
theorem rowT_snoc {r : List Int} {d : Int} (h0 : 0 ≤ d) (h9 : d ≤ 9) : rowT r ++ (toString d : Str) = rowT (r ++ [d]) := by
  have e := dig_str h0 h9
  rw [str_cat]
  unfold rowT
  rw [tl_mkS, List.map_append]
  congr 2
  rw [show (toString d : Str) = ⟨#[48 + d.toNat]⟩ from e]; rfl
theorem str_small {d : Int} (h0 : 0 ≤ d) (h9 : d ≤ 9) : d.natAbs.log2 < 1920 := by
  by_cases z : d.natAbs = 0
  · rw [z]; decide
  · have : d.natAbs.log2 < 4 := (Nat.log2_lt z).mpr (by omega)
    omega
theorem draw_reliefL {most : Int} (h1 : 1 ≤ most) (h2 : most ≤ 20) : Draws (law_reliefLM () most) 1000 (fun rel => Rel rel ∧ rel.length ≤ 20 ∧ wid rel ≤ 20) := by
  unfold law_reliefLM
  refine Draws.go (k := 1) (P := fun x => 1 ≤ x ∧ x ≤ 20) (fun n Q hn q => ?_) fun rows ⟨r0, r1⟩ => ?_
  · (simp only [WP.run_bind, WP.run_pure, WP.run_req, WP.run_any, WP.run_take, WP.run_cond, WP.run_range1, WP.run_range2, decide_eq_true_eq, decide_eq_false_iff_not, Bool.not_eq_true', Bool.not_eq_false'])
    exact ⟨by omega, by omega, fun x x0 x1 => q _ _ (by omega) (by omega) ⟨by omega, by omega⟩⟩
  refine Draws.go (k := 1) (P := fun x => 1 ≤ x ∧ x ≤ 20) (fun n Q hn q => ?_) fun cols ⟨c0, c1⟩ => ?_
  · (simp only [WP.run_bind, WP.run_pure, WP.run_req, WP.run_any, WP.run_take, WP.run_cond, WP.run_range1, WP.run_range2, decide_eq_true_eq, decide_eq_false_iff_not, Bool.not_eq_true', Bool.not_eq_false'])
    exact ⟨by omega, by omega, fun x x0 x1 => q _ _ (by omega) (by omega) ⟨by omega, by omega⟩⟩
  refine Draws.go (k := 1) (P := fun x => 2 ≤ x ∧ x ≤ 10) (fun n Q hn q => ?_) fun span ⟨p0, p1⟩ => ?_
  · (simp only [WP.run_bind, WP.run_pure, WP.run_req, WP.run_any, WP.run_take, WP.run_cond, WP.run_range1, WP.run_range2, decide_eq_true_eq, decide_eq_false_iff_not, Bool.not_eq_true', Bool.not_eq_false'])
    refine ⟨by decide, by omega, by decide, fun x x0 x1 => ⟨⟨by simp; omega, by simp; omega⟩, q _ _ (by omega) (by omega) ?_⟩⟩
    have hx : x = 0 ∨ x = 1 ∨ x = 2 ∨ x = 3 := by omega
    rcases hx with rfl | rfl | rfl | rfl <;> decide
  refine Draws.go (k := 1) (P := fun x => 0 ≤ x ∧ x ≤ 10 - span) (fun n Q hn q => ?_) fun base ⟨b0, b1⟩ => ?_
  · (simp only [WP.run_bind, WP.run_pure, WP.run_req, WP.run_any, WP.run_take, WP.run_cond, WP.run_range1, WP.run_range2, decide_eq_true_eq, decide_eq_false_iff_not, Bool.not_eq_true', Bool.not_eq_false'])
    exact ⟨by omega, by omega, fun x x0 x1 => q _ _ (by omega) (by omega) ⟨by omega, by omega⟩⟩
  refine Draws.go (Draws.take' Is.pure (by decide)) fun style _ => ?_
  refine Draws.isB (Is.row Is.pure (by decide)) ?_
  refine Draws.isB (Is.range1' Is.pure (by omega) (by omega)) ?_
  have hrl : (rangeL 0 rows).length = rows.toNat := rangeL0_len
  have hcl : (rangeL 0 cols).length = cols.toNat := rangeL0_len
  refine Draws.imp (k := (rangeL 0 rows).length * 40 + 0) (P := fun rel => Rel rel ∧ rel.length ≤ 20 ∧ wid rel ≤ 20) ?_ (by omega) fun _ z => z
  refine Draws.loop (xs := rangeL 0 rows) (fun i y => ∃ G, y = G.map rowT ∧ NGrid G i cols.toNat) 40 (k' := 0) ⟨[], rfl, rfl, fun r h => by cases h⟩ (fun i r y hi ⟨G, hy, g⟩ => ?_) fun y ⟨G, hy, g⟩ => ?_
  · obtain ⟨_, hr⟩ := rangeL0_get hi
    have hil := (List.getElem?_eq_some_iff.mp hi).1
    refine Draws.isB Is.pure ?_
    refine Draws.isB (Is.range1' Is.pure (by omega) (by omega)) ?_
    refine Draws.imp (k := (rangeL 0 cols).length * 2 + 0) (P := fun c => ∃ z, c = Ctl.nx z ∧ ∃ G, z = G.map rowT ∧ NGrid G (i + 1) cols.toNat) ?_ (by omega) fun _ z => z
    refine Draws.loop (xs := rangeL 0 cols) (fun j z => ∃ r, z = rowT r ∧ r.length = j ∧ ∀ d ∈ r, 0 ≤ d ∧ d ≤ 9) 2 (k' := 0) ⟨[], rfl, rfl, fun d h => by cases h⟩ (fun j k z hj ⟨row, hz, hl, hd⟩ => ?_) fun z ⟨row, hz, hl, hd⟩ => ?_
    · obtain ⟨ek, hk⟩ := rangeL0_get hj
      have hjl := (List.getElem?_eq_some_iff.mp hj).1
      obtain ⟨er, hr⟩ := rangeL0_get hi
      subst hz
      intro n Q hn q
      have key : ∀ (m : Nat) (v : Int), n ≤ m → m ≤ n + 2 → 0 ≤ v → v ≤ 9 → (v.natAbs.log2 < 1920 ∧ (rowT row).length + (toString v : Str).length ≤ 100000 ∧ Q m (Ctl.nx (rowT row ++ (toString v : Str)))) := fun m v m0 m1 v0 v9 => by
        refine ⟨str_small v0 v9, ?_, q m _ m0 m1 ⟨_, rfl, row ++ [v], rowT_snoc v0 v9, by rw [List.length_append, hl]; rfl, fun d hdm => ?_⟩⟩
        · rw [rowT_len, show (toString v : Str) = ⟨#[48 + v.toNat]⟩ from dig_str v0 v9]
          show row.length + 1 ≤ _
          omega
        · rcases List.mem_append.mp hdm with h | h
          · exact hd d h
          · rw [List.mem_singleton.mp h]; exact ⟨v0, v9⟩
      (simp only [WP.run_bind, WP.run_pure, WP.run_req, WP.run_any, WP.run_take, WP.run_cond, WP.run_range1, WP.run_range2, decide_eq_true_eq, decide_eq_false_iff_not, Bool.not_eq_true', Bool.not_eq_false'])
      refine ⟨by omega, by omega, fun x x0 x1 => ⟨fun _ => ⟨by omega, by decide, fun e e0 e1 => ⟨fun _ => ⟨by omega, by decide, fun f f0 f1 => ?_⟩, fun _ => ?_⟩⟩, fun _ => ⟨fun _ => ⟨by omega, by decide, fun f f0 f1 => ?_⟩, fun _ => ?_⟩⟩⟩
      all_goals
        refine key _ _ (by omega) (by omega) ?_ ?_ <;> (repeat' split) <;> omega
    · refine Draws.isB (Is.bind Is.pure (Is.req (by rw [hy, List.length_map, g.len]; omega))) (Draws.pure ⟨_, rfl, G ++ [row], ?_, ?_, ?_⟩)
      · rw [List.map_append, hy, hz]; rfl
      · rw [List.length_append, g.len]; rfl
      · intro r' hr'
        rcases List.mem_append.mp hr' with h | h
        · exact g.row r' h
        · rw [List.mem_singleton.mp h]; exact ⟨by rw [hl, hcl], hd⟩
  · rw [hrl] at g
    obtain ⟨f1, f2, f3⟩ := rel_of g (by omega) (by omega) (by omega) (by omega)
    refine Draws.isB (Is.bind Is.pure Is.pure) (Draws.pure ?_)
    rw [hy]
    exact ⟨f1, by omega, by omega⟩
end Y

set_option maxHeartbeats 1000000
namespace W
open PySem PySem.Spec L2 Y
theorem deal_plain (ns : List Int) (hl : ns.length ≤ 63) (n : Nat) : (m__law_deal ns).run n fun _ _ => True := Y.deal_plain ns hl n
theorem same6_is {α : Type} [PyI α] [Dat α] [Cm α] [EqD α] [DecidableEq α] {x y : α} (hx : Cm.ok x) (hy : Cm.ok y) (hn : Cm.n α ≤ 5 := by decide) : Is (m__law_same 6 (Dat.dat x) (Dat.dat y)) (decide (x = y)) := Y.same_is hx hy hn
section
variable {rel : List Str} (r : Rel rel)
include r
theorem wt_lvl (L : Int) (q : Sq) : isWt (lvl rel L) q = true ↔ isNr rel q = true ∧ ¬ (isSq rel q = true ∧ L ≤ hg rel q) := by
  rw [isWt_iff, lvl_nr r, lvl_ld r.ch]
  refine and_congr_right fun _ => ?_
  rw [← Bool.not_eq_true, Bool.and_eq_true, decide_eq_true_eq]
theorem wt_mono {L L' : Int} (h : L ≤ L') {q : Sq} (hq : isWt (lvl rel L) q = true) : isWt (lvl rel L') q = true := by
  rw [wt_lvl r] at hq ⊢
  exact ⟨hq.1, fun z => hq.2 ⟨z.1, by omega⟩⟩
theorem rch_wt_mono {L L' : Int} (h : L ≤ L') {p q : Sq} (hr : Rch (wtBeside (lvl rel L)) p q) : Rch (wtBeside (lvl rel L')) p q := hr.mono fun a b hb => by
  obtain ⟨h1, h2⟩ := List.mem_filter.mp hb
  exact List.mem_filter.mpr ⟨h1, wt_mono r h h2⟩
omit r in
theorem nb_up (q : Sq) : (q.1 - 1, q.2) ∈ nbrs q ∧ (q.1, q.2 - 1) ∈ nbrs q := by
  rw [mem_nbrs, mem_nbrs]
  refine ⟨⟨by dsimp only; omega, fun e => ?_⟩, ⟨by dsimp only; omega, fun e => ?_⟩⟩
  · have := congrArg Prod.fst e; simp at this; omega
  · have := congrArg Prod.snd e; simp at this; omega
/-- above all heights there is only water -/
theorem all_out {L : Int} (hL : 9 < L) : ∀ (n : Nat) (q : Sq), isNr rel q = true → (q.1 + 1 + (q.2 + 1)).toNat = n → Rch (wtBeside (lvl rel L)) q (-1, -1) := by
  have wt : ∀ q, isNr rel q = true → isWt (lvl rel L) q = true := fun q hq => (wt_lvl r L q).mpr ⟨hq, fun z => by have := (r.hg z.1).2; omega⟩
  intro n
  induction n with
  | zero =>
    intro q hq e
    have hn := isNr_iff.mp hq
    have : q = (-1, -1) := Prod.ext (by dsimp only; omega) (by dsimp only; omega)
    rw [this]; exact .refl
  | succ n ih =>
    intro q hq e
    have hn := isNr_iff.mp hq
    by_cases h0 : q.1 = -1
    · have h2 : isNr rel (q.1, q.2 - 1) = true := isNr_iff.mpr ⟨by dsimp only; omega, by dsimp only; omega, by dsimp only; omega, by dsimp only; omega⟩
      exact (Rch.one (List.mem_filter.mpr ⟨(nb_up q).2, wt _ h2⟩)).trans (ih _ h2 (by dsimp only; omega))
    · have h2 : isNr rel (q.1 - 1, q.2) = true := isNr_iff.mpr ⟨by dsimp only; omega, by dsimp only; omega, by dsimp only; omega, by dsimp only; omega⟩
      exact (Rch.one (List.mem_filter.mpr ⟨(nb_up q).1, wt _ h2⟩)).trans (ih _ h2 (by dsimp only; omega))
/-- what spill tells -/
structure Spl (rel : List Str) (q : Sq) (L : Int) : Prop where
  lo : hg rel q ≤ L
  hi : L ≤ 9
  dr : ∀ l, hg rel q < l → (Rch (wtBeside (lvl rel l)) q (-1, -1) ↔ L < l)
omit r in
theorem Spl.uniq {q : Sq} {L L' : Int} (h : Spl rel q L) (h' : Spl rel q L') : L = L' := by
  have a := h.lo; have a' := h'.lo
  rcases Int.lt_trichotomy L L' with g | g | g
  · have := (h'.dr (L + 1) (by omega)).mp ((h.dr (L + 1) (by omega)).mpr (by omega)); omega
  · exact g
  · have := (h.dr (L' + 1) (by omega)).mp ((h'.dr (L' + 1) (by omega)).mpr (by omega)); omega
theorem spill_gives {q : Sq} (hq : isSq rel q = true) : Gives (m_spill rel q) (Spl rel q) := by
  intro n Q k
  unfold m_spill
  rw [WP.run_bind]
  refine Is.run (Is.b2 Is.pure Is.pure (height_is r hq)) ?_
  have h9 := (r.hg hq).2
  refine WP.after_whilst (fun m n' L => n' = n ∧ hg rel q ≤ L ∧ L ≤ 9 ∧ m = (9 - L).toNat ∧ ∀ l, hg rel q ≤ l → l < L → ¬ Rch (wtBeside (lvl rel (l + 1))) q (-1, -1)) ⟨_, rfl, Int.le_refl _, h9, rfl, fun l h1 h2 => by omega⟩ (fun m n' L hI => ?_)
  obtain ⟨rfl, h1, h2, rfl, h3⟩ := hI
  have hd : Gives (WP.not (WP.b2 (WP.b2 (WP.pure rel) (WP.add (WP.pure L) (WP.pure (1 : Int))) m_chart_at) (WP.pure q) m_drains)) (fun b => b = false ↔ Rch (wtBeside (lvl rel (L + 1))) q (-1, -1)) :=
    Gives.bind (Gives.c2 (Is.b2 Is.pure (Is.add Is.pure Is.pure) (chart_at_is r (L + 1))) Is.pure (drains_gives (lvl_ch r.ch (L + 1)) (by rw [lvl_nr r]; exact isSq_nr hq))) fun b hb => Gives.pure (by cases b <;> simpa using hb)
  refine hd n' _ fun b hb => ⟨fun e => ?_, fun e => ?_⟩
  · have hn : ¬ Rch (wtBeside (lvl rel (L + 1))) q (-1, -1) := fun z => by have := hb.mpr z; rw [e] at this; cases this
    have hL : L < 9 := by
      apply Classical.byContradiction
      intro hge
      exact hn (all_out r (by omega) _ q (isSq_nr hq) rfl)
    refine Is.run (a := Ctl.nx (L + 1)) (Is.bind (Is.add Is.pure Is.pure) Is.pure) ?_
    refine ⟨(9 - (L + 1)).toNat, by omega, rfl, by omega, by omega, rfl, fun l l1 l2 => ?_⟩
    by_cases el : l = L
    · rw [el]; exact hn
    · exact h3 l l1 (by omega)
  · refine k L ⟨h1, h2, fun l hl => ⟨fun hr => ?_, fun hl2 => rch_wt_mono r (by omega) (hb.mp e)⟩⟩
    apply Classical.byContradiction
    intro hge
    exact h3 (l - 1) (by omega) (by omega) (by rw [show l - 1 + 1 = l by omega]; exact hr)
theorem spl_ex {q : Sq} (hq : isSq rel q = true) : ∀ (n : Nat) (L : Int), n = (9 - L).toNat → hg rel q ≤ L → L ≤ 9 → (∀ l, hg rel q ≤ l → l < L → ¬ Rch (wtBeside (lvl rel (l + 1))) q (-1, -1)) → ∃ L', Spl rel q L' := by
  have fin : ∀ L, hg rel q ≤ L → L ≤ 9 → (∀ l, hg rel q ≤ l → l < L → ¬ Rch (wtBeside (lvl rel (l + 1))) q (-1, -1)) → Rch (wtBeside (lvl rel (L + 1))) q (-1, -1) → ∃ L', Spl rel q L' := fun L h1 h2 h3 h4 => ⟨L, h1, h2, fun l hl => ⟨fun hr => by
    apply Classical.byContradiction
    intro hge
    exact h3 (l - 1) (by omega) (by omega) (by rw [show l - 1 + 1 = l by omega]; exact hr), fun hl2 => rch_wt_mono r (by omega) h4⟩⟩
  intro n
  induction n with
  | zero =>
    intro L hn h1 h2 h3
    exact fin L h1 h2 h3 (all_out r (by omega) _ q (isSq_nr hq) rfl)
  | succ n ih =>
    intro L hn h1 h2 h3
    by_cases h4 : Rch (wtBeside (lvl rel (L + 1))) q (-1, -1)
    · exact fin L h1 h2 h3 h4
    · refine ih (L + 1) (by omega) (by omega) (by omega) fun l l1 l2 => ?_
      by_cases e : l = L
      · rw [e]; exact h4
      · exact h3 l l1 (by omega)
omit r in
noncomputable def spl (rel : List Str) (q : Sq) : Int := @Classical.epsilon Int ⟨0⟩ (Spl rel q)
theorem spl_ok {q : Sq} (hq : isSq rel q = true) : Spl rel q (spl rel q) := by
  have := spl_ex r hq _ (hg rel q) rfl (Int.le_refl _) (r.hg hq).2 fun l h1 h2 => by omega
  exact @Classical.epsilon_spec_aux Int ⟨0⟩ (Spl rel q) this
theorem spill_is {q : Sq} (hq : isSq rel q = true) : Is (m_spill rel q) (spl rel q) := fun n Q k => spill_gives r hq n Q fun L hL => by rw [hL.uniq (spl_ok r hq)]; exact k
theorem own_is {q : Sq} (hq : isSq rel q = true) : Is (WP.int' (WP.ixS (WP.ix (WP.pure rel) (WP.fst (WP.pure q))) (WP.snd (WP.pure q)))) (hg rel q) := law_high_is r hq
theorem square_is (h40 : rel.length ≤ 20) (w40 : wid rel ≤ 20) {q : Sq} (hq : isSq rel q = true) : Gives (m__law_square rel q) (· = true) := by
  have S := spl_ok r hq
  have lo := S.lo
  have hi := S.hi
  refine Gives.isB (own_is r hq) (Gives.isB (Is.b2 Is.pure Is.pure (spill_is r hq)) ?_)
  generalize hL : spl rel q = L at S lo hi
  generalize hg' : hg rel q = own at lo
  have hp : Is (WP.b2 (WP.pure rel) (WP.pure q) m_pool) (L - own) := Is.b2 Is.pure Is.pure (Is.ret ((Is.sub (Is.b2 Is.pure Is.pure (spill_is r hq)) (Is.b2 Is.pure Is.pure (height_is r hq))).eq (by rw [hL, hg'])))
  refine Gives.passB ?_ ?_
  · refine (Is.or (x := false) (y := false) (Is.notF (Is.bind Is.pure Is.pure)) fun _ => (Is.or (x := false) (y := false) (Is.notF ((Is.chain Is.pure Is.pure fun _ => Is.pure).eq ?_)) fun _ => Is.notF ((Is.b2 (Is.bind hp Is.pure) (Is.bind (Is.sub Is.pure Is.pure) Is.pure) (same6_is trivial trivial)).eq (decide_eq_true rfl))).eq rfl).eq rfl
    rw [show decide (own ≤ L) = true from decide_eq_true lo, show decide (L ≤ (9 : Int)) = true from decide_eq_true hi]; rfl
  have hrng : Is (WP.range2 (WP.add (WP.pure own) (WP.pure (1 : Int))) (WP.pure (11 : Int))) (rangeL (own + 1) 11) := Is.bind (Is.add Is.pure Is.pure) (Is.bind Is.pure (Is.req ⟨by have := (r.hg hq).1; omega, by omega, by decide, by decide⟩))
  refine Gives.isB hrng (Gives.loopT (fun l hl => ?_) (Gives.retT rfl))
  obtain ⟨l0, l1⟩ := mem_rangeLI.mp hl
  have c := lvl_ch r.ch l
  have hlen : (lvl rel l).length = rel.length := by unfold lvl; rw [List.length_map]
  have hw : isWt (lvl rel l) q = true := (wt_lvl r l q).mpr ⟨isSq_nr hq, fun z => by omega⟩
  have hdr := S.dr l (by omega)
  have hz : (allSq (lvl rel l)).length ≤ 12000 := by
    rw [allSq_len, lvl_wid r.ch, hlen]
    exact Nat.le_trans (Nat.mul_le_mul h40 w40) (by decide)
  refine Gives.isB (Is.b2 Is.pure Is.pure (chart_at_is r l)) (Gives.isB (Is.lt Is.pure Is.pure) ?_)
  have bdry : ∀ b : Bool, (b = true ↔ Rch (wtBeside (lvl rel l)) q (-1, -1)) → b = decide (L < l) := fun b hb => by rw [Bool.eq_iff_iff, hb, hdr, decide_eq_true_eq]
  refine Gives.bind (P := fun b => b = decide (L < l)) (Gives.c2 Is.pure Is.pure ((drains_gives c (isWt_iff.mp hw).1).imp bdry)) fun told ht => ?_
  subst ht
  refine Gives.stop (Gives.orF (Gives.of (Is.notF (Is.bind Is.pure Is.pure))) (Gives.orF (Gives.neF (Gives.of Is.pure) (Gives.of Is.pure)) (Gives.neF (Gives.c2 Is.pure Is.pure ((law_drainedL_gives c (by omega) (by rw [lvl_wid r.ch]; omega) hw).imp bdry)) (Gives.of Is.pure)))) ?_
  refine Gives.bind (P := fun o => o.isNone = decide (L < l) ∧ ∀ R, o = some R → R.l.length ≤ 96000 ∧ holdB (lvl rel l) q R.l = true) (Gives.c2 Is.pure Is.pure ((holding_ring_gives c hz hw).imp fun o ho => ⟨bdry _ (by rw [Option.isNone_iff_eq_none]; exact ho.1), ho.2⟩)) fun o ⟨ho, hR⟩ => ?_
  refine Gives.stop (Gives.orF (Gives.neF (x := decide (L < l)) (Gives.of ((Is.isN Is.pure).eq ho)) (Gives.of Is.pure)) ?_) ?_
  · refine Gives.b2 (P := fun b => b = !decide (L < l)) (P' := (· = decide (L < l))) (Gives.bind (Gives.c2 Is.pure Is.pure (water_way_gives c hw)) fun w hw2 => Gives.pure ?_) (Gives.of Is.pure) fun x y hx hy => Gives.pure ?_
    · have h1 := hw2.1
      rw [hdr] at h1
      cases w with
      | none => rw [decide_eq_false (h1.mp rfl)]; rfl
      | some w =>
        have : L < l := by
          apply Classical.byContradiction
          intro hn
          cases h1.mpr hn
        rw [decide_eq_true this]; rfl
    · rw [hx, hy]; cases decide (L < l) <;> rfl
  refine Gives.stop (Gives.andF (Gives.pure fun h => ?_)) (Gives.pure rfl)
  cases o with
  | none =>
    rw [← ho] at h; cases h
  | some R =>
    obtain ⟨h1, h2⟩ := hR R rfl
    exact Gives.of (Is.notF ((Is.b3 Is.pure Is.pure (Is.the Is.pure) (law_holdsL_is c (by omega))).eq h2))
end

section
variable {rel : List Str} (r : Rel rel)
include r
/-- water beside water that drains, drains -/
theorem spl_le {q o : Sq} (hq : isSq rel q = true) (ho : isSq rel o = true) (hn : q ∈ nbrs o) (h : hg rel o ≤ spl rel q) : spl rel o ≤ spl rel q := by
  have S := spl_ok r hq
  have T := spl_ok r ho
  have lo := S.lo
  have d := (S.dr (spl rel q + 1) (by omega)).mpr (by omega)
  have hw : isWt (lvl rel (spl rel q + 1)) q = true := (wt_lvl r _ q).mpr ⟨isSq_nr hq, fun z => by omega⟩
  have d2 : Rch (wtBeside (lvl rel (spl rel q + 1))) o (-1, -1) := (Rch.one (List.mem_filter.mpr ⟨hn, hw⟩)).trans d
  have := (T.dr (spl rel q + 1) (by omega)).mp d2
  omega
theorem nb_sym {p q : Sq} (h : q ∈ nbrs p) : p ∈ nbrs q := by
  rw [mem_nbrs] at h ⊢
  obtain ⟨h1, h2⟩ := h
  exact ⟨by omega, fun e => h2 e.symm⟩
/-- the least of the two: a neighbour's spill bounds -/
theorem spl_max {q o : Sq} (hq : isSq rel q = true) (ho : isSq rel o = true) (hn : o ∈ nbrs q) : ¬ (if spl rel o > hg rel q then spl rel o else hg rel q) < spl rel q := by
  intro h
  have S := spl_ok r hq
  have T := spl_ok r ho
  have lo := T.lo
  have hi : spl rel o < spl rel q ∧ hg rel q < spl rel q := by split at h <;> omega
  have d := (T.dr (spl rel q) (by omega)).mpr hi.1
  have hw : isWt (lvl rel (spl rel q)) o = true := (wt_lvl r _ o).mpr ⟨isSq_nr ho, fun z => by omega⟩
  have d2 : Rch (wtBeside (lvl rel (spl rel q))) q (-1, -1) := (Rch.one (List.mem_filter.mpr ⟨hn, hw⟩)).trans d
  have := (S.dr (spl rel q) hi.2).mp d2
  omega
def Dn (rel : List Str) (a b : Sq) : Prop := b ∈ sides a ∧ isSq rel b = true ∧ hg rel b < hg rel a
def NxtIs (rel : List Str) (q : Sq) (o : Option Sq) : Prop := (o = none ∧ ∀ p, ¬ Dn rel q p) ∨ ∃ p, o = some p ∧ Dn rel q p
theorem next_gives {q : Sq} (hq : isSq rel q = true) : Gives (m_next_square rel q) (NxtIs rel q) := by
  intro n Q k
  unfold m_next_square
  rw [WP.run_bind, WP.run_pure, WP.run_bind]
  refine Is.run (Is.b1 Is.pure (side_neighbours_is q)) ?_
  refine WP.after_inv (fun i m y => m = n ∧ ((y = none ∧ ∀ p ∈ (sides q).take i, ¬ Dn rel q p) ∨ ∃ p, y = some p ∧ Dn rel q p)) ⟨rfl, .inl ⟨rfl, fun p hp => by simp at hp⟩⟩ (fun i m o y hi hI => ?_) fun m y hI => ?_
  · obtain ⟨rfl, hI⟩ := hI
    have hm := List.mem_of_getElem? hi
    rw [WP.run_bind, WP.run_bind]
    refine Is.run (a := isSq rel o && decide (hg rel o < hg rel q)) (Is.and (Is.b2 Is.pure Is.pure (is_square_is r.ch o)) fun h => Is.lt (Is.b2 Is.pure Is.pure (height_is r h)) (Is.b2 Is.pure Is.pure (height_is r hq))) ?_
    rw [WP.run_cond]
    refine ⟨fun h => ?_, fun h => ?_⟩
    · rw [Bool.and_eq_true, decide_eq_true_eq] at h
      have hd : Dn rel q o := ⟨hm, h.1, h.2⟩
      rw [WP.run_bind, WP.run_bind]
      rcases hI with ⟨rfl, _⟩ | ⟨p, rfl, hp⟩
      · refine Is.run (a := true) (Is.bind (Is.bind Is.pure Is.pure) (Is.cond (fun _ => Is.pure) fun h => by cases h)) ?_
        rw [WP.run_cond]
        exact ⟨fun _ => ⟨rfl, .inr ⟨o, rfl, hd⟩⟩, fun h => by cases h⟩
      · refine Is.run (Is.or (x := false) (Is.bind Is.pure Is.pure) fun _ => Is.lt (Is.b2 Is.pure Is.pure (height_is r h.1)) (Is.b2 Is.pure (Is.the Is.pure) (height_is r hp.2.1))) ?_
        rw [WP.run_cond]
        exact ⟨fun _ => ⟨rfl, .inr ⟨o, rfl, hd⟩⟩, fun _ => ⟨rfl, .inr ⟨p, rfl, hp⟩⟩⟩
    · refine ⟨rfl, ?_⟩
      rcases hI with ⟨rfl, h2⟩ | ⟨p, rfl, hp⟩
      · refine .inl ⟨rfl, fun p hp hd => ?_⟩
        rw [take_snoc hi] at hp
        rcases List.mem_append.mp hp with hp | hp
        · exact h2 p hp hd
        · rw [List.mem_singleton.mp hp] at hd
          rw [hd.2.1, decide_eq_true hd.2.2] at h; cases h
      · exact .inr ⟨p, rfl, hp⟩
  · obtain ⟨rfl, hI⟩ := hI
    rw [List.take_length] at hI
    refine k _ ?_
    rcases hI with ⟨rfl, h2⟩ | h
    · exact .inl ⟨rfl, fun p hp => h2 p hp.1 hp⟩
    · exact .inr h
/-- what course tells -/
structure Crs (rel : List Str) (q : Sq) (w : List Sq) : Prop where
  hd : ∃ t, w = q :: t ∧ ∀ p, ¬ Dn rel (lastD q t) p
  ch : Chn (Dn rel) w
  sq : ∀ p ∈ w, isSq rel p = true
  len : w.length ≤ 10
theorem course_gives {q : Sq} (hq : isSq rel q = true) : Gives (m_course rel q) (Crs rel q) := by
  intro n Q k
  unfold m_course
  rw [WP.run_bind]
  refine Is.run (Is.row1 Is.pure) ?_
  rw [WP.run_bind, WP.run_bind, WP.run_pure]
  refine next_gives r hq n _ fun o ho => ?_
  refine WP.after_whilst (fun m n' y => n' = n ∧ ∃ t, y.1 = q :: t ∧ Chn (Dn rel) y.1 ∧ (∀ p ∈ y.1, isSq rel p = true) ∧ (y.1.length : Int) + hg rel (lastD q t) ≤ 10 ∧ NxtIs rel (lastD q t) y.2 ∧ m = (hg rel (lastD q t)).toNat) ⟨_, rfl, [], rfl, trivial, fun p hp => by rw [List.mem_singleton.mp hp]; exact hq, by have := (r.hg hq).2; show (1 : Int) + hg rel q ≤ 10; omega, ho, rfl⟩ (fun m n' y hI => ?_)
  obtain ⟨rfl, t, e1, hc, hs, hl, hn, rfl⟩ := hI
  refine Is.run (Is.notN Is.pure) ⟨fun h => ?_, fun h => ?_⟩
  · rcases hn with ⟨e, _⟩ | ⟨p, e, hp⟩
    · rw [e] at h; cases h
    · have hlast : isSq rel (lastD q t) = true := by
        refine hs _ ?_
        rw [e1, lastD_get]
        cases t with
        | nil => simp
        | cons a u =>
          rw [List.getD_eq_getElem?_getD, List.getElem?_eq_getElem (by simp)]
          exact List.getElem_mem _
      have h0 := (r.hg hp.2.1).1
      have h2 := hp.2.2
      rw [WP.run_bind]
      refine Is.run (a := y.1 ++ [p]) (Is.bind (Is.the (Is.pure.eq e)) (Is.req (by omega))) ?_
      rw [WP.run_bind]
      refine (Gives.c2 Is.pure (Is.the (Is.pure.eq e)) (next_gives r hp.2.1)) n' _ fun o2 ho2 => ?_
      have el : lastD q (t ++ [p]) = p := lastD_snoc q t p
      refine ⟨(hg rel p).toNat, by omega, rfl, t ++ [p], by rw [e1]; rfl, ?_, fun x hx => ?_, ?_, by rw [el]; exact ho2, by rw [el]⟩
      · refine hc.snoc fun x hx => ?_
        have : x = lastD q t := by
          rw [e1] at hx
          have h3 := lastD_get q t
          rw [List.getLast?_eq_getElem?, List.length_cons, Nat.add_sub_cancel] at hx
          rw [h3, List.getD_eq_getElem?_getD, hx]; rfl
        rw [this]; exact hp
      · rcases List.mem_append.mp hx with hx | hx
        · exact hs x hx
        · rw [List.mem_singleton.mp hx]; exact hp.2.1
      · rw [el]
        show (((y.1 ++ [p]).length : Nat) : Int) + _ ≤ 10
        rw [List.length_append, List.length_singleton]
        push_cast; omega
  · rcases hn with ⟨e, hno⟩ | ⟨p, e, hp⟩
    · refine k _ ⟨⟨t, e1, hno⟩, hc, hs, ?_⟩
      have hlast : 0 ≤ hg rel (lastD q t) := by
        refine (r.hg (hs _ ?_)).1
        rw [e1, lastD_get]
        cases t with
        | nil => simp
        | cons a u =>
          rw [List.getD_eq_getElem?_getD, List.getElem?_eq_getElem (by simp)]
          exact List.getElem_mem _
      omega
    · rw [e] at h; cases h
end
theorem sides_nbrs {p q : Sq} (h : q ∈ sides p) : q ∈ nbrs p := by
  rw [mem_nbrs]
  unfold sides at h
  simp only [List.mem_cons, List.not_mem_nil, or_false] at h
  rcases h with rfl | rfl | rfl | rfl <;> refine ⟨by dsimp only; omega, fun e => ?_⟩ <;> (have h1 := congrArg Prod.fst e; have h2 := congrArg Prod.snd e; dsimp only at h1 h2; omega)
theorem spl_mg {rel : List Str} (r : Rel rel) {q o : Sq} (hq : isSq rel q = true) (hn : o ∈ nbrs q) (ho : isSq rel o = false) : spl rel q = hg rel q := by
  have S := spl_ok r hq
  have lo := S.lo
  have c := lvl_ch r.ch (hg rel q + 1)
  have hnr : isNr (lvl rel (hg rel q + 1)) o = true := by
    rw [lvl_nr r]
    have h1 := isSq_iff.mp hq
    rw [mem_nbrs] at hn
    refine isNr_iff.mpr ?_
    omega
  have hns : isSq (lvl rel (hg rel q + 1)) o = false := by rw [lvl_sq r.ch]; exact ho
  have hwo : isWt (lvl rel (hg rel q + 1)) o = true := wet_out hnr hns
  have hwq : isWt (lvl rel (hg rel q + 1)) q = true := (wt_lvl r _ q).mpr ⟨isSq_nr hq, fun z => by omega⟩
  have h1 : Rch (wtBeside (lvl rel (hg rel q + 1))) (-1, -1) q := (margin_rch c hnr hns).trans (Rch.one (List.mem_filter.mpr ⟨nb_sym r hn, hwq⟩))
  have h2 : Rch (wtBeside (lvl rel (hg rel q + 1))) q (-1, -1) := wch_symm (corner_wt _) h1
  have := (S.dr (hg rel q + 1) (by omega)).mp h2
  omega
theorem law_plain (ns : List Int) (h : ns.length ≤ 63) : (m_law ns).run 0 fun _ b => b = true := by
  refine run_plain (k := 100000) ?_
  unfold m_law
  refine Draws.go (Draws.u2 Is.pure (draw_reliefL (most := 6) (by decide) (by decide))) fun rel ⟨r, h20, w20⟩ => ?_
  have hA : (allSq rel).length ≤ 400 := by
    rw [allSq_len]
    exact Nat.mul_le_mul h20 w20
  have hpos : 0 < (allSq rel).length := by
    rw [allSq_len]
    exact Nat.mul_pos r.ch.ne r.ch.w0
  refine Draws.isB (Is.b1 Is.pure (law_all_is r.ch)) ?_
  refine Draws.isB (Is.range1 Is.pure (by decide)) ?_
  refine Draws.skip (Draws.loopT (xs := rangeL 0 3) (k := 1) (k' := 0) (fun t _ => ?_) (Is.draws (Is.bind Is.pure Is.pure))) (by decide)
  refine Draws.bind (k := 1) (k' := 0) (Draws.u2 Is.pure (draw_pickL hpos)) fun q hq => Gives.draws ?_
  have hq := mem_allSq.mp hq
  refine Gives.stop (Gives.notT (Gives.c2 Is.pure Is.pure (square_is r h20 w20 hq))) ?_
  refine Gives.isB (own_is r hq) (Gives.isB (Is.b2 Is.pure Is.pure (spill_is r hq)) (Gives.isB (Is.b1 Is.pure (law_aroundL_is q)) ?_))
  refine Gives.loopT (ρ := Ctl Unit Bool) (fun o ho => ?_) ?_
  · refine Gives.isB (Is.inQ Is.pure Is.pure) (Gives.cond (fun h => ?_) fun h => ?_)
    · have hso := mem_allSq.mp (of_decide_eq_true h)
      refine Gives.stop (Gives.of ((Is.gt Is.pure (Is.b2 Is.pure (Is.b2 Is.pure Is.pure (spill_is r hso)) Is.pure)).eq (decide_eq_false ?_))) (Gives.pure rfl)
      exact spl_max r hq hso ho
    · have hso : isSq rel o = false := by
        rw [← Bool.not_eq_true]
        exact fun z => of_decide_eq_false h (mem_allSq.mpr z)
      refine Gives.stop (Gives.of ((Is.ne Is.pure Is.pure).eq ?_)) (Gives.pure rfl)
      rw [spl_mg r hq ho hso, decide_eq_true rfl]; rfl
  · refine Gives.bind (Gives.c2 Is.pure Is.pure (course_gives r hq)) fun w hw => ?_
    have hl := hw.len
    obtain ⟨t, e, hno⟩ := hw.hd
    have hl0 : 0 < w.length := by rw [e]; simp
    refine Gives.isB (Is.range1' (Is.sub (Is.len Is.pure) Is.pure) (by omega) (by omega)) ?_
    refine Gives.loopT (ρ := Ctl Unit Bool) (fun k hk => ?_) ?_
    · obtain ⟨k0, k1⟩ := mem_rangeL0.mp hk
      obtain ⟨i, rfl⟩ := Int.eq_ofNat_of_zero_le k0
      have hi1 : i + 1 < w.length := by omega
      have a1 : Is (WP.ix (WP.pure w) (WP.pure (i : Int))) w[i] := (Is.ix Is.pure Is.pure ⟨by omega, by omega⟩).eq (ixD_nat (by omega))
      have a2 : Is (WP.ix (WP.pure w) (WP.add (WP.pure (i : Int)) (WP.pure (1 : Int)))) w[i + 1] := (Is.ix Is.pure (Is.add Is.pure Is.pure) ⟨by omega, by omega⟩).eq (by rw [show (i : Int) + 1 = ((i + 1 : Nat) : Int) by omega]; exact ixD_nat hi1)
      have hd : Dn rel w[i] w[i + 1] := hw.ch.get (List.getElem?_eq_getElem (by omega)) (List.getElem?_eq_getElem hi1)
      have s1 := hw.sq _ (List.getElem_mem (show i < w.length by omega))
      have s2 := hw.sq _ (List.getElem_mem hi1)
      generalize w[i] = a at a1 hd s1
      generalize w[i + 1] = b at a2 hd s2
      have hab : a ∈ nbrs b := nb_sym r (sides_nbrs hd.1)
      have sa := (spl_ok r s1).lo
      have hle := spl_le r s1 s2 hab (by have := hd.2.2; omega)
      refine Gives.stop (Gives.of ((Is.or (x := false) ((Is.gt (Is.b2 Is.pure a2 (spill_is r s2)) (Is.b2 Is.pure a1 (spill_is r s1))).eq (decide_eq_false (by omega))) fun _ => Is.ge (Is.b2 Is.pure a2 (height_is r s2)) (Is.b2 Is.pure a1 (height_is r s1))).eq ?_)) (Gives.pure rfl)
      rw [decide_eq_false (by have := hd.2.2; omega)]; rfl
    · have hlast : isSq rel (lastD q t) = true := by
        refine hw.sq _ ?_
        rw [e, lastD_get]
        cases t with
        | nil => simp
        | cons a u =>
          rw [List.getD_eq_getElem?_getD, List.getElem?_eq_getElem (by simp)]
          exact List.getElem_mem _
      have el : ixD w (-1) = lastD q t := by rw [e, ixD_last]
      have e0 : ixD w 0 = q := by
        rw [e]
        exact @ixD_getD Sq _ (q :: t) 0 (Nat.succ_pos _)
      refine Gives.stop (Gives.orF (Gives.bind (Gives.c2 Is.pure ((Is.ix Is.pure (Is.neg Is.pure) ⟨by omega, by omega⟩).eq el) (next_gives r hlast)) fun o ho => Gives.pure ?_) (Gives.of ((Is.neD (Is.ix Is.pure Is.pure ⟨by omega, by omega⟩) Is.pure (ok_sq _) (ok_sq _)).eq ?_))) (Gives.pure rfl)
      · rcases ho with ⟨rfl, _⟩ | ⟨p, _, hp⟩
        · rfl
        · exact absurd hp (hno p)
      · rw [e0, decide_eq_true rfl]; rfl
end W

namespace W
open PySem PySem.Spec L2 Y
section
theorem all_mk {l : PySem.W.OpenLaw} {w : World} {K : PySem.W.Frag} {h : Heap} {mg : Str → Option Value} {fa f__law_take f__law_deal f_is_square f_is_land f_squares_of f_margin_squares f_side_neighbours f_neighbours f_is_near f_is_near_water f_water_squares f_water_steps f_met_from f_regions_of f_waters f_lakes f_drains f_above f_next_shore f_shores_from f_lake_shores f_is_margin f_way_to f_water_way f_without_repeats f_ring_holding f_holding_ring f_height f_chart_at f_spill f_pool f_next_square f_course f__law_same f__law_at f__law_all f__law_sides f__law_around f__law_spread f__law_wet f__law_drained f__law_inside f__law_ring_right f__law_holds f__law_pick f__law_relief f__law_square f_law : Addr} (X : K.In h) (G : h.Ns mainGlobals mg) (hfa : mg "law" = some (.ref fa))
    {od__law_take an__law_take : Option Addr} {od__law_deal an__law_deal : Option Addr} {od_is_square an_is_square : Option Addr} {od_is_land an_is_land : Option Addr} {od_squares_of an_squares_of : Option Addr} {od_margin_squares an_margin_squares : Option Addr} {od_side_neighbours an_side_neighbours : Option Addr} {od_neighbours an_neighbours : Option Addr} {od_is_near an_is_near : Option Addr} {od_is_near_water an_is_near_water : Option Addr} {od_water_squares an_water_squares : Option Addr} {od_water_steps an_water_steps : Option Addr} {od_met_from an_met_from : Option Addr} {od_regions_of an_regions_of : Option Addr} {od_waters an_waters : Option Addr} {od_lakes an_lakes : Option Addr} {od_drains an_drains : Option Addr} {od_above an_above : Option Addr} {od_next_shore an_next_shore : Option Addr} {od_shores_from an_shores_from : Option Addr} {od_lake_shores an_lake_shores : Option Addr} {od_is_margin an_is_margin : Option Addr} {od_way_to an_way_to : Option Addr} {od_water_way an_water_way : Option Addr} {od_without_repeats an_without_repeats : Option Addr} {od_ring_holding an_ring_holding : Option Addr} {od_holding_ring an_holding_ring : Option Addr} {od_height an_height : Option Addr} {od_chart_at an_chart_at : Option Addr} {od_spill an_spill : Option Addr} {od_pool an_pool : Option Addr} {od_next_square an_next_square : Option Addr} {od_course an_course : Option Addr} {od__law_same an__law_same : Option Addr} {od__law_at an__law_at : Option Addr} {od__law_all an__law_all : Option Addr} {od__law_sides an__law_sides : Option Addr} {od__law_around an__law_around : Option Addr} {od__law_spread an__law_spread : Option Addr} {od__law_wet an__law_wet : Option Addr} {od__law_drained an__law_drained : Option Addr} {od__law_inside an__law_inside : Option Addr} {od__law_ring_right an__law_ring_right : Option Addr} {od__law_holds an__law_holds : Option Addr} {od__law_pick an__law_pick : Option Addr} {od__law_relief an__law_relief : Option Addr} {od__law_square an__law_square : Option Addr} {od_law an_law : Option Addr} {sl__law_take : Array (Option Value)} {oc__law_take kV__law_take dc__law_take pm__law_take cd__law_take ct__law_take : Value} {sl__law_deal : Array (Option Value)} {oc__law_deal kV__law_deal dc__law_deal pm__law_deal cd__law_deal ct__law_deal : Value} {sl_is_square : Array (Option Value)} {oc_is_square kV_is_square dc_is_square pm_is_square cd_is_square ct_is_square : Value} {sl_is_land : Array (Option Value)} {oc_is_land kV_is_land dc_is_land pm_is_land cd_is_land ct_is_land : Value} {sl_squares_of : Array (Option Value)} {oc_squares_of kV_squares_of dc_squares_of pm_squares_of cd_squares_of ct_squares_of : Value} {sl_margin_squares : Array (Option Value)} {oc_margin_squares kV_margin_squares dc_margin_squares pm_margin_squares cd_margin_squares ct_margin_squares : Value} {sl_side_neighbours : Array (Option Value)} {oc_side_neighbours kV_side_neighbours dc_side_neighbours pm_side_neighbours cd_side_neighbours ct_side_neighbours : Value} {sl_neighbours : Array (Option Value)} {oc_neighbours kV_neighbours dc_neighbours pm_neighbours cd_neighbours ct_neighbours : Value} {sl_is_near : Array (Option Value)} {oc_is_near kV_is_near dc_is_near pm_is_near cd_is_near ct_is_near : Value} {sl_is_near_water : Array (Option Value)} {oc_is_near_water kV_is_near_water dc_is_near_water pm_is_near_water cd_is_near_water ct_is_near_water : Value} {sl_water_squares : Array (Option Value)} {oc_water_squares kV_water_squares dc_water_squares pm_water_squares cd_water_squares ct_water_squares : Value} {sl_water_steps : Array (Option Value)} {oc_water_steps kV_water_steps dc_water_steps pm_water_steps cd_water_steps ct_water_steps : Value} {sl_met_from : Array (Option Value)} {oc_met_from kV_met_from dc_met_from pm_met_from cd_met_from ct_met_from : Value} {sl_regions_of : Array (Option Value)} {oc_regions_of kV_regions_of dc_regions_of pm_regions_of cd_regions_of ct_regions_of : Value} {sl_waters : Array (Option Value)} {oc_waters kV_waters dc_waters pm_waters cd_waters ct_waters : Value} {sl_lakes : Array (Option Value)} {oc_lakes kV_lakes dc_lakes pm_lakes cd_lakes ct_lakes : Value} {sl_drains : Array (Option Value)} {oc_drains kV_drains dc_drains pm_drains cd_drains ct_drains : Value} {sl_above : Array (Option Value)} {oc_above kV_above dc_above pm_above cd_above ct_above : Value} {sl_next_shore : Array (Option Value)} {oc_next_shore kV_next_shore dc_next_shore pm_next_shore cd_next_shore ct_next_shore : Value} {sl_shores_from : Array (Option Value)} {oc_shores_from kV_shores_from dc_shores_from pm_shores_from cd_shores_from ct_shores_from : Value} {sl_lake_shores : Array (Option Value)} {oc_lake_shores kV_lake_shores dc_lake_shores pm_lake_shores cd_lake_shores ct_lake_shores : Value} {sl_is_margin : Array (Option Value)} {oc_is_margin kV_is_margin dc_is_margin pm_is_margin cd_is_margin ct_is_margin : Value} {sl_way_to : Array (Option Value)} {oc_way_to kV_way_to dc_way_to pm_way_to cd_way_to ct_way_to : Value} {sl_water_way : Array (Option Value)} {oc_water_way kV_water_way dc_water_way pm_water_way cd_water_way ct_water_way : Value} {sl_without_repeats : Array (Option Value)} {oc_without_repeats kV_without_repeats dc_without_repeats pm_without_repeats cd_without_repeats ct_without_repeats : Value} {sl_ring_holding : Array (Option Value)} {oc_ring_holding kV_ring_holding dc_ring_holding pm_ring_holding cd_ring_holding ct_ring_holding : Value} {sl_holding_ring : Array (Option Value)} {oc_holding_ring kV_holding_ring dc_holding_ring pm_holding_ring cd_holding_ring ct_holding_ring : Value} {sl_height : Array (Option Value)} {oc_height kV_height dc_height pm_height cd_height ct_height : Value} {sl_chart_at : Array (Option Value)} {oc_chart_at kV_chart_at dc_chart_at pm_chart_at cd_chart_at ct_chart_at : Value} {sl_spill : Array (Option Value)} {oc_spill kV_spill dc_spill pm_spill cd_spill ct_spill : Value} {sl_pool : Array (Option Value)} {oc_pool kV_pool dc_pool pm_pool cd_pool ct_pool : Value} {sl_next_square : Array (Option Value)} {oc_next_square kV_next_square dc_next_square pm_next_square cd_next_square ct_next_square : Value} {sl_course : Array (Option Value)} {oc_course kV_course dc_course pm_course cd_course ct_course : Value} {sl__law_same : Array (Option Value)} {oc__law_same kV__law_same dc__law_same pm__law_same cd__law_same ct__law_same : Value} {sl__law_at : Array (Option Value)} {oc__law_at kV__law_at dc__law_at pm__law_at cd__law_at ct__law_at : Value} {sl__law_all : Array (Option Value)} {oc__law_all kV__law_all dc__law_all pm__law_all cd__law_all ct__law_all : Value} {sl__law_sides : Array (Option Value)} {oc__law_sides kV__law_sides dc__law_sides pm__law_sides cd__law_sides ct__law_sides : Value} {sl__law_around : Array (Option Value)} {oc__law_around kV__law_around dc__law_around pm__law_around cd__law_around ct__law_around : Value} {sl__law_spread : Array (Option Value)} {oc__law_spread kV__law_spread dc__law_spread pm__law_spread cd__law_spread ct__law_spread : Value} {sl__law_wet : Array (Option Value)} {oc__law_wet kV__law_wet dc__law_wet pm__law_wet cd__law_wet ct__law_wet : Value} {sl__law_drained : Array (Option Value)} {oc__law_drained kV__law_drained dc__law_drained pm__law_drained cd__law_drained ct__law_drained : Value} {sl__law_inside : Array (Option Value)} {oc__law_inside kV__law_inside dc__law_inside pm__law_inside cd__law_inside ct__law_inside : Value} {sl__law_ring_right : Array (Option Value)} {oc__law_ring_right kV__law_ring_right dc__law_ring_right pm__law_ring_right cd__law_ring_right ct__law_ring_right : Value} {sl__law_holds : Array (Option Value)} {oc__law_holds kV__law_holds dc__law_holds pm__law_holds cd__law_holds ct__law_holds : Value} {sl__law_pick : Array (Option Value)} {oc__law_pick kV__law_pick dc__law_pick pm__law_pick cd__law_pick ct__law_pick : Value} {sl__law_relief : Array (Option Value)} {oc__law_relief kV__law_relief dc__law_relief pm__law_relief cd__law_relief ct__law_relief : Value} {sl__law_square : Array (Option Value)} {oc__law_square kV__law_square dc__law_square pm__law_square cd__law_square ct__law_square : Value} {sl_law : Array (Option Value)} {oc_law kV_law dc_law pm_law cd_law ct_law : Value}
    (a__law_take : PySem.W.nsIn K mainGlobals "_law_take" = some (some (.ref f__law_take))) (l__law_take : K.lookup f__law_take = some ⟨oc__law_take, od__law_take, .func (PySem.W.fnOf "_law_take" "_law_take" (defArgs s__law_take) (defBody s__law_take) (defScope s__law_take) .none kV__law_take dc__law_take pm__law_take an__law_take cd__law_take ct__law_take), sl__law_take⟩) (c__law_take : PySem.W.codeIn K cd__law_take "_law_take" = true) (k__law_take : PySem.W.keepIn K (.ref f__law_take) = true)
    (a__law_deal : PySem.W.nsIn K mainGlobals "_law_deal" = some (some (.ref f__law_deal))) (l__law_deal : K.lookup f__law_deal = some ⟨oc__law_deal, od__law_deal, .func (PySem.W.fnOf "_law_deal" "_law_deal" (defArgs s__law_deal) (defBody s__law_deal) (defScope s__law_deal) .none kV__law_deal dc__law_deal pm__law_deal an__law_deal cd__law_deal ct__law_deal), sl__law_deal⟩) (c__law_deal : PySem.W.codeIn K cd__law_deal "_law_deal" = true) (k__law_deal : PySem.W.keepIn K (.ref f__law_deal) = true)
    (a_is_square : PySem.W.nsIn K mainGlobals "is_square" = some (some (.ref f_is_square))) (l_is_square : K.lookup f_is_square = some ⟨oc_is_square, od_is_square, .func (PySem.W.fnOf "is_square" "is_square" (defArgs s_is_square) (defBody s_is_square) (defScope s_is_square) .none kV_is_square dc_is_square pm_is_square an_is_square cd_is_square ct_is_square), sl_is_square⟩) (c_is_square : PySem.W.codeIn K cd_is_square "is_square" = true) (k_is_square : PySem.W.keepIn K (.ref f_is_square) = true)
    (a_is_land : PySem.W.nsIn K mainGlobals "is_land" = some (some (.ref f_is_land))) (l_is_land : K.lookup f_is_land = some ⟨oc_is_land, od_is_land, .func (PySem.W.fnOf "is_land" "is_land" (defArgs s_is_land) (defBody s_is_land) (defScope s_is_land) .none kV_is_land dc_is_land pm_is_land an_is_land cd_is_land ct_is_land), sl_is_land⟩) (c_is_land : PySem.W.codeIn K cd_is_land "is_land" = true) (k_is_land : PySem.W.keepIn K (.ref f_is_land) = true)
    (a_squares_of : PySem.W.nsIn K mainGlobals "squares_of" = some (some (.ref f_squares_of))) (l_squares_of : K.lookup f_squares_of = some ⟨oc_squares_of, od_squares_of, .func (PySem.W.fnOf "squares_of" "squares_of" (defArgs s_squares_of) (defBody s_squares_of) (defScope s_squares_of) .none kV_squares_of dc_squares_of pm_squares_of an_squares_of cd_squares_of ct_squares_of), sl_squares_of⟩) (c_squares_of : PySem.W.codeIn K cd_squares_of "squares_of" = true) (k_squares_of : PySem.W.keepIn K (.ref f_squares_of) = true)
    (a_margin_squares : PySem.W.nsIn K mainGlobals "margin_squares" = some (some (.ref f_margin_squares))) (l_margin_squares : K.lookup f_margin_squares = some ⟨oc_margin_squares, od_margin_squares, .func (PySem.W.fnOf "margin_squares" "margin_squares" (defArgs s_margin_squares) (defBody s_margin_squares) (defScope s_margin_squares) .none kV_margin_squares dc_margin_squares pm_margin_squares an_margin_squares cd_margin_squares ct_margin_squares), sl_margin_squares⟩) (c_margin_squares : PySem.W.codeIn K cd_margin_squares "margin_squares" = true) (k_margin_squares : PySem.W.keepIn K (.ref f_margin_squares) = true)
    (a_side_neighbours : PySem.W.nsIn K mainGlobals "side_neighbours" = some (some (.ref f_side_neighbours))) (l_side_neighbours : K.lookup f_side_neighbours = some ⟨oc_side_neighbours, od_side_neighbours, .func (PySem.W.fnOf "side_neighbours" "side_neighbours" (defArgs s_side_neighbours) (defBody s_side_neighbours) (defScope s_side_neighbours) .none kV_side_neighbours dc_side_neighbours pm_side_neighbours an_side_neighbours cd_side_neighbours ct_side_neighbours), sl_side_neighbours⟩) (c_side_neighbours : PySem.W.codeIn K cd_side_neighbours "side_neighbours" = true) (k_side_neighbours : PySem.W.keepIn K (.ref f_side_neighbours) = true)
    (a_neighbours : PySem.W.nsIn K mainGlobals "neighbours" = some (some (.ref f_neighbours))) (l_neighbours : K.lookup f_neighbours = some ⟨oc_neighbours, od_neighbours, .func (PySem.W.fnOf "neighbours" "neighbours" (defArgs s_neighbours) (defBody s_neighbours) (defScope s_neighbours) .none kV_neighbours dc_neighbours pm_neighbours an_neighbours cd_neighbours ct_neighbours), sl_neighbours⟩) (c_neighbours : PySem.W.codeIn K cd_neighbours "neighbours" = true) (k_neighbours : PySem.W.keepIn K (.ref f_neighbours) = true)
    (a_is_near : PySem.W.nsIn K mainGlobals "is_near" = some (some (.ref f_is_near))) (l_is_near : K.lookup f_is_near = some ⟨oc_is_near, od_is_near, .func (PySem.W.fnOf "is_near" "is_near" (defArgs s_is_near) (defBody s_is_near) (defScope s_is_near) .none kV_is_near dc_is_near pm_is_near an_is_near cd_is_near ct_is_near), sl_is_near⟩) (c_is_near : PySem.W.codeIn K cd_is_near "is_near" = true) (k_is_near : PySem.W.keepIn K (.ref f_is_near) = true)
    (a_is_near_water : PySem.W.nsIn K mainGlobals "is_near_water" = some (some (.ref f_is_near_water))) (l_is_near_water : K.lookup f_is_near_water = some ⟨oc_is_near_water, od_is_near_water, .func (PySem.W.fnOf "is_near_water" "is_near_water" (defArgs s_is_near_water) (defBody s_is_near_water) (defScope s_is_near_water) .none kV_is_near_water dc_is_near_water pm_is_near_water an_is_near_water cd_is_near_water ct_is_near_water), sl_is_near_water⟩) (c_is_near_water : PySem.W.codeIn K cd_is_near_water "is_near_water" = true) (k_is_near_water : PySem.W.keepIn K (.ref f_is_near_water) = true)
    (a_water_squares : PySem.W.nsIn K mainGlobals "water_squares" = some (some (.ref f_water_squares))) (l_water_squares : K.lookup f_water_squares = some ⟨oc_water_squares, od_water_squares, .func (PySem.W.fnOf "water_squares" "water_squares" (defArgs s_water_squares) (defBody s_water_squares) (defScope s_water_squares) .none kV_water_squares dc_water_squares pm_water_squares an_water_squares cd_water_squares ct_water_squares), sl_water_squares⟩) (c_water_squares : PySem.W.codeIn K cd_water_squares "water_squares" = true) (k_water_squares : PySem.W.keepIn K (.ref f_water_squares) = true)
    (a_water_steps : PySem.W.nsIn K mainGlobals "water_steps" = some (some (.ref f_water_steps))) (l_water_steps : K.lookup f_water_steps = some ⟨oc_water_steps, od_water_steps, .func (PySem.W.fnOf "water_steps" "water_steps" (defArgs s_water_steps) (defBody s_water_steps) (defScope s_water_steps) .none kV_water_steps dc_water_steps pm_water_steps an_water_steps cd_water_steps ct_water_steps), sl_water_steps⟩) (c_water_steps : PySem.W.codeIn K cd_water_steps "water_steps" = true) (k_water_steps : PySem.W.keepIn K (.ref f_water_steps) = true)
    (a_met_from : PySem.W.nsIn K mainGlobals "met_from" = some (some (.ref f_met_from))) (l_met_from : K.lookup f_met_from = some ⟨oc_met_from, od_met_from, .func (PySem.W.fnOf "met_from" "met_from" (defArgs s_met_from) (defBody s_met_from) (defScope s_met_from) .none kV_met_from dc_met_from pm_met_from an_met_from cd_met_from ct_met_from), sl_met_from⟩) (c_met_from : PySem.W.codeIn K cd_met_from "met_from" = true) (k_met_from : PySem.W.keepIn K (.ref f_met_from) = true)
    (a_regions_of : PySem.W.nsIn K mainGlobals "regions_of" = some (some (.ref f_regions_of))) (l_regions_of : K.lookup f_regions_of = some ⟨oc_regions_of, od_regions_of, .func (PySem.W.fnOf "regions_of" "regions_of" (defArgs s_regions_of) (defBody s_regions_of) (defScope s_regions_of) .none kV_regions_of dc_regions_of pm_regions_of an_regions_of cd_regions_of ct_regions_of), sl_regions_of⟩) (c_regions_of : PySem.W.codeIn K cd_regions_of "regions_of" = true) (k_regions_of : PySem.W.keepIn K (.ref f_regions_of) = true)
    (a_waters : PySem.W.nsIn K mainGlobals "waters" = some (some (.ref f_waters))) (l_waters : K.lookup f_waters = some ⟨oc_waters, od_waters, .func (PySem.W.fnOf "waters" "waters" (defArgs s_waters) (defBody s_waters) (defScope s_waters) .none kV_waters dc_waters pm_waters an_waters cd_waters ct_waters), sl_waters⟩) (c_waters : PySem.W.codeIn K cd_waters "waters" = true) (k_waters : PySem.W.keepIn K (.ref f_waters) = true)
    (a_lakes : PySem.W.nsIn K mainGlobals "lakes" = some (some (.ref f_lakes))) (l_lakes : K.lookup f_lakes = some ⟨oc_lakes, od_lakes, .func (PySem.W.fnOf "lakes" "lakes" (defArgs s_lakes) (defBody s_lakes) (defScope s_lakes) .none kV_lakes dc_lakes pm_lakes an_lakes cd_lakes ct_lakes), sl_lakes⟩) (c_lakes : PySem.W.codeIn K cd_lakes "lakes" = true) (k_lakes : PySem.W.keepIn K (.ref f_lakes) = true)
    (a_drains : PySem.W.nsIn K mainGlobals "drains" = some (some (.ref f_drains))) (l_drains : K.lookup f_drains = some ⟨oc_drains, od_drains, .func (PySem.W.fnOf "drains" "drains" (defArgs s_drains) (defBody s_drains) (defScope s_drains) .none kV_drains dc_drains pm_drains an_drains cd_drains ct_drains), sl_drains⟩) (c_drains : PySem.W.codeIn K cd_drains "drains" = true) (k_drains : PySem.W.keepIn K (.ref f_drains) = true)
    (a_above : PySem.W.nsIn K mainGlobals "above" = some (some (.ref f_above))) (l_above : K.lookup f_above = some ⟨oc_above, od_above, .func (PySem.W.fnOf "above" "above" (defArgs s_above) (defBody s_above) (defScope s_above) .none kV_above dc_above pm_above an_above cd_above ct_above), sl_above⟩) (c_above : PySem.W.codeIn K cd_above "above" = true) (k_above : PySem.W.keepIn K (.ref f_above) = true)
    (a_next_shore : PySem.W.nsIn K mainGlobals "next_shore" = some (some (.ref f_next_shore))) (l_next_shore : K.lookup f_next_shore = some ⟨oc_next_shore, od_next_shore, .func (PySem.W.fnOf "next_shore" "next_shore" (defArgs s_next_shore) (defBody s_next_shore) (defScope s_next_shore) .none kV_next_shore dc_next_shore pm_next_shore an_next_shore cd_next_shore ct_next_shore), sl_next_shore⟩) (c_next_shore : PySem.W.codeIn K cd_next_shore "next_shore" = true) (k_next_shore : PySem.W.keepIn K (.ref f_next_shore) = true)
    (a_shores_from : PySem.W.nsIn K mainGlobals "shores_from" = some (some (.ref f_shores_from))) (l_shores_from : K.lookup f_shores_from = some ⟨oc_shores_from, od_shores_from, .func (PySem.W.fnOf "shores_from" "shores_from" (defArgs s_shores_from) (defBody s_shores_from) (defScope s_shores_from) .none kV_shores_from dc_shores_from pm_shores_from an_shores_from cd_shores_from ct_shores_from), sl_shores_from⟩) (c_shores_from : PySem.W.codeIn K cd_shores_from "shores_from" = true) (k_shores_from : PySem.W.keepIn K (.ref f_shores_from) = true)
    (a_lake_shores : PySem.W.nsIn K mainGlobals "lake_shores" = some (some (.ref f_lake_shores))) (l_lake_shores : K.lookup f_lake_shores = some ⟨oc_lake_shores, od_lake_shores, .func (PySem.W.fnOf "lake_shores" "lake_shores" (defArgs s_lake_shores) (defBody s_lake_shores) (defScope s_lake_shores) .none kV_lake_shores dc_lake_shores pm_lake_shores an_lake_shores cd_lake_shores ct_lake_shores), sl_lake_shores⟩) (c_lake_shores : PySem.W.codeIn K cd_lake_shores "lake_shores" = true) (k_lake_shores : PySem.W.keepIn K (.ref f_lake_shores) = true)
    (a_is_margin : PySem.W.nsIn K mainGlobals "is_margin" = some (some (.ref f_is_margin))) (l_is_margin : K.lookup f_is_margin = some ⟨oc_is_margin, od_is_margin, .func (PySem.W.fnOf "is_margin" "is_margin" (defArgs s_is_margin) (defBody s_is_margin) (defScope s_is_margin) .none kV_is_margin dc_is_margin pm_is_margin an_is_margin cd_is_margin ct_is_margin), sl_is_margin⟩) (c_is_margin : PySem.W.codeIn K cd_is_margin "is_margin" = true) (k_is_margin : PySem.W.keepIn K (.ref f_is_margin) = true)
    (a_way_to : PySem.W.nsIn K mainGlobals "way_to" = some (some (.ref f_way_to))) (l_way_to : K.lookup f_way_to = some ⟨oc_way_to, od_way_to, .func (PySem.W.fnOf "way_to" "way_to" (defArgs s_way_to) (defBody s_way_to) (defScope s_way_to) .none kV_way_to dc_way_to pm_way_to an_way_to cd_way_to ct_way_to), sl_way_to⟩) (c_way_to : PySem.W.codeIn K cd_way_to "way_to" = true) (k_way_to : PySem.W.keepIn K (.ref f_way_to) = true)
    (a_water_way : PySem.W.nsIn K mainGlobals "water_way" = some (some (.ref f_water_way))) (l_water_way : K.lookup f_water_way = some ⟨oc_water_way, od_water_way, .func (PySem.W.fnOf "water_way" "water_way" (defArgs s_water_way) (defBody s_water_way) (defScope s_water_way) .none kV_water_way dc_water_way pm_water_way an_water_way cd_water_way ct_water_way), sl_water_way⟩) (c_water_way : PySem.W.codeIn K cd_water_way "water_way" = true) (k_water_way : PySem.W.keepIn K (.ref f_water_way) = true)
    (a_without_repeats : PySem.W.nsIn K mainGlobals "without_repeats" = some (some (.ref f_without_repeats))) (l_without_repeats : K.lookup f_without_repeats = some ⟨oc_without_repeats, od_without_repeats, .func (PySem.W.fnOf "without_repeats" "without_repeats" (defArgs s_without_repeats) (defBody s_without_repeats) (defScope s_without_repeats) .none kV_without_repeats dc_without_repeats pm_without_repeats an_without_repeats cd_without_repeats ct_without_repeats), sl_without_repeats⟩) (c_without_repeats : PySem.W.codeIn K cd_without_repeats "without_repeats" = true) (k_without_repeats : PySem.W.keepIn K (.ref f_without_repeats) = true)
    (a_ring_holding : PySem.W.nsIn K mainGlobals "ring_holding" = some (some (.ref f_ring_holding))) (l_ring_holding : K.lookup f_ring_holding = some ⟨oc_ring_holding, od_ring_holding, .func (PySem.W.fnOf "ring_holding" "ring_holding" (defArgs s_ring_holding) (defBody s_ring_holding) (defScope s_ring_holding) .none kV_ring_holding dc_ring_holding pm_ring_holding an_ring_holding cd_ring_holding ct_ring_holding), sl_ring_holding⟩) (c_ring_holding : PySem.W.codeIn K cd_ring_holding "ring_holding" = true) (k_ring_holding : PySem.W.keepIn K (.ref f_ring_holding) = true)
    (a_holding_ring : PySem.W.nsIn K mainGlobals "holding_ring" = some (some (.ref f_holding_ring))) (l_holding_ring : K.lookup f_holding_ring = some ⟨oc_holding_ring, od_holding_ring, .func (PySem.W.fnOf "holding_ring" "holding_ring" (defArgs s_holding_ring) (defBody s_holding_ring) (defScope s_holding_ring) .none kV_holding_ring dc_holding_ring pm_holding_ring an_holding_ring cd_holding_ring ct_holding_ring), sl_holding_ring⟩) (c_holding_ring : PySem.W.codeIn K cd_holding_ring "holding_ring" = true) (k_holding_ring : PySem.W.keepIn K (.ref f_holding_ring) = true)
    (a_height : PySem.W.nsIn K mainGlobals "height" = some (some (.ref f_height))) (l_height : K.lookup f_height = some ⟨oc_height, od_height, .func (PySem.W.fnOf "height" "height" (defArgs s_height) (defBody s_height) (defScope s_height) .none kV_height dc_height pm_height an_height cd_height ct_height), sl_height⟩) (c_height : PySem.W.codeIn K cd_height "height" = true) (k_height : PySem.W.keepIn K (.ref f_height) = true)
    (a_chart_at : PySem.W.nsIn K mainGlobals "chart_at" = some (some (.ref f_chart_at))) (l_chart_at : K.lookup f_chart_at = some ⟨oc_chart_at, od_chart_at, .func (PySem.W.fnOf "chart_at" "chart_at" (defArgs s_chart_at) (defBody s_chart_at) (defScope s_chart_at) .none kV_chart_at dc_chart_at pm_chart_at an_chart_at cd_chart_at ct_chart_at), sl_chart_at⟩) (c_chart_at : PySem.W.codeIn K cd_chart_at "chart_at" = true) (k_chart_at : PySem.W.keepIn K (.ref f_chart_at) = true)
    (a_spill : PySem.W.nsIn K mainGlobals "spill" = some (some (.ref f_spill))) (l_spill : K.lookup f_spill = some ⟨oc_spill, od_spill, .func (PySem.W.fnOf "spill" "spill" (defArgs s_spill) (defBody s_spill) (defScope s_spill) .none kV_spill dc_spill pm_spill an_spill cd_spill ct_spill), sl_spill⟩) (c_spill : PySem.W.codeIn K cd_spill "spill" = true) (k_spill : PySem.W.keepIn K (.ref f_spill) = true)
    (a_pool : PySem.W.nsIn K mainGlobals "pool" = some (some (.ref f_pool))) (l_pool : K.lookup f_pool = some ⟨oc_pool, od_pool, .func (PySem.W.fnOf "pool" "pool" (defArgs s_pool) (defBody s_pool) (defScope s_pool) .none kV_pool dc_pool pm_pool an_pool cd_pool ct_pool), sl_pool⟩) (c_pool : PySem.W.codeIn K cd_pool "pool" = true) (k_pool : PySem.W.keepIn K (.ref f_pool) = true)
    (a_next_square : PySem.W.nsIn K mainGlobals "next_square" = some (some (.ref f_next_square))) (l_next_square : K.lookup f_next_square = some ⟨oc_next_square, od_next_square, .func (PySem.W.fnOf "next_square" "next_square" (defArgs s_next_square) (defBody s_next_square) (defScope s_next_square) .none kV_next_square dc_next_square pm_next_square an_next_square cd_next_square ct_next_square), sl_next_square⟩) (c_next_square : PySem.W.codeIn K cd_next_square "next_square" = true) (k_next_square : PySem.W.keepIn K (.ref f_next_square) = true)
    (a_course : PySem.W.nsIn K mainGlobals "course" = some (some (.ref f_course))) (l_course : K.lookup f_course = some ⟨oc_course, od_course, .func (PySem.W.fnOf "course" "course" (defArgs s_course) (defBody s_course) (defScope s_course) .none kV_course dc_course pm_course an_course cd_course ct_course), sl_course⟩) (c_course : PySem.W.codeIn K cd_course "course" = true) (k_course : PySem.W.keepIn K (.ref f_course) = true)
    (a__law_same : PySem.W.nsIn K mainGlobals "_law_same" = some (some (.ref f__law_same))) (l__law_same : K.lookup f__law_same = some ⟨oc__law_same, od__law_same, .func (PySem.W.fnOf "_law_same" "_law_same" (defArgs s__law_same) (defBody s__law_same) (defScope s__law_same) .none kV__law_same dc__law_same pm__law_same an__law_same cd__law_same ct__law_same), sl__law_same⟩) (c__law_same : PySem.W.codeIn K cd__law_same "_law_same" = true) (k__law_same : PySem.W.keepIn K (.ref f__law_same) = true)
    (a__law_at : PySem.W.nsIn K mainGlobals "_law_at" = some (some (.ref f__law_at))) (l__law_at : K.lookup f__law_at = some ⟨oc__law_at, od__law_at, .func (PySem.W.fnOf "_law_at" "_law_at" (defArgs s__law_at) (defBody s__law_at) (defScope s__law_at) .none kV__law_at dc__law_at pm__law_at an__law_at cd__law_at ct__law_at), sl__law_at⟩) (c__law_at : PySem.W.codeIn K cd__law_at "_law_at" = true) (k__law_at : PySem.W.keepIn K (.ref f__law_at) = true)
    (a__law_all : PySem.W.nsIn K mainGlobals "_law_all" = some (some (.ref f__law_all))) (l__law_all : K.lookup f__law_all = some ⟨oc__law_all, od__law_all, .func (PySem.W.fnOf "_law_all" "_law_all" (defArgs s__law_all) (defBody s__law_all) (defScope s__law_all) .none kV__law_all dc__law_all pm__law_all an__law_all cd__law_all ct__law_all), sl__law_all⟩) (c__law_all : PySem.W.codeIn K cd__law_all "_law_all" = true) (k__law_all : PySem.W.keepIn K (.ref f__law_all) = true)
    (a__law_sides : PySem.W.nsIn K mainGlobals "_law_sides" = some (some (.ref f__law_sides))) (l__law_sides : K.lookup f__law_sides = some ⟨oc__law_sides, od__law_sides, .func (PySem.W.fnOf "_law_sides" "_law_sides" (defArgs s__law_sides) (defBody s__law_sides) (defScope s__law_sides) .none kV__law_sides dc__law_sides pm__law_sides an__law_sides cd__law_sides ct__law_sides), sl__law_sides⟩) (c__law_sides : PySem.W.codeIn K cd__law_sides "_law_sides" = true) (k__law_sides : PySem.W.keepIn K (.ref f__law_sides) = true)
    (a__law_around : PySem.W.nsIn K mainGlobals "_law_around" = some (some (.ref f__law_around))) (l__law_around : K.lookup f__law_around = some ⟨oc__law_around, od__law_around, .func (PySem.W.fnOf "_law_around" "_law_around" (defArgs s__law_around) (defBody s__law_around) (defScope s__law_around) .none kV__law_around dc__law_around pm__law_around an__law_around cd__law_around ct__law_around), sl__law_around⟩) (c__law_around : PySem.W.codeIn K cd__law_around "_law_around" = true) (k__law_around : PySem.W.keepIn K (.ref f__law_around) = true)
    (a__law_spread : PySem.W.nsIn K mainGlobals "_law_spread" = some (some (.ref f__law_spread))) (l__law_spread : K.lookup f__law_spread = some ⟨oc__law_spread, od__law_spread, .func (PySem.W.fnOf "_law_spread" "_law_spread" (defArgs s__law_spread) (defBody s__law_spread) (defScope s__law_spread) .none kV__law_spread dc__law_spread pm__law_spread an__law_spread cd__law_spread ct__law_spread), sl__law_spread⟩) (c__law_spread : PySem.W.codeIn K cd__law_spread "_law_spread" = true) (k__law_spread : PySem.W.keepIn K (.ref f__law_spread) = true)
    (a__law_wet : PySem.W.nsIn K mainGlobals "_law_wet" = some (some (.ref f__law_wet))) (l__law_wet : K.lookup f__law_wet = some ⟨oc__law_wet, od__law_wet, .func (PySem.W.fnOf "_law_wet" "_law_wet" (defArgs s__law_wet) (defBody s__law_wet) (defScope s__law_wet) .none kV__law_wet dc__law_wet pm__law_wet an__law_wet cd__law_wet ct__law_wet), sl__law_wet⟩) (c__law_wet : PySem.W.codeIn K cd__law_wet "_law_wet" = true) (k__law_wet : PySem.W.keepIn K (.ref f__law_wet) = true)
    (a__law_drained : PySem.W.nsIn K mainGlobals "_law_drained" = some (some (.ref f__law_drained))) (l__law_drained : K.lookup f__law_drained = some ⟨oc__law_drained, od__law_drained, .func (PySem.W.fnOf "_law_drained" "_law_drained" (defArgs s__law_drained) (defBody s__law_drained) (defScope s__law_drained) .none kV__law_drained dc__law_drained pm__law_drained an__law_drained cd__law_drained ct__law_drained), sl__law_drained⟩) (c__law_drained : PySem.W.codeIn K cd__law_drained "_law_drained" = true) (k__law_drained : PySem.W.keepIn K (.ref f__law_drained) = true)
    (a__law_inside : PySem.W.nsIn K mainGlobals "_law_inside" = some (some (.ref f__law_inside))) (l__law_inside : K.lookup f__law_inside = some ⟨oc__law_inside, od__law_inside, .func (PySem.W.fnOf "_law_inside" "_law_inside" (defArgs s__law_inside) (defBody s__law_inside) (defScope s__law_inside) .none kV__law_inside dc__law_inside pm__law_inside an__law_inside cd__law_inside ct__law_inside), sl__law_inside⟩) (c__law_inside : PySem.W.codeIn K cd__law_inside "_law_inside" = true) (k__law_inside : PySem.W.keepIn K (.ref f__law_inside) = true)
    (a__law_ring_right : PySem.W.nsIn K mainGlobals "_law_ring_right" = some (some (.ref f__law_ring_right))) (l__law_ring_right : K.lookup f__law_ring_right = some ⟨oc__law_ring_right, od__law_ring_right, .func (PySem.W.fnOf "_law_ring_right" "_law_ring_right" (defArgs s__law_ring_right) (defBody s__law_ring_right) (defScope s__law_ring_right) .none kV__law_ring_right dc__law_ring_right pm__law_ring_right an__law_ring_right cd__law_ring_right ct__law_ring_right), sl__law_ring_right⟩) (c__law_ring_right : PySem.W.codeIn K cd__law_ring_right "_law_ring_right" = true) (k__law_ring_right : PySem.W.keepIn K (.ref f__law_ring_right) = true)
    (a__law_holds : PySem.W.nsIn K mainGlobals "_law_holds" = some (some (.ref f__law_holds))) (l__law_holds : K.lookup f__law_holds = some ⟨oc__law_holds, od__law_holds, .func (PySem.W.fnOf "_law_holds" "_law_holds" (defArgs s__law_holds) (defBody s__law_holds) (defScope s__law_holds) .none kV__law_holds dc__law_holds pm__law_holds an__law_holds cd__law_holds ct__law_holds), sl__law_holds⟩) (c__law_holds : PySem.W.codeIn K cd__law_holds "_law_holds" = true) (k__law_holds : PySem.W.keepIn K (.ref f__law_holds) = true)
    (a__law_pick : PySem.W.nsIn K mainGlobals "_law_pick" = some (some (.ref f__law_pick))) (l__law_pick : K.lookup f__law_pick = some ⟨oc__law_pick, od__law_pick, .func (PySem.W.fnOf "_law_pick" "_law_pick" (defArgs s__law_pick) (defBody s__law_pick) (defScope s__law_pick) .none kV__law_pick dc__law_pick pm__law_pick an__law_pick cd__law_pick ct__law_pick), sl__law_pick⟩) (c__law_pick : PySem.W.codeIn K cd__law_pick "_law_pick" = true) (k__law_pick : PySem.W.keepIn K (.ref f__law_pick) = true)
    (a__law_relief : PySem.W.nsIn K mainGlobals "_law_relief" = some (some (.ref f__law_relief))) (l__law_relief : K.lookup f__law_relief = some ⟨oc__law_relief, od__law_relief, .func (PySem.W.fnOf "_law_relief" "_law_relief" (defArgs s__law_relief) (defBody s__law_relief) (defScope s__law_relief) .none kV__law_relief dc__law_relief pm__law_relief an__law_relief cd__law_relief ct__law_relief), sl__law_relief⟩) (c__law_relief : PySem.W.codeIn K cd__law_relief "_law_relief" = true) (k__law_relief : PySem.W.keepIn K (.ref f__law_relief) = true)
    (a__law_square : PySem.W.nsIn K mainGlobals "_law_square" = some (some (.ref f__law_square))) (l__law_square : K.lookup f__law_square = some ⟨oc__law_square, od__law_square, .func (PySem.W.fnOf "_law_square" "_law_square" (defArgs s__law_square) (defBody s__law_square) (defScope s__law_square) .none kV__law_square dc__law_square pm__law_square an__law_square cd__law_square ct__law_square), sl__law_square⟩) (c__law_square : PySem.W.codeIn K cd__law_square "_law_square" = true) (k__law_square : PySem.W.keepIn K (.ref f__law_square) = true)
    (a_law : PySem.W.nsIn K mainGlobals "law" = some (some (.ref f_law))) (l_law : K.lookup f_law = some ⟨oc_law, od_law, .func (PySem.W.fnOf "law" "law" (defArgs s_law) (defBody s_law) (defScope s_law) .none kV_law dc_law pm_law an_law cd_law ct_law), sl_law⟩) (c_law : PySem.W.codeIn K cd_law "law" = true) (k_law : PySem.W.keepIn K (.ref f_law) = true)
    (z_len : PySem.W.nsIn K mainGlobals "len" = some none)
    (z_range : PySem.W.nsIn K mainGlobals "range" = some none)
    (z_abs : PySem.W.nsIn K mainGlobals "abs" = some none)
    (z_int : PySem.W.nsIn K mainGlobals "int" = some none)
    (z_bool : PySem.W.nsIn K mainGlobals "bool" = some none)
    (z_sum : PySem.W.nsIn K mainGlobals "sum" = some none)
    (z_min : PySem.W.nsIn K mainGlobals "min" = some none)
    (z_max : PySem.W.nsIn K mainGlobals "max" = some none)
    (z_tuple : PySem.W.nsIn K mainGlobals "tuple" = some none)
    (z_isinstance : PySem.W.nsIn K mainGlobals "isinstance" = some none)
    (z_str : PySem.W.nsIn K mainGlobals "str" = some none)
    (z_list : PySem.W.nsIn K mainGlobals "list" = some none)
    (z_sorted : PySem.W.nsIn K mainGlobals "sorted" = some none)
    {t_LAND : Tok} (y_LAND : PySem.W.nsIn K mainGlobals "LAND" = some (some (.str "x" t_LAND)))
    {t_WATER : Tok} (y_WATER : PySem.W.nsIn K mainGlobals "WATER" = some (some (.str "." t_WATER)))
    {t_DIGITS : Tok} (y_DIGITS : PySem.W.nsIn K mainGlobals "DIGITS" = some (some (.str "0123456789" t_DIGITS)))
    : ∃ fd : FuncData, (∀ (s : Shared) (v : Value), BindsTo s fd ⟨[v], []⟩ [("script", v)]) ∧ ∀ base : Heap, K.In base → base.Ns mainGlobals mg → FnOk l.prog w K mg base CX0 11 fa fd ["script"] (sp_law K) := by
  have e := hfa.symm.trans (PySem.W.mg_of X G a_law)
  cases e
  have T : Glb mg := ⟨PySem.W.mg_none_of X G z_len, PySem.W.mg_none_of X G z_range, PySem.W.mg_none_of X G z_abs, PySem.W.mg_none_of X G z_int, PySem.W.mg_none_of X G z_bool, PySem.W.mg_none_of X G z_sum, PySem.W.mg_none_of X G z_min, PySem.W.mg_none_of X G z_max, PySem.W.mg_none_of X G z_tuple, PySem.W.mg_none_of X G z_isinstance, PySem.W.mg_none_of X G z_str, PySem.W.mg_none_of X G z_list, PySem.W.mg_none_of X G z_sorted, ⟨_, PySem.W.mg_of X G y_LAND⟩, ⟨_, PySem.W.mg_of X G y_WATER⟩, ⟨_, PySem.W.mg_of X G y_DIGITS⟩⟩
  have A__law_take : At K mg "_law_take" s__law_take P__law_take := ⟨f__law_take, _, PySem.W.mg_of X G a__law_take, fun_mk (st := s__law_take) l__law_take c__law_take k__law_take, (fun_mk (st := s__law_take) l__law_take c__law_take k__law_take).binds (ps := P__law_take) fun _ _ _ _ _ _ us hl => match us, hl with | [_, _], _ => rfl⟩
  have A__law_deal : At K mg "_law_deal" s__law_deal P__law_deal := ⟨f__law_deal, _, PySem.W.mg_of X G a__law_deal, fun_mk (st := s__law_deal) l__law_deal c__law_deal k__law_deal, (fun_mk (st := s__law_deal) l__law_deal c__law_deal k__law_deal).binds (ps := P__law_deal) fun _ _ _ _ _ _ us hl => match us, hl with | [_], _ => rfl⟩
  have A_is_square : At K mg "is_square" s_is_square P_is_square := ⟨f_is_square, _, PySem.W.mg_of X G a_is_square, fun_mk (st := s_is_square) l_is_square c_is_square k_is_square, (fun_mk (st := s_is_square) l_is_square c_is_square k_is_square).binds (ps := P_is_square) fun _ _ _ _ _ _ us hl => match us, hl with | [_, _], _ => rfl⟩
  have A_is_land : At K mg "is_land" s_is_land P_is_land := ⟨f_is_land, _, PySem.W.mg_of X G a_is_land, fun_mk (st := s_is_land) l_is_land c_is_land k_is_land, (fun_mk (st := s_is_land) l_is_land c_is_land k_is_land).binds (ps := P_is_land) fun _ _ _ _ _ _ us hl => match us, hl with | [_, _], _ => rfl⟩
  have A_squares_of : At K mg "squares_of" s_squares_of P_squares_of := ⟨f_squares_of, _, PySem.W.mg_of X G a_squares_of, fun_mk (st := s_squares_of) l_squares_of c_squares_of k_squares_of, (fun_mk (st := s_squares_of) l_squares_of c_squares_of k_squares_of).binds (ps := P_squares_of) fun _ _ _ _ _ _ us hl => match us, hl with | [_], _ => rfl⟩
  have A_margin_squares : At K mg "margin_squares" s_margin_squares P_margin_squares := ⟨f_margin_squares, _, PySem.W.mg_of X G a_margin_squares, fun_mk (st := s_margin_squares) l_margin_squares c_margin_squares k_margin_squares, (fun_mk (st := s_margin_squares) l_margin_squares c_margin_squares k_margin_squares).binds (ps := P_margin_squares) fun _ _ _ _ _ _ us hl => match us, hl with | [_], _ => rfl⟩
  have A_side_neighbours : At K mg "side_neighbours" s_side_neighbours P_side_neighbours := ⟨f_side_neighbours, _, PySem.W.mg_of X G a_side_neighbours, fun_mk (st := s_side_neighbours) l_side_neighbours c_side_neighbours k_side_neighbours, (fun_mk (st := s_side_neighbours) l_side_neighbours c_side_neighbours k_side_neighbours).binds (ps := P_side_neighbours) fun _ _ _ _ _ _ us hl => match us, hl with | [_], _ => rfl⟩
  have A_neighbours : At K mg "neighbours" s_neighbours P_neighbours := ⟨f_neighbours, _, PySem.W.mg_of X G a_neighbours, fun_mk (st := s_neighbours) l_neighbours c_neighbours k_neighbours, (fun_mk (st := s_neighbours) l_neighbours c_neighbours k_neighbours).binds (ps := P_neighbours) fun _ _ _ _ _ _ us hl => match us, hl with | [_], _ => rfl⟩
  have A_is_near : At K mg "is_near" s_is_near P_is_near := ⟨f_is_near, _, PySem.W.mg_of X G a_is_near, fun_mk (st := s_is_near) l_is_near c_is_near k_is_near, (fun_mk (st := s_is_near) l_is_near c_is_near k_is_near).binds (ps := P_is_near) fun _ _ _ _ _ _ us hl => match us, hl with | [_, _], _ => rfl⟩
  have A_is_near_water : At K mg "is_near_water" s_is_near_water P_is_near_water := ⟨f_is_near_water, _, PySem.W.mg_of X G a_is_near_water, fun_mk (st := s_is_near_water) l_is_near_water c_is_near_water k_is_near_water, (fun_mk (st := s_is_near_water) l_is_near_water c_is_near_water k_is_near_water).binds (ps := P_is_near_water) fun _ _ _ _ _ _ us hl => match us, hl with | [_, _], _ => rfl⟩
  have A_water_squares : At K mg "water_squares" s_water_squares P_water_squares := ⟨f_water_squares, _, PySem.W.mg_of X G a_water_squares, fun_mk (st := s_water_squares) l_water_squares c_water_squares k_water_squares, (fun_mk (st := s_water_squares) l_water_squares c_water_squares k_water_squares).binds (ps := P_water_squares) fun _ _ _ _ _ _ us hl => match us, hl with | [_], _ => rfl⟩
  have A_water_steps : At K mg "water_steps" s_water_steps P_water_steps := ⟨f_water_steps, _, PySem.W.mg_of X G a_water_steps, fun_mk (st := s_water_steps) l_water_steps c_water_steps k_water_steps, (fun_mk (st := s_water_steps) l_water_steps c_water_steps k_water_steps).binds (ps := P_water_steps) fun _ _ _ _ _ _ us hl => match us, hl with | [_, _], _ => rfl⟩
  have A_met_from : At K mg "met_from" s_met_from P_met_from := ⟨f_met_from, _, PySem.W.mg_of X G a_met_from, fun_mk (st := s_met_from) l_met_from c_met_from k_met_from, (fun_mk (st := s_met_from) l_met_from c_met_from k_met_from).binds (ps := P_met_from) fun _ _ _ _ _ _ us hl => match us, hl with | [_, _, _], _ => rfl⟩
  have A_regions_of : At K mg "regions_of" s_regions_of P_regions_of := ⟨f_regions_of, _, PySem.W.mg_of X G a_regions_of, fun_mk (st := s_regions_of) l_regions_of c_regions_of k_regions_of, (fun_mk (st := s_regions_of) l_regions_of c_regions_of k_regions_of).binds (ps := P_regions_of) fun _ _ _ _ _ _ us hl => match us, hl with | [_, _, _], _ => rfl⟩
  have A_waters : At K mg "waters" s_waters P_waters := ⟨f_waters, _, PySem.W.mg_of X G a_waters, fun_mk (st := s_waters) l_waters c_waters k_waters, (fun_mk (st := s_waters) l_waters c_waters k_waters).binds (ps := P_waters) fun _ _ _ _ _ _ us hl => match us, hl with | [_], _ => rfl⟩
  have A_lakes : At K mg "lakes" s_lakes P_lakes := ⟨f_lakes, _, PySem.W.mg_of X G a_lakes, fun_mk (st := s_lakes) l_lakes c_lakes k_lakes, (fun_mk (st := s_lakes) l_lakes c_lakes k_lakes).binds (ps := P_lakes) fun _ _ _ _ _ _ us hl => match us, hl with | [_], _ => rfl⟩
  have A_drains : At K mg "drains" s_drains P_drains := ⟨f_drains, _, PySem.W.mg_of X G a_drains, fun_mk (st := s_drains) l_drains c_drains k_drains, (fun_mk (st := s_drains) l_drains c_drains k_drains).binds (ps := P_drains) fun _ _ _ _ _ _ us hl => match us, hl with | [_, _], _ => rfl⟩
  have A_above : At K mg "above" s_above P_above := ⟨f_above, _, PySem.W.mg_of X G a_above, fun_mk (st := s_above) l_above c_above k_above, (fun_mk (st := s_above) l_above c_above k_above).binds (ps := P_above) fun _ _ _ _ _ _ us hl => match us, hl with | [_], _ => rfl⟩
  have A_next_shore : At K mg "next_shore" s_next_shore P_next_shore := ⟨f_next_shore, _, PySem.W.mg_of X G a_next_shore, fun_mk (st := s_next_shore) l_next_shore c_next_shore k_next_shore, (fun_mk (st := s_next_shore) l_next_shore c_next_shore k_next_shore).binds (ps := P_next_shore) fun _ _ _ _ _ _ us hl => match us, hl with | [_, _], _ => rfl⟩
  have A_shores_from : At K mg "shores_from" s_shores_from P_shores_from := ⟨f_shores_from, _, PySem.W.mg_of X G a_shores_from, fun_mk (st := s_shores_from) l_shores_from c_shores_from k_shores_from, (fun_mk (st := s_shores_from) l_shores_from c_shores_from k_shores_from).binds (ps := P_shores_from) fun _ _ _ _ _ _ us hl => match us, hl with | [_, _], _ => rfl⟩
  have A_lake_shores : At K mg "lake_shores" s_lake_shores P_lake_shores := ⟨f_lake_shores, _, PySem.W.mg_of X G a_lake_shores, fun_mk (st := s_lake_shores) l_lake_shores c_lake_shores k_lake_shores, (fun_mk (st := s_lake_shores) l_lake_shores c_lake_shores k_lake_shores).binds (ps := P_lake_shores) fun _ _ _ _ _ _ us hl => match us, hl with | [_, _], _ => rfl⟩
  have A_is_margin : At K mg "is_margin" s_is_margin P_is_margin := ⟨f_is_margin, _, PySem.W.mg_of X G a_is_margin, fun_mk (st := s_is_margin) l_is_margin c_is_margin k_is_margin, (fun_mk (st := s_is_margin) l_is_margin c_is_margin k_is_margin).binds (ps := P_is_margin) fun _ _ _ _ _ _ us hl => match us, hl with | [_, _], _ => rfl⟩
  have A_way_to : At K mg "way_to" s_way_to P_way_to := ⟨f_way_to, _, PySem.W.mg_of X G a_way_to, fun_mk (st := s_way_to) l_way_to c_way_to k_way_to, (fun_mk (st := s_way_to) l_way_to c_way_to k_way_to).binds (ps := P_way_to) fun _ _ _ _ _ _ us hl => match us, hl with | [_, _], _ => rfl⟩
  have A_water_way : At K mg "water_way" s_water_way P_water_way := ⟨f_water_way, _, PySem.W.mg_of X G a_water_way, fun_mk (st := s_water_way) l_water_way c_water_way k_water_way, (fun_mk (st := s_water_way) l_water_way c_water_way k_water_way).binds (ps := P_water_way) fun _ _ _ _ _ _ us hl => match us, hl with | [_, _], _ => rfl⟩
  have A_without_repeats : At K mg "without_repeats" s_without_repeats P_without_repeats := ⟨f_without_repeats, _, PySem.W.mg_of X G a_without_repeats, fun_mk (st := s_without_repeats) l_without_repeats c_without_repeats k_without_repeats, (fun_mk (st := s_without_repeats) l_without_repeats c_without_repeats k_without_repeats).binds (ps := P_without_repeats) fun _ _ _ _ _ _ us hl => match us, hl with | [_], _ => rfl⟩
  have A_ring_holding : At K mg "ring_holding" s_ring_holding P_ring_holding := ⟨f_ring_holding, _, PySem.W.mg_of X G a_ring_holding, fun_mk (st := s_ring_holding) l_ring_holding c_ring_holding k_ring_holding, (fun_mk (st := s_ring_holding) l_ring_holding c_ring_holding k_ring_holding).binds (ps := P_ring_holding) fun _ _ _ _ _ _ us hl => match us, hl with | [_, _], _ => rfl⟩
  have A_holding_ring : At K mg "holding_ring" s_holding_ring P_holding_ring := ⟨f_holding_ring, _, PySem.W.mg_of X G a_holding_ring, fun_mk (st := s_holding_ring) l_holding_ring c_holding_ring k_holding_ring, (fun_mk (st := s_holding_ring) l_holding_ring c_holding_ring k_holding_ring).binds (ps := P_holding_ring) fun _ _ _ _ _ _ us hl => match us, hl with | [_, _], _ => rfl⟩
  have A_height : At K mg "height" s_height P_height := ⟨f_height, _, PySem.W.mg_of X G a_height, fun_mk (st := s_height) l_height c_height k_height, (fun_mk (st := s_height) l_height c_height k_height).binds (ps := P_height) fun _ _ _ _ _ _ us hl => match us, hl with | [_, _], _ => rfl⟩
  have A_chart_at : At K mg "chart_at" s_chart_at P_chart_at := ⟨f_chart_at, _, PySem.W.mg_of X G a_chart_at, fun_mk (st := s_chart_at) l_chart_at c_chart_at k_chart_at, (fun_mk (st := s_chart_at) l_chart_at c_chart_at k_chart_at).binds (ps := P_chart_at) fun _ _ _ _ _ _ us hl => match us, hl with | [_, _], _ => rfl⟩
  have A_spill : At K mg "spill" s_spill P_spill := ⟨f_spill, _, PySem.W.mg_of X G a_spill, fun_mk (st := s_spill) l_spill c_spill k_spill, (fun_mk (st := s_spill) l_spill c_spill k_spill).binds (ps := P_spill) fun _ _ _ _ _ _ us hl => match us, hl with | [_, _], _ => rfl⟩
  have A_pool : At K mg "pool" s_pool P_pool := ⟨f_pool, _, PySem.W.mg_of X G a_pool, fun_mk (st := s_pool) l_pool c_pool k_pool, (fun_mk (st := s_pool) l_pool c_pool k_pool).binds (ps := P_pool) fun _ _ _ _ _ _ us hl => match us, hl with | [_, _], _ => rfl⟩
  have A_next_square : At K mg "next_square" s_next_square P_next_square := ⟨f_next_square, _, PySem.W.mg_of X G a_next_square, fun_mk (st := s_next_square) l_next_square c_next_square k_next_square, (fun_mk (st := s_next_square) l_next_square c_next_square k_next_square).binds (ps := P_next_square) fun _ _ _ _ _ _ us hl => match us, hl with | [_, _], _ => rfl⟩
  have A_course : At K mg "course" s_course P_course := ⟨f_course, _, PySem.W.mg_of X G a_course, fun_mk (st := s_course) l_course c_course k_course, (fun_mk (st := s_course) l_course c_course k_course).binds (ps := P_course) fun _ _ _ _ _ _ us hl => match us, hl with | [_, _], _ => rfl⟩
  have A__law_same : At K mg "_law_same" s__law_same P__law_same := ⟨f__law_same, _, PySem.W.mg_of X G a__law_same, fun_mk (st := s__law_same) l__law_same c__law_same k__law_same, (fun_mk (st := s__law_same) l__law_same c__law_same k__law_same).binds (ps := P__law_same) fun _ _ _ _ _ _ us hl => match us, hl with | [_, _], _ => rfl⟩
  have A__law_at : At K mg "_law_at" s__law_at P__law_at := ⟨f__law_at, _, PySem.W.mg_of X G a__law_at, fun_mk (st := s__law_at) l__law_at c__law_at k__law_at, (fun_mk (st := s__law_at) l__law_at c__law_at k__law_at).binds (ps := P__law_at) fun _ _ _ _ _ _ us hl => match us, hl with | [_, _, _], _ => rfl⟩
  have A__law_all : At K mg "_law_all" s__law_all P__law_all := ⟨f__law_all, _, PySem.W.mg_of X G a__law_all, fun_mk (st := s__law_all) l__law_all c__law_all k__law_all, (fun_mk (st := s__law_all) l__law_all c__law_all k__law_all).binds (ps := P__law_all) fun _ _ _ _ _ _ us hl => match us, hl with | [_], _ => rfl⟩
  have A__law_sides : At K mg "_law_sides" s__law_sides P__law_sides := ⟨f__law_sides, _, PySem.W.mg_of X G a__law_sides, fun_mk (st := s__law_sides) l__law_sides c__law_sides k__law_sides, (fun_mk (st := s__law_sides) l__law_sides c__law_sides k__law_sides).binds (ps := P__law_sides) fun _ _ _ _ _ _ us hl => match us, hl with | [_], _ => rfl⟩
  have A__law_around : At K mg "_law_around" s__law_around P__law_around := ⟨f__law_around, _, PySem.W.mg_of X G a__law_around, fun_mk (st := s__law_around) l__law_around c__law_around k__law_around, (fun_mk (st := s__law_around) l__law_around c__law_around k__law_around).binds (ps := P__law_around) fun _ _ _ _ _ _ us hl => match us, hl with | [_], _ => rfl⟩
  have A__law_spread : At K mg "_law_spread" s__law_spread P__law_spread := ⟨f__law_spread, _, PySem.W.mg_of X G a__law_spread, fun_mk (st := s__law_spread) l__law_spread c__law_spread k__law_spread, (fun_mk (st := s__law_spread) l__law_spread c__law_spread k__law_spread).binds (ps := P__law_spread) fun _ _ _ _ _ _ us hl => match us, hl with | [_, _, _], _ => rfl⟩
  have A__law_wet : At K mg "_law_wet" s__law_wet P__law_wet := ⟨f__law_wet, _, PySem.W.mg_of X G a__law_wet, fun_mk (st := s__law_wet) l__law_wet c__law_wet k__law_wet, (fun_mk (st := s__law_wet) l__law_wet c__law_wet k__law_wet).binds (ps := P__law_wet) fun _ _ _ _ _ _ us hl => match us, hl with | [_], _ => rfl⟩
  have A__law_drained : At K mg "_law_drained" s__law_drained P__law_drained := ⟨f__law_drained, _, PySem.W.mg_of X G a__law_drained, fun_mk (st := s__law_drained) l__law_drained c__law_drained k__law_drained, (fun_mk (st := s__law_drained) l__law_drained c__law_drained k__law_drained).binds (ps := P__law_drained) fun _ _ _ _ _ _ us hl => match us, hl with | [_, _], _ => rfl⟩
  have A__law_inside : At K mg "_law_inside" s__law_inside P__law_inside := ⟨f__law_inside, _, PySem.W.mg_of X G a__law_inside, fun_mk (st := s__law_inside) l__law_inside c__law_inside k__law_inside, (fun_mk (st := s__law_inside) l__law_inside c__law_inside k__law_inside).binds (ps := P__law_inside) fun _ _ _ _ _ _ us hl => match us, hl with | [_, _], _ => rfl⟩
  have A__law_ring_right : At K mg "_law_ring_right" s__law_ring_right P__law_ring_right := ⟨f__law_ring_right, _, PySem.W.mg_of X G a__law_ring_right, fun_mk (st := s__law_ring_right) l__law_ring_right c__law_ring_right k__law_ring_right, (fun_mk (st := s__law_ring_right) l__law_ring_right c__law_ring_right k__law_ring_right).binds (ps := P__law_ring_right) fun _ _ _ _ _ _ us hl => match us, hl with | [_, _, _], _ => rfl⟩
  have A__law_holds : At K mg "_law_holds" s__law_holds P__law_holds := ⟨f__law_holds, _, PySem.W.mg_of X G a__law_holds, fun_mk (st := s__law_holds) l__law_holds c__law_holds k__law_holds, (fun_mk (st := s__law_holds) l__law_holds c__law_holds k__law_holds).binds (ps := P__law_holds) fun _ _ _ _ _ _ us hl => match us, hl with | [_, _, _], _ => rfl⟩
  have A__law_pick : At K mg "_law_pick" s__law_pick P__law_pick := ⟨f__law_pick, _, PySem.W.mg_of X G a__law_pick, fun_mk (st := s__law_pick) l__law_pick c__law_pick k__law_pick, (fun_mk (st := s__law_pick) l__law_pick c__law_pick k__law_pick).binds (ps := P__law_pick) fun _ _ _ _ _ _ us hl => match us, hl with | [_, _], _ => rfl⟩
  have A__law_relief : At K mg "_law_relief" s__law_relief P__law_relief := ⟨f__law_relief, _, PySem.W.mg_of X G a__law_relief, fun_mk (st := s__law_relief) l__law_relief c__law_relief k__law_relief, (fun_mk (st := s__law_relief) l__law_relief c__law_relief k__law_relief).binds (ps := P__law_relief) fun _ _ _ _ _ _ us hl => match us, hl with | [_, _], _ => rfl⟩
  have A__law_square : At K mg "_law_square" s__law_square P__law_square := ⟨f__law_square, _, PySem.W.mg_of X G a__law_square, fun_mk (st := s__law_square) l__law_square c__law_square k__law_square, (fun_mk (st := s__law_square) l__law_square c__law_square k__law_square).binds (ps := P__law_square) fun _ _ _ _ _ _ us hl => match us, hl with | [_, _], _ => rfl⟩
  refine ⟨PySem.W.fnOf "law" "law" (defArgs s_law) (defBody s_law) (defScope s_law) .none kV_law dc_law pm_law an_law cd_law ct_law, fun s v => .of_eq rfl, fun base _ _ => ?_⟩
  have H__law_take := ok__law_take (P := l.prog) (w := w) (base := base) A__law_take T
  have H__law_deal := ok__law_deal (P := l.prog) (w := w) (base := base) deal_plain A__law_deal T
  have H_is_square := ok_is_square (P := l.prog) (w := w) (base := base) A_is_square T
  have H_is_land := ok_is_land (P := l.prog) (w := w) (base := base) A_is_land T H_is_square
  have H_squares_of := ok_squares_of (P := l.prog) (w := w) (base := base) A_squares_of T
  have H_margin_squares := ok_margin_squares (P := l.prog) (w := w) (base := base) A_margin_squares T H_is_square
  have H_side_neighbours := ok_side_neighbours (P := l.prog) (w := w) (base := base) A_side_neighbours T
  have H_neighbours := ok_neighbours (P := l.prog) (w := w) (base := base) A_neighbours T
  have H_is_near := ok_is_near (P := l.prog) (w := w) (base := base) A_is_near T
  have H_is_near_water := ok_is_near_water (P := l.prog) (w := w) (base := base) A_is_near_water T H_is_land H_is_near
  have H_water_squares := ok_water_squares (P := l.prog) (w := w) (base := base) A_water_squares T H_is_land H_margin_squares H_squares_of
  have H_water_steps := ok_water_steps (P := l.prog) (w := w) (base := base) A_water_steps T H_is_near_water H_neighbours
  have H_met_from := ok_met_from (P := l.prog) (w := w) (base := base) A_met_from T
  have H_regions_of := ok_regions_of (P := l.prog) (w := w) (base := base) A_regions_of T H_met_from
  have H_waters := ok_waters (P := l.prog) (w := w) (base := base) A_waters T H_regions_of H_water_squares H_water_steps
  have H_lakes := ok_lakes (P := l.prog) (w := w) (base := base) A_lakes T H_waters
  have H_drains := ok_drains (P := l.prog) (w := w) (base := base) A_drains T H_met_from H_water_steps
  have H_above := ok_above (P := l.prog) (w := w) (base := base) A_above T
  have H_next_shore := ok_next_shore (P := l.prog) (w := w) (base := base) A_next_shore T H_is_land
  have H_shores_from := ok_shores_from (P := l.prog) (w := w) (base := base) A_shores_from T H_next_shore
  have H_lake_shores := ok_lake_shores (P := l.prog) (w := w) (base := base) A_lake_shores T H_above H_shores_from
  have H_is_margin := ok_is_margin (P := l.prog) (w := w) (base := base) A_is_margin T H_is_near H_is_square
  have H_way_to := ok_way_to (P := l.prog) (w := w) (base := base) A_way_to T
  have H_water_way := ok_water_way (P := l.prog) (w := w) (base := base) A_water_way T H_is_margin H_met_from H_water_steps H_way_to
  have H_without_repeats := ok_without_repeats (P := l.prog) (w := w) (base := base) A_without_repeats T
  have H_ring_holding := ok_ring_holding (P := l.prog) (w := w) (base := base) A_ring_holding T H_lake_shores H_without_repeats
  have H_holding_ring := ok_holding_ring (P := l.prog) (w := w) (base := base) A_holding_ring T H_lakes H_ring_holding
  have H_height := ok_height (P := l.prog) (w := w) (base := base) A_height T
  have H_chart_at := ok_chart_at (P := l.prog) (w := w) (base := base) A_chart_at T
  have H_spill := ok_spill (P := l.prog) (w := w) (base := base) A_spill T H_chart_at H_drains H_height
  have H_pool := ok_pool (P := l.prog) (w := w) (base := base) A_pool T H_height H_spill
  have H_next_square := ok_next_square (P := l.prog) (w := w) (base := base) A_next_square T H_height H_is_square H_side_neighbours
  have H_course := ok_course (P := l.prog) (w := w) (base := base) A_course T H_next_square
  have H__law_same := ok__law_same (P := l.prog) (w := w) (base := base) A__law_same T 6
  have H__law_at := ok__law_at (P := l.prog) (w := w) (base := base) A__law_at T
  have H__law_all := ok__law_all (P := l.prog) (w := w) (base := base) A__law_all T
  have H__law_sides := ok__law_sides (P := l.prog) (w := w) (base := base) A__law_sides T
  have H__law_around := ok__law_around (P := l.prog) (w := w) (base := base) A__law_around T
  have H__law_spread := ok__law_spread (P := l.prog) (w := w) (base := base) A__law_spread T H__law_around H__law_sides
  have H__law_wet := ok__law_wet (P := l.prog) (w := w) (base := base) A__law_wet T H__law_at
  have H__law_drained := ok__law_drained (P := l.prog) (w := w) (base := base) A__law_drained T H__law_spread H__law_wet
  have H__law_inside := ok__law_inside (P := l.prog) (w := w) (base := base) A__law_inside T
  have H__law_ring_right := ok__law_ring_right (P := l.prog) (w := w) (base := base) A__law_ring_right T H__law_around H__law_at H__law_sides
  have H__law_holds := ok__law_holds (P := l.prog) (w := w) (base := base) A__law_holds T H__law_inside H__law_ring_right
  have H__law_pick := ok__law_pick (P := l.prog) (w := w) (base := base) A__law_pick T H__law_take
  have H__law_relief := ok__law_relief (P := l.prog) (w := w) (base := base) A__law_relief T H__law_take
  have H__law_square := ok__law_square (P := l.prog) (w := w) (base := base) A__law_square T H__law_drained H__law_holds H__law_same H_chart_at H_drains H_holding_ring H_pool H_spill H_water_way
  exact ok_law law_plain (fun_mk (st := s_law) l_law c_law k_law) T H__law_all H__law_around H__law_deal H__law_pick H__law_relief H__law_square H_course H_height H_next_square H_spill
theorem walk {l : PySem.W.OpenLaw} {q : Program} {loose : List Str} {XP : (Str → Option Value) → Heap → Prop} {YP : World → Heap → Prop} {d : DefRec} {K : Params → PySem.W.Frag} (hn : l.most = some 63) (hdf : d.params.defaults = [])
    (hY : ∀ (w : World) (h : Heap), YP w h → (K w.params).In h)
    (F : ∀ (w : World) (mg : Str → Option Value) (fa : Addr) (h : Heap), (K w.params).In h → h.Ns mainGlobals mg → mg d.name = some (.ref fa) →
      ∃ fd : FuncData, (∀ (s : Shared) (u : Value), BindsTo s fd ⟨[u], []⟩ [("script", u)]) ∧ ∀ base : Heap, (K w.params).In base → base.Ns mainGlobals mg → FnOk l.prog w (K w.params) mg base CX0 11 fa fd ["script"] (sp_law (K w.params))) :
    PySem.W.WalkO q loose XP YP l.row.toRowW d [] (fun f vs => PySem.call f vs) :=
  L2.walk_of (n := 63) (k := 11) (x := "script") (CX := fun _ => CX0) (sp := fun w => sp_law (K w.params)) hn (by decide) hdf ⟨rfl, by decide, by decide⟩ hY F (fun _ _ a ns hl _ hS => ⟨a, ns, rfl, hS, hl, fun _ => rfl⟩) fun _ _ _ _ _ z => z
end
end W
open PySem PySem.W PyProof.Rows
set_option maxRecDepth 100000 in
set_option maxHeartbeats 0 in
theorem PySem.Challenge.cw_landandwater_k90_whole_spills_and_drains_holds : PySem.Challenge.rw_landandwater_k90_whole_spills_and_drains.Holds := by
  w_on; o_law; k_head; (case hw => w_witness2)
  k_fill
  refine W.walk (l := PySem.Challenge.rw_landandwater_k90_whole_spills_and_drains) rfl rfl (fun w h Y => PySem.W.kIn_of Y) ?F
  case F =>
    intro w mg fa h KX G hmg
    refine' W.all_mk KX G hmg ?a__law_take ?l__law_take ?c__law_take ?k__law_take ?a__law_deal ?l__law_deal ?c__law_deal ?k__law_deal ?a_is_square ?l_is_square ?c_is_square ?k_is_square ?a_is_land ?l_is_land ?c_is_land ?k_is_land ?a_squares_of ?l_squares_of ?c_squares_of ?k_squares_of ?a_margin_squares ?l_margin_squares ?c_margin_squares ?k_margin_squares ?a_side_neighbours ?l_side_neighbours ?c_side_neighbours ?k_side_neighbours ?a_neighbours ?l_neighbours ?c_neighbours ?k_neighbours ?a_is_near ?l_is_near ?c_is_near ?k_is_near ?a_is_near_water ?l_is_near_water ?c_is_near_water ?k_is_near_water ?a_water_squares ?l_water_squares ?c_water_squares ?k_water_squares ?a_water_steps ?l_water_steps ?c_water_steps ?k_water_steps ?a_met_from ?l_met_from ?c_met_from ?k_met_from ?a_regions_of ?l_regions_of ?c_regions_of ?k_regions_of ?a_waters ?l_waters ?c_waters ?k_waters ?a_lakes ?l_lakes ?c_lakes ?k_lakes ?a_drains ?l_drains ?c_drains ?k_drains ?a_above ?l_above ?c_above ?k_above ?a_next_shore ?l_next_shore ?c_next_shore ?k_next_shore ?a_shores_from ?l_shores_from ?c_shores_from ?k_shores_from ?a_lake_shores ?l_lake_shores ?c_lake_shores ?k_lake_shores ?a_is_margin ?l_is_margin ?c_is_margin ?k_is_margin ?a_way_to ?l_way_to ?c_way_to ?k_way_to ?a_water_way ?l_water_way ?c_water_way ?k_water_way ?a_without_repeats ?l_without_repeats ?c_without_repeats ?k_without_repeats ?a_ring_holding ?l_ring_holding ?c_ring_holding ?k_ring_holding ?a_holding_ring ?l_holding_ring ?c_holding_ring ?k_holding_ring ?a_height ?l_height ?c_height ?k_height ?a_chart_at ?l_chart_at ?c_chart_at ?k_chart_at ?a_spill ?l_spill ?c_spill ?k_spill ?a_pool ?l_pool ?c_pool ?k_pool ?a_next_square ?l_next_square ?c_next_square ?k_next_square ?a_course ?l_course ?c_course ?k_course ?a__law_same ?l__law_same ?c__law_same ?k__law_same ?a__law_at ?l__law_at ?c__law_at ?k__law_at ?a__law_all ?l__law_all ?c__law_all ?k__law_all ?a__law_sides ?l__law_sides ?c__law_sides ?k__law_sides ?a__law_around ?l__law_around ?c__law_around ?k__law_around ?a__law_spread ?l__law_spread ?c__law_spread ?k__law_spread ?a__law_wet ?l__law_wet ?c__law_wet ?k__law_wet ?a__law_drained ?l__law_drained ?c__law_drained ?k__law_drained ?a__law_inside ?l__law_inside ?c__law_inside ?k__law_inside ?a__law_ring_right ?l__law_ring_right ?c__law_ring_right ?k__law_ring_right ?a__law_holds ?l__law_holds ?c__law_holds ?k__law_holds ?a__law_pick ?l__law_pick ?c__law_pick ?k__law_pick ?a__law_relief ?l__law_relief ?c__law_relief ?k__law_relief ?a__law_square ?l__law_square ?c__law_square ?k__law_square ?a_law ?l_law ?c_law ?k_law ?z_len ?z_range ?z_abs ?z_int ?z_bool ?z_sum ?z_min ?z_max ?z_tuple ?z_isinstance ?z_str ?z_list ?z_sorted ?y_LAND ?y_WATER ?y_DIGITS
    (case a__law_take => k_is)
    (case l__law_take => k_is)
    (case c__law_take => k_is)
    (case k__law_take => k_is)
    (case a__law_deal => k_is)
    (case l__law_deal => k_is)
    (case c__law_deal => k_is)
    (case k__law_deal => k_is)
    (case a_is_square => k_is)
    (case l_is_square => k_is)
    (case c_is_square => k_is)
    (case k_is_square => k_is)
    (case a_is_land => k_is)
    (case l_is_land => k_is)
    (case c_is_land => k_is)
    (case k_is_land => k_is)
    (case a_squares_of => k_is)
    (case l_squares_of => k_is)
    (case c_squares_of => k_is)
    (case k_squares_of => k_is)
    (case a_margin_squares => k_is)
    (case l_margin_squares => k_is)
    (case c_margin_squares => k_is)
    (case k_margin_squares => k_is)
    (case a_side_neighbours => k_is)
    (case l_side_neighbours => k_is)
    (case c_side_neighbours => k_is)
    (case k_side_neighbours => k_is)
    (case a_neighbours => k_is)
    (case l_neighbours => k_is)
    (case c_neighbours => k_is)
    (case k_neighbours => k_is)
    (case a_is_near => k_is)
    (case l_is_near => k_is)
    (case c_is_near => k_is)
    (case k_is_near => k_is)
    (case a_is_near_water => k_is)
    (case l_is_near_water => k_is)
    (case c_is_near_water => k_is)
    (case k_is_near_water => k_is)
    (case a_water_squares => k_is)
    (case l_water_squares => k_is)
    (case c_water_squares => k_is)
    (case k_water_squares => k_is)
    (case a_water_steps => k_is)
    (case l_water_steps => k_is)
    (case c_water_steps => k_is)
    (case k_water_steps => k_is)
    (case a_met_from => k_is)
    (case l_met_from => k_is)
    (case c_met_from => k_is)
    (case k_met_from => k_is)
    (case a_regions_of => k_is)
    (case l_regions_of => k_is)
    (case c_regions_of => k_is)
    (case k_regions_of => k_is)
    (case a_waters => k_is)
    (case l_waters => k_is)
    (case c_waters => k_is)
    (case k_waters => k_is)
    (case a_lakes => k_is)
    (case l_lakes => k_is)
    (case c_lakes => k_is)
    (case k_lakes => k_is)
    (case a_drains => k_is)
    (case l_drains => k_is)
    (case c_drains => k_is)
    (case k_drains => k_is)
    (case a_above => k_is)
    (case l_above => k_is)
    (case c_above => k_is)
    (case k_above => k_is)
    (case a_next_shore => k_is)
    (case l_next_shore => k_is)
    (case c_next_shore => k_is)
    (case k_next_shore => k_is)
    (case a_shores_from => k_is)
    (case l_shores_from => k_is)
    (case c_shores_from => k_is)
    (case k_shores_from => k_is)
    (case a_lake_shores => k_is)
    (case l_lake_shores => k_is)
    (case c_lake_shores => k_is)
    (case k_lake_shores => k_is)
    (case a_is_margin => k_is)
    (case l_is_margin => k_is)
    (case c_is_margin => k_is)
    (case k_is_margin => k_is)
    (case a_way_to => k_is)
    (case l_way_to => k_is)
    (case c_way_to => k_is)
    (case k_way_to => k_is)
    (case a_water_way => k_is)
    (case l_water_way => k_is)
    (case c_water_way => k_is)
    (case k_water_way => k_is)
    (case a_without_repeats => k_is)
    (case l_without_repeats => k_is)
    (case c_without_repeats => k_is)
    (case k_without_repeats => k_is)
    (case a_ring_holding => k_is)
    (case l_ring_holding => k_is)
    (case c_ring_holding => k_is)
    (case k_ring_holding => k_is)
    (case a_holding_ring => k_is)
    (case l_holding_ring => k_is)
    (case c_holding_ring => k_is)
    (case k_holding_ring => k_is)
    (case a_height => k_is)
    (case l_height => k_is)
    (case c_height => k_is)
    (case k_height => k_is)
    (case a_chart_at => k_is)
    (case l_chart_at => k_is)
    (case c_chart_at => k_is)
    (case k_chart_at => k_is)
    (case a_spill => k_is)
    (case l_spill => k_is)
    (case c_spill => k_is)
    (case k_spill => k_is)
    (case a_pool => k_is)
    (case l_pool => k_is)
    (case c_pool => k_is)
    (case k_pool => k_is)
    (case a_next_square => k_is)
    (case l_next_square => k_is)
    (case c_next_square => k_is)
    (case k_next_square => k_is)
    (case a_course => k_is)
    (case l_course => k_is)
    (case c_course => k_is)
    (case k_course => k_is)
    (case a__law_same => k_is)
    (case l__law_same => k_is)
    (case c__law_same => k_is)
    (case k__law_same => k_is)
    (case a__law_at => k_is)
    (case l__law_at => k_is)
    (case c__law_at => k_is)
    (case k__law_at => k_is)
    (case a__law_all => k_is)
    (case l__law_all => k_is)
    (case c__law_all => k_is)
    (case k__law_all => k_is)
    (case a__law_sides => k_is)
    (case l__law_sides => k_is)
    (case c__law_sides => k_is)
    (case k__law_sides => k_is)
    (case a__law_around => k_is)
    (case l__law_around => k_is)
    (case c__law_around => k_is)
    (case k__law_around => k_is)
    (case a__law_spread => k_is)
    (case l__law_spread => k_is)
    (case c__law_spread => k_is)
    (case k__law_spread => k_is)
    (case a__law_wet => k_is)
    (case l__law_wet => k_is)
    (case c__law_wet => k_is)
    (case k__law_wet => k_is)
    (case a__law_drained => k_is)
    (case l__law_drained => k_is)
    (case c__law_drained => k_is)
    (case k__law_drained => k_is)
    (case a__law_inside => k_is)
    (case l__law_inside => k_is)
    (case c__law_inside => k_is)
    (case k__law_inside => k_is)
    (case a__law_ring_right => k_is)
    (case l__law_ring_right => k_is)
    (case c__law_ring_right => k_is)
    (case k__law_ring_right => k_is)
    (case a__law_holds => k_is)
    (case l__law_holds => k_is)
    (case c__law_holds => k_is)
    (case k__law_holds => k_is)
    (case a__law_pick => k_is)
    (case l__law_pick => k_is)
    (case c__law_pick => k_is)
    (case k__law_pick => k_is)
    (case a__law_relief => k_is)
    (case l__law_relief => k_is)
    (case c__law_relief => k_is)
    (case k__law_relief => k_is)
    (case a__law_square => k_is)
    (case l__law_square => k_is)
    (case c__law_square => k_is)
    (case k__law_square => k_is)
    (case a_law => k_is)
    (case l_law => k_is)
    (case c_law => k_is)
    (case k_law => k_is)
    (case z_len => k_is)
    (case z_range => k_is)
    (case z_abs => k_is)
    (case z_int => k_is)
    (case z_bool => k_is)
    (case z_sum => k_is)
    (case z_min => k_is)
    (case z_max => k_is)
    (case z_tuple => k_is)
    (case z_isinstance => k_is)
    (case z_str => k_is)
    (case z_list => k_is)
    (case z_sorted => k_is)
    (case y_LAND => k_is)
    (case y_WATER => k_is)
    (case y_DIGITS => k_is)