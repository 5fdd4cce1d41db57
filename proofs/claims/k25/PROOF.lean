import PyProof.Rows.All
import Wide.All
import OpenK.AllK
import Wide.FinOn
import HandS.ForMost
import HandS.TupAny
import HandS.Conv
import HandS.IsInst
import HandS.Flow
import HandS.Small
import KE.KDictDisplayH
import PyProof.MaxThree
import HandS.NoneIn
import PySem.Challenge.RW_landandwater_k25_distances
set_option Elab.async false
set_option maxRecDepth 100000
set_option linter.all false
set_option maxHeartbeats 4000000
/-! The growth of the heap, data of Python as data of Lean, and what a reading evaluates to. -/
namespace Z
open PySem L2

/-! ### growth -/
def Tg (H H' : Hp) : Prop := ∀ a xs, H a = some (.tup xs) → H' a = some (.tup xs)
theorem Tg.refl (H : Hp) : Tg H H := fun _ _ h => h
theorem Tg.trans {H H1 H2 : Hp} (a : Tg H H1) (b : Tg H1 H2) : Tg H H2 := fun x o h => b x o (a x o h)
theorem Tg.upd {H : Hp} {a : Addr} {o u : HO} (h : H a = some o) (hn : ∀ xs, o ≠ .tup xs) : Tg H (L2.upd H a u) := fun b xs e => by
  have : b ≠ a := fun z => by rw [z, h] at e; exact hn xs (Option.some.inj e)
  rw [upd_ne this]; exact e
theorem Tg.new {H : Hp} {a : Addr} {u : HO} (h : H a = none) : Tg H (L2.upd H a u) := fun b xs e => by
  rw [upd_ne (ne_of_none e h)]; exact e
theorem same_new {H : Hp} {a : Addr} {u : HO} (h : H a = none) : Same H (upd H a u) := fun b xs e => by
  rw [upd_ne (ne_of_none e h)]; exact e

/-- what may change: S; how the heap grows in i draws: R i -/
structure Ef where
  S : Addr → Prop
  M : Nat
  R : Nat → Hp → Hp → Prop
  trans : ∀ {i j H1 H2 H3}, R i H1 H2 → R j H2 H3 → R (i + j) H1 H3
  mono : ∀ {i j H1 H2}, R i H1 H2 → i ≤ j → R j H1 H2
  ext : ∀ {H1 H2}, Same H1 H2 → R 0 H1 H2
  tup : ∀ {i H1 H2}, R i H1 H2 → Tg H1 H2
  oth : ∀ {i H1 H2}, R i H1 H2 → ∀ a o, H1 a = some o → ¬ S a → H2 a = some o
  chg : ∀ {i H1 H2 a o}, R i H1 H2 → H1 a = none → R i H1 (upd H2 a o)
  free : ∀ {i H1 H2 a}, R i H1 H2 → H2 a = none → H1 a = none
theorem Ef.refl (e : Ef) (H : Hp) : e.R 0 H H := e.ext (Same.refl H)
theorem Ef.tr0 (e : Ef) {i : Nat} {H1 H2 H3 : Hp} (a : e.R i H1 H2) (s : Same H2 H3) : e.R i H1 H3 := e.trans a (e.ext s)
theorem Ef.ext' (e : Ef) {k : Nat} {H1 H2 : Hp} (h : Same H1 H2) : e.R k H1 H2 := e.mono (e.ext h) (Nat.zero_le _)

def ef0 : Ef where
  S := fun _ => False
  M := 1000000
  R := fun _ => Same
  trans := fun a b => a.trans b
  mono := fun a _ => a
  ext := fun a => a
  tup := fun a b xs h => a b _ h
  oth := fun a b o h _ => a b o h
  chg := fun h n b o e => by rw [upd_ne (ne_of_none e n)]; exact h b o e
  free := fun h n => h.free n

/-- a deal: where it lies, what it holds -/
structure Dl where
  p : Addr
  l1 : Addr
  l2 : Addr
  row : List Int
  tot : Int
structure Dl.Go (d : Dl) (k : Nat) (H H' : Hp) : Prop where
  t : Tg H H'
  o : ∀ a u, H a = some u → a ≠ d.l2 → H' a = some u
  n : ∀ n : Nat, H d.l2 = some (.lst [.int (n : Int)]) → ∃ n' : Nat, n ≤ n' ∧ n' ≤ n + k ∧ H' d.l2 = some (.lst [.int (n' : Int)])
  l : ∀ a u, H a = some u → ∃ u', H' a = some u'
def efD (d : Dl) : Ef where
  S := fun a => a = d.l2
  M := 1000000
  R := d.Go
  trans := fun {i j _ _ _} a b => ⟨a.t.trans b.t, fun x u h n => b.o x u (a.o x u h n) n, fun n h => by
    obtain ⟨m, h1, h2, h3⟩ := a.n n h
    obtain ⟨r, q1, q2, q3⟩ := b.n m h3
    exact ⟨r, by omega, by omega, q3⟩, fun x u h => by
    obtain ⟨u', h'⟩ := a.l x u h
    exact b.l x u' h'⟩
  mono := fun a h => ⟨a.t, a.o, fun n e => by
    obtain ⟨m, h1, h2, h3⟩ := a.n n e
    exact ⟨m, h1, by omega, h3⟩, a.l⟩
  ext := fun s => ⟨fun a xs h => s a _ h, fun a u h _ => s a u h, fun n h => ⟨n, Nat.le_refl _, Nat.le_refl _, s _ _ h⟩, fun a u h => ⟨u, s a u h⟩⟩
  tup := fun a => a.t
  oth := fun a => a.o
  chg := fun {i H1 H2 a o} g n => ⟨fun b xs h => by rw [upd_ne (ne_of_none h n)]; exact g.t b xs h, fun b u h hb => by rw [upd_ne (ne_of_none h n)]; exact g.o b u h hb,
    fun m h => by rw [upd_ne (ne_of_none h n)]; exact g.n m h, fun b u h => by rw [upd_ne (ne_of_none h n)]; exact g.l b u h⟩
  free := fun {i H1 H2 a} g n => by
    cases q : H1 a with
    | none => rfl
    | some u =>
      obtain ⟨u', h'⟩ := g.l a u q
      rw [n] at h'; cases h'

/-! ### data -/
/-- data that never changes -/
class PyI (α : Type) where
  rep : Hp → α → V → Prop
  tm : ∀ {H H' : Hp} {a : α} {v : V}, Tg H H' → rep H a v → rep H' a v
abbrev Rp {α : Type} [PyI α] (H : Hp) (a : α) (v : V) : Prop := PyI.rep H a v
instance : PyI Int := ⟨fun _ i v => v = .int i, fun _ h => h⟩
instance : PyI Bool := ⟨fun _ i v => v = .bl i, fun _ h => h⟩
instance : PyI Str := ⟨fun _ i v => v = .str i, fun _ h => h⟩
instance : PyI Unit := ⟨fun _ _ v => v = .non, fun _ h => h⟩
instance {α : Type} [PyI α] : PyI (Option α) := ⟨fun H o v => match o with | none => v = .non | some a => v ≠ .non ∧ Rp H a v, fun {_ _ o _} t h => by
  cases o with
  | none => exact h
  | some a => exact ⟨h.1, PyI.tm t h.2⟩⟩
instance {α β : Type} [PyI α] [PyI β] : PyI (α × β) := ⟨fun H c v => ∃ p x y, v = .ref p ∧ H p = some (.tup [x, y]) ∧ Rp H c.1 x ∧ Rp H c.2 y, fun t ⟨p, x, y, h1, h2, h3, h4⟩ => ⟨p, x, y, h1, t _ _ h2, PyI.tm t h3, PyI.tm t h4⟩⟩
theorem Paired.imp {α β : Type} {F G : α → β → Prop} (f : ∀ a b, F a b → G a b) : ∀ {l1 : List α} {l2 : List β}, Paired F l1 l2 → Paired G l1 l2
  | _, _, .nil => .nil
  | _, _, .cons r t => .cons (f _ _ r) (Paired.imp f t)
/-- a tuple of any length, all of one kind -/
instance {α : Type} [PyI α] : PyI (List α) := ⟨fun H xs v => ∃ p vs, v = .ref p ∧ H p = some (.tup vs) ∧ Paired (fun a v => Rp H a v) xs vs, fun t ⟨p, vs, h1, h2, h3⟩ => ⟨p, vs, h1, t _ _ h2, Paired.imp (fun _ _ => PyI.tm t) h3⟩⟩
abbrev Rps {α : Type} [PyI α] (H : Hp) (xs : List α) (vs : List V) : Prop := Paired (fun a v => Rp H a v) xs vs
theorem Rps.tm {α : Type} [PyI α] {H H' : Hp} {xs : List α} {vs : List V} (t : Tg H H') (h : Rps H xs vs) : Rps H' xs vs := Paired.imp (fun _ _ => PyI.tm t) h
theorem Rps.len {α : Type} [PyI α] {H : Hp} {xs : List α} {vs : List V} (h : Rps H xs vs) : xs.length = vs.length := Paired.length h
theorem Rps.get {α : Type} [PyI α] {H : Hp} {xs : List α} {vs : List V} {i : Nat} {a : α} (h : Rps H xs vs) (e : xs[i]? = some a) : ∃ v, vs[i]? = some v ∧ Rp H a v := by
  induction h generalizing i with
  | nil => simp at e
  | cons r t ih =>
    cases i with
    | zero => simp at e; subst e; exact ⟨_, rfl, r⟩
    | succ i => exact ih (by simpa using e)
theorem Rps.getV {α : Type} [PyI α] {H : Hp} {xs : List α} {vs : List V} {i : Nat} {v : V} (h : Rps H xs vs) (e : vs[i]? = some v) : ∃ a, xs[i]? = some a ∧ Rp H a v := by
  induction h generalizing i with
  | nil => simp at e
  | cons r t ih =>
    cases i with
    | zero => simp at e; subst e; exact ⟨_, rfl, r⟩
    | succ i => exact ih (by simpa using e)
theorem Rps.snoc {α : Type} [PyI α] {H : Hp} {xs : List α} {vs : List V} {a : α} {v : V} (h : Rps H xs vs) (r : Rp H a v) : Rps H (xs ++ [a]) (vs ++ [v]) := Paired.snoc h r
theorem Rps.app {α : Type} [PyI α] {H : Hp} {xs ys : List α} {vs ws : List V} (h : Rps H xs vs) (r : Rps H ys ws) : Rps H (xs ++ ys) (vs ++ ws) := by
  induction h with
  | nil => exact r
  | cons a t ih => exact .cons a ih
theorem Rps.take {α : Type} [PyI α] {H : Hp} {xs : List α} {vs : List V} (n : Nat) (h : Rps H xs vs) : Rps H (xs.take n) (vs.take n) := by
  induction h generalizing n with
  | nil => simp; exact .nil
  | cons a t ih => cases n with
    | zero => exact .nil
    | succ n => exact .cons a (ih n)
theorem Rps.drop {α : Type} [PyI α] {H : Hp} {xs : List α} {vs : List V} (n : Nat) (h : Rps H xs vs) : Rps H (xs.drop n) (vs.drop n) := by
  induction h generalizing n with
  | nil => simp; exact .nil
  | cons a t ih => cases n with
    | zero => exact .cons a t
    | succ n => exact ih n
theorem Rps.set {α : Type} [PyI α] {H : Hp} {xs : List α} {vs : List V} {a : α} {v : V} (n : Nat) (h : Rps H xs vs) (r : Rp H a v) : Rps H (xs.set n a) (vs.set n v) := by
  induction h generalizing n with
  | nil => exact .nil
  | cons b t ih => cases n with
    | zero => exact .cons r t
    | succ n => exact .cons b (ih n)
theorem rps_ints {H : Hp} {ns : List Int} {vs : List V} (h : Rps H ns vs) : vs = ns.map V.int := by
  induction h with
  | nil => rfl
  | cons r t ih => rw [show _ = _ from r, ih]; rfl
theorem rps_ints' (H : Hp) : ∀ ns : List Int, Rps H ns (ns.map V.int)
  | [] => .nil
  | _ :: r => .cons rfl (rps_ints' H r)
theorem rps_strs {H : Hp} {ns : List Str} {vs : List V} (h : Rps H ns vs) : vs = ns.map V.str := by
  induction h with
  | nil => rfl
  | cons r t ih => rw [show _ = _ from r, ih]; rfl
theorem rps_strs' (H : Hp) : ∀ ns : List Str, Rps H ns (ns.map V.str)
  | [] => .nil
  | _ :: r => .cons rfl (rps_strs' H r)
theorem rps_bls {H : Hp} {ns : List Bool} {vs : List V} (h : Rps H ns vs) : vs = ns.map V.bl := by
  induction h with
  | nil => rfl
  | cons r t ih => rw [show _ = _ from r, ih]; rfl
/-- a list that may be read -/
def LsR {α : Type} [PyI α] (K : PySem.W.Frag) (S : Addr → Prop) (H : Hp) (xs : List α) (v : V) : Prop := ∃ p vs, v = .ref p ∧ H p = some (.lst vs) ∧ ¬ S p ∧ Rps H xs vs
theorem LsR.go {α : Type} [PyI α] {K : PySem.W.Frag} {e : Ef} {i : Nat} {H H' : Hp} {xs : List α} {v : V} (g : e.R i H H') (h : LsR K e.S H xs v) : LsR K e.S H' xs v := by
  obtain ⟨p, vs, h1, h2, h3, h4⟩ := h
  exact ⟨p, vs, h1, e.oth g _ _ h2 h3, h3, h4.tm (e.tup g)⟩

/-- a square's key; a dict from squares to ints -/
abbrev Sq := Int × Int
def kSq (q : Sq) : List Key := [.inl q.1, .inl q.2]
def DI (kvs : List (Sq × Int)) : List (List Key × V) := kvs.map fun p => (kSq p.1, .int p.2)

/-! ### what evaluates to what -/
def EvR (e : Ef) (k : Nat) (te : TE) (σ : L2.St) (H : Hp) (Φ : Hp → Hp → V → Prop) : Prop :=
  ∀ j H1, j + k ≤ e.M → e.R j H H1 → ∀ Q : VK, (∀ v H2, e.R k H1 H2 → Φ H1 H2 v → Q v H2) → te σ H1 Q
def ET (e : Ef) (k : Nat) (tt : TT) (σ : L2.St) (H : Hp) (P : Bool → Prop) : Prop :=
  ∀ j H1, j + k ≤ e.M → e.R j H H1 → ∀ Q : Bool → Hp → Prop, (∀ b H2, e.R k H1 H2 → P b → Q b H2) → tt σ H1 Q
/-- a value; some value with P; a new list; some new list with P -/
def isD {α : Type} [PyI α] (a : α) : Hp → Hp → V → Prop := fun _ H2 v => Rp H2 a v
def isA {α : Type} [PyI α] (P : α → Prop) : Hp → Hp → V → Prop := fun _ H2 v => ∃ a, P a ∧ Rp H2 a v
def isLA {α : Type} [PyI α] (P : List α → Prop) : Hp → Hp → V → Prop := fun H1 H2 v => ∃ xs p vs, P xs ∧ v = .ref p ∧ H1 p = none ∧ H2 p = some (.lst vs) ∧ Rps H2 xs vs
def isL {α : Type} [PyI α] (xs : List α) : Hp → Hp → V → Prop := fun H1 H2 v => ∃ p vs, v = .ref p ∧ H1 p = none ∧ H2 p = some (.lst vs) ∧ Rps H2 xs vs
def isLr {α : Type} [PyI α] (K : PySem.W.Frag) (S : Addr → Prop) (xs : List α) : Hp → Hp → V → Prop := fun _ H2 v => LsR K S H2 xs v

section
variable {K : PySem.W.Frag} {e : Ef} {σ : L2.St} {H H' : Hp} {ta tb te tc : TE} {t u : TT} {i j k m n : Nat} {v : V}
theorem EvR.wk {Φ Ψ : Hp → Hp → V → Prop} (h : EvR e k te σ H Φ) (w : ∀ H1 H2 v, e.R k H1 H2 → Φ H1 H2 v → Ψ H1 H2 v) : EvR e k te σ H Ψ := fun j H1 hm g Q q => h j H1 (by omega) g Q fun v H2 g2 p => q v H2 g2 (w _ _ _ g2 p)
theorem EvR.le {Φ : Hp → Hp → V → Prop} (h : EvR e k te σ H Φ) (w : k ≤ m) : EvR e m te σ H Φ := fun j H1 hm g Q q => h j H1 (by omega) g Q fun v H2 g2 p => q v H2 (e.mono g2 w) p
theorem ET.wk {P P' : Bool → Prop} (h : ET e k t σ H P) (w : ∀ b, P b → P' b) : ET e k t σ H P' := fun j H1 hm g Q q => h j H1 (by omega) g Q fun b H2 g2 p => q b H2 g2 (w b p)
theorem ET.le {P : Bool → Prop} (h : ET e k t σ H P) (w : k ≤ m) : ET e m t σ H P := fun j H1 hm g Q q => h j H1 (by omega) g Q fun v H2 g2 p => q v H2 (e.mono g2 w) p
theorem er_is {α : Type} [PyI α] {a b : α} (h : EvR e k te σ H (isD a)) (q : a = b) : EvR e k te σ H (isD b) := q ▸ h
theorem er_dA {α : Type} [PyI α] {a : α} {P : α → Prop} (h : EvR e k te σ H (isD a)) (q : P a) : EvR e k te σ H (isA P) := h.wk fun _ _ _ _ r => ⟨a, q, r⟩
theorem er_Ad {α : Type} [PyI α] {a : α} (h : EvR e k te σ H (isA (· = a))) : EvR e k te σ H (isD a) := h.wk fun _ _ _ _ ⟨b, q, r⟩ => by cases q; exact r
theorem er_d {α : Type} [PyI α] {a : α} (h : EvR e k te σ H (isD a)) : EvR e k te σ H (isA (· = a)) := er_dA h rfl
theorem er_var {α : Type} [PyI α] {a : α} {i : Nat} (h : σ[i]? = some (some v)) (r : Rp H a v) : EvR e 0 (tVar i) σ H (isD a) := fun j H1 hm g Q q => ⟨v, h, q v H1 (e.refl _) (PyI.tm (e.tup g) r)⟩
theorem er_varL {α : Type} [PyI α] {xs : List α} {i : Nat} (h : σ[i]? = some (some v)) (r : LsR K e.S H xs v) : EvR e 0 (tVar i) σ H (isLr K e.S xs) := fun j H1 hm g Q q => ⟨v, h, q v H1 (e.refl _) (LsR.go g r)⟩
theorem er_int {x : Int} : EvR e 0 (tC (.int x)) σ H (isD x) := fun j H1 hm g Q q => q _ H1 (e.refl _) rfl
theorem er_str {x : Str} : EvR e 0 (tC (.str x)) σ H (isD x) := fun j H1 hm g Q q => q _ H1 (e.refl _) rfl
theorem er_bl {x : Bool} : EvR e 0 (tC (.bl x)) σ H (isD x) := fun j H1 hm g Q q => q _ H1 (e.refl _) rfl
theorem er_non : EvR e 0 (tC .non) σ H (isD ()) := fun j H1 hm g Q q => q _ H1 (e.refl _) rfl
/-- two-place operations -/
theorem er_op {α β γ : Type} [PyI α] [PyI β] [PyI γ] {r : R2} {P : α → Prop} {P' : β → Prop} {P'' : γ → Prop} (ha : EvR e j ta σ H (isA P)) (hb : EvR e k tb σ H (isA P'))
    (hr : ∀ a b x y H1, P a → P' b → Rp H1 a x → Rp H1 b y → ∀ Q : VK, (∀ c v H2, Same H1 H2 → P'' c → Rp H2 c v → Q v H2) → r x y H1 Q) : EvR e (j + k) (tOp r ta tb) σ H (isA P'') := fun l H1 hm g Q q =>
  ha l H1 (by omega) g _ fun x H2 g2 ⟨a, pa, ra⟩ => hb _ H2 (by omega) (e.trans g g2) _ fun y H3 g3 ⟨b, pb, rb⟩ => hr a b x y H3 pa pb (PyI.tm (e.tup g3) ra) rb Q fun c v H4 g4 pc rc => q v H4 (e.tr0 (e.trans g2 g3) g4) ⟨c, pc, rc⟩
theorem er_opD {α β γ : Type} [PyI α] [PyI β] [PyI γ] {r : R2} {a : α} {b : β} {c : γ} (ha : EvR e j ta σ H (isD a)) (hb : EvR e k tb σ H (isD b))
    (hr : ∀ x y H1, Rp H1 a x → Rp H1 b y → ∀ Q : VK, (∀ v H2, Same H1 H2 → Rp H2 c v → Q v H2) → r x y H1 Q) : EvR e (j + k) (tOp r ta tb) σ H (isD c) :=
  er_Ad (er_op (er_d ha) (er_d hb) (fun a' b' x y H1 pa pb ra rb Q q => by
    subst pa; subst pb
    exact hr x y H1 ra rb Q fun v H2 s r => q c v H2 s rfl r))
theorem er_iop {γ : Type} [PyI γ] {C : Int → Int → Prop} {f : Int → Int → V} {x y : Int} {c : γ} (ha : EvR e j ta σ H (isD x)) (hb : EvR e k tb σ H (isD y)) (hc : C x y) (hv : ∀ H, Rp H c (f x y)) : EvR e (j + k) (tOp (rI C f) ta tb) σ H (isD c) :=
  er_opD ha hb fun _ _ H1 r1 r2 Q q => by cases r1; cases r2; exact ⟨x, y, rfl, rfl, hc, q _ _ (Same.refl _) (hv _)⟩
theorem er_iop0 {γ : Type} [PyI γ] {f : Int → Int → V} {x y : Int} {c : γ} (ha : EvR e j ta σ H (isD x)) (hb : EvR e k tb σ H (isD y)) (hv : ∀ H, Rp H c (f x y)) : EvR e (j + k) (tOp (rI0 f) ta tb) σ H (isD c) :=
  er_opD ha hb fun _ _ H1 r1 r2 Q q => by cases r1; cases r2; exact ⟨x, y, rfl, rfl, q _ _ (Same.refl _) (hv _)⟩
section
variable {x y : Int} (ha : EvR e j ta σ H (isD x)) (hb : EvR e k tb σ H (isD y))
include ha hb
theorem er_add : EvR e (j + k) (tOp (rI0 fun i j => .int (i + j)) ta tb) σ H (isD (x + y)) := er_iop0 ha hb fun _ => rfl
theorem er_sub : EvR e (j + k) (tOp (rI0 fun i j => .int (i - j)) ta tb) σ H (isD (x - y)) := er_iop0 ha hb fun _ => rfl
theorem er_mul (hc : CMul x y) : EvR e (j + k) (tOp (rI CMul fun i j => .int (i * j)) ta tb) σ H (isD (x * y)) := er_iop ha hb hc fun _ => rfl
theorem er_fdiv (hc : CDiv x y) : EvR e (j + k) (tOp (rI CDiv fun i j => .int (i / j)) ta tb) σ H (isD (x / y)) := er_iop ha hb hc fun _ => rfl
theorem er_mod (hc : 0 < y) : EvR e (j + k) (tOp (rI (fun _ j => 0 < j) fun i j => .int (i % j)) ta tb) σ H (isD (x % y)) := er_iop ha hb hc fun _ => rfl
theorem er_lt : EvR e (j + k) (tOp (rI0 fun i j => .bl (decide (i < j))) ta tb) σ H (isD (decide (x < y))) := er_iop0 ha hb fun _ => rfl
theorem er_le : EvR e (j + k) (tOp (rI0 fun i j => .bl (decide (i ≤ j))) ta tb) σ H (isD (decide (x ≤ y))) := er_iop0 ha hb fun _ => rfl
theorem er_gt : EvR e (j + k) (tOp (rI0 fun i j => .bl (decide (j < i))) ta tb) σ H (isD (decide (y < x))) := er_iop0 ha hb fun _ => rfl
theorem er_ge : EvR e (j + k) (tOp (rI0 fun i j => .bl (decide (j ≤ i))) ta tb) σ H (isD (decide (y ≤ x))) := er_iop0 ha hb fun _ => rfl
end
/-- values told by == -/
class Scal (α : Type) [PyI α] [DecidableEq α] where
  toV : α → V
  rv : ∀ {H : Hp} {a : α} {v : V}, Rp H a v → v = toV a
  inj : ∀ a b : α, toV a = toV b ↔ a = b
  sc : ∀ a b : α, scal (toV a) (toV b) = true
instance : Scal Int := ⟨V.int, fun h => h, fun a b => ⟨fun h => by injection h, fun h => by rw [h]⟩, fun _ _ => rfl⟩
instance : Scal Bool := ⟨V.bl, fun h => h, fun a b => ⟨fun h => by injection h, fun h => by rw [h]⟩, fun _ _ => rfl⟩
instance : Scal Str := ⟨V.str, fun h => h, fun a b => ⟨fun h => by injection h, fun h => by rw [h]⟩, fun _ _ => rfl⟩
theorem scal_dec {α : Type} [PyI α] [DecidableEq α] [Scal α] (a b : α) : decide (Scal.toV a = Scal.toV b) = decide (a = b) := by
  by_cases h : a = b
  · rw [decide_eq_true h, decide_eq_true ((Scal.inj a b).mpr h)]
  · rw [decide_eq_false h, decide_eq_false (fun z => h ((Scal.inj a b).mp z))]
theorem er_eq {α : Type} [PyI α] [DecidableEq α] [Scal α] {a b : α} (ha : EvR e j ta σ H (isD a)) (hb : EvR e k tb σ H (isD b)) : EvR e (j + k) (tOp rEq ta tb) σ H (isD (decide (a = b))) :=
  er_opD ha hb fun _ _ H1 r1 r2 Q q => by
    rw [Scal.rv r1, Scal.rv r2]
    exact ⟨Scal.sc a b, q _ _ (Same.refl _) (by rw [scal_dec]; exact (rfl : _ = V.bl _))⟩
theorem er_ne {α : Type} [PyI α] [DecidableEq α] [Scal α] {a b : α} (ha : EvR e j ta σ H (isD a)) (hb : EvR e k tb σ H (isD b)) : EvR e (j + k) (tOp rNe ta tb) σ H (isD (!decide (a = b))) :=
  er_opD ha hb fun _ _ H1 r1 r2 Q q => by
    rw [Scal.rv r1, Scal.rv r2]
    exact ⟨Scal.sc a b, q _ _ (Same.refl _) (by rw [scal_dec]; exact (rfl : _ = V.bl _))⟩
/-- tests -/
theorem et_test {P : Bool → Prop} (h : EvR e k te σ H (isA P)) : ET e k (tTest te) σ H P := fun l H1 hm g Q q => h l H1 (by omega) g _ fun v H2 g2 ⟨b, p, r⟩ => ⟨b, r, q b H2 g2 p⟩
theorem et_B {P : Bool → Prop} (h : EvR e k te σ H (isA P)) : ET e k (tB te) σ H P := fun l H1 hm g Q q => h l H1 (by omega) g _ fun v H2 g2 ⟨b, p, r⟩ => ⟨b, r, q b H2 g2 p⟩
theorem et_not {P : Bool → Prop} (h : ET e k t σ H P) : ET e k (tNot t) σ H (fun b => P (!b)) := fun l H1 hm g Q q => h l H1 (by omega) g _ fun b H2 g2 p => q (!b) H2 g2 (show P (!(!b)) by rw [Bool.not_not]; exact p)
theorem et_and {P P' : Bool → Prop} (h1 : ET e j t σ H P) (h2 : P true → ET e k u σ H P') : ET e (j + k) (tAnd t u) σ H (fun b => (b = false ∧ P false) ∨ (P true ∧ P' b)) := fun l H1 hm g Q q => h1 l H1 (by omega) g _ fun b H2 g2 p => by
  cases b with
  | true => exact h2 p _ H2 (by omega) (e.trans g g2) Q fun b H3 g3 p3 => q b H3 (e.trans g2 g3) (.inr ⟨p, p3⟩)
  | false => exact q false H2 (e.mono g2 (Nat.le_add_right _ _)) (.inl ⟨rfl, p⟩)
theorem et_or {P P' : Bool → Prop} (h1 : ET e j t σ H P) (h2 : P false → ET e k u σ H P') : ET e (j + k) (tOr t u) σ H (fun b => (b = true ∧ P true) ∨ (P false ∧ P' b)) := fun l H1 hm g Q q => h1 l H1 (by omega) g _ fun b H2 g2 p => by
  cases b with
  | false => exact h2 p _ H2 (by omega) (e.trans g g2) Q fun b H3 g3 p3 => q b H3 (e.trans g2 g3) (.inr ⟨p, p3⟩)
  | true => exact q true H2 (e.mono g2 (Nat.le_add_right _ _)) (.inl ⟨rfl, p⟩)
/-- exact ones -/
theorem et_tD {b : Bool} (h : EvR e k te σ H (isD b)) : ET e k (tTest te) σ H (· = b) := et_test (er_d h)
theorem et_BD {b : Bool} (h : EvR e k te σ H (isD b)) : ET e k (tB te) σ H (· = b) := et_B (er_d h)
theorem et_notD {b : Bool} (h : ET e k t σ H (· = b)) : ET e k (tNot t) σ H (· = !b) := (et_not h).wk fun c p => by rw [← p, Bool.not_not]
theorem et_andD {a b : Bool} (h1 : ET e j t σ H (· = a)) (h2 : a = true → ET e k u σ H (· = b)) : ET e (j + k) (tAnd t u) σ H (· = (a && b)) := (et_and h1 fun h => h2 h.symm).wk fun c p => by
  rcases p with ⟨rfl, p⟩ | ⟨p, rfl⟩
  · rw [← p]; rfl
  · rw [← p]; rfl
theorem et_orD {a b : Bool} (h1 : ET e j t σ H (· = a)) (h2 : a = false → ET e k u σ H (· = b)) : ET e (j + k) (tOr t u) σ H (· = (a || b)) := (et_or h1 fun h => h2 h.symm).wk fun c p => by
  rcases p with ⟨rfl, p⟩ | ⟨p, rfl⟩
  · rw [← p]; rfl
  · rw [← p]; rfl
theorem er_andV {a b : Bool} (h1 : EvR e j ta σ H (isD a)) (h2 : a = true → EvR e k tb σ H (isD b)) : EvR e (j + k) (tAndV ta tb) σ H (isD (a && b)) := fun l H1 hm g Q q => h1 l H1 (by omega) g _ fun v H2 g2 r => ⟨a, r, by
  cases a with
  | true =>
    show tb σ H2 Q
    exact h2 rfl _ H2 (by omega) (e.trans g g2) Q fun v H3 g3 p3 => q v H3 (e.trans g2 g3) p3
  | false =>
    show Q (.bl false) H2
    exact q _ H2 (e.mono g2 (Nat.le_add_right _ _)) rfl⟩
theorem er_orV {a b : Bool} (h1 : EvR e j ta σ H (isD a)) (h2 : a = false → EvR e k tb σ H (isD b)) : EvR e (j + k) (tOrV ta tb) σ H (isD (a || b)) := fun l H1 hm g Q q => h1 l H1 (by omega) g _ fun v H2 g2 r => ⟨a, r, by
  cases a with
  | false =>
    show tb σ H2 Q
    exact h2 rfl _ H2 (by omega) (e.trans g g2) Q fun v H3 g3 p3 => q v H3 (e.trans g2 g3) p3
  | true =>
    show Q (.bl true) H2
    exact q _ H2 (e.mono g2 (Nat.le_add_right _ _)) rfl⟩
theorem er_notV {a : Bool} (h1 : EvR e j ta σ H (isD a)) : EvR e j (tNotV ta) σ H (isD (!a)) := fun l H1 hm g Q q => h1 l H1 (by omega) g _ fun v H2 g2 r => ⟨a, r, q _ H2 g2 rfl⟩
theorem er_notVA {P : Bool → Prop} (h1 : EvR e j ta σ H (isA P)) : EvR e j (tNotV ta) σ H (isA fun b => P (!b)) := fun l H1 hm g Q q => h1 l H1 (by omega) g _ fun v H2 g2 ⟨a, p, r⟩ => ⟨a, r, q _ H2 g2 ⟨!a, show P (!(!a)) by rw [Bool.not_not]; exact p, rfl⟩⟩
theorem er_ifE {P : Bool → Prop} {Φ : Hp → Hp → V → Prop} (hΦ : ∀ i H1 H2 H3 v, e.R i H1 H2 → Φ H2 H3 v → Φ H1 H3 v) (h : ET e j t σ H P) (h1 : P true → EvR e k ta σ H Φ) (h2 : P false → EvR e k tb σ H Φ) : EvR e (j + k) (tIf t ta tb) σ H Φ := fun l H1 hm g Q q => h l H1 (by omega) g _ fun b H2 g2 p => by
  cases b with
  | true => exact h1 p _ H2 (by omega) (e.trans g g2) Q fun v H3 g3 p3 => q v H3 (e.trans g2 g3) (hΦ _ _ _ _ _ g2 p3)
  | false => exact h2 p _ H2 (by omega) (e.trans g g2) Q fun v H3 g3 p3 => q v H3 (e.trans g2 g3) (hΦ _ _ _ _ _ g2 p3)
theorem er_ifD {α : Type} [PyI α] {c : Bool} {a : α} (h : ET e j t σ H (· = c)) (h1 : c = true → EvR e k ta σ H (isD a)) (h2 : c = false → EvR e k tb σ H (isD a)) : EvR e (j + k) (tIf t ta tb) σ H (isD a) :=
  er_ifE (fun _ _ _ _ _ _ h => h) h (fun p => h1 p.symm) fun p => h2 p.symm
/-- a < b < c -/
theorem er_chain {C C' : Int → Int → Bool} {a b c : Int} (h1 : EvR e i ta σ H (isD a)) (h2 : EvR e j tb σ H (isD b)) (h3 : C a b = true → EvR e k tc σ H (isD c)) :
    EvR e (i + j + k) (tChain (rI0 fun i j => .bl (C i j)) (rI0 fun i j => .bl (C' i j)) ta tb tc) σ H (isD (C a b && C' b c)) := fun l H1 hm g Q q => h1 l H1 (by omega) g _ fun x H2 g2 r1 => h2 _ H2 (by omega) (e.trans g g2) _ fun y H3 g3 r2 => by
  cases r1; cases r2
  refine ⟨a, b, rfl, rfl, C a b, rfl, ?_⟩
  cases hC : C a b with
  | true =>
    refine h3 hC _ H3 (by omega) (e.trans (e.trans g g2) g3) _ fun z H4 g4 r3 => ?_
    cases r3
    refine ⟨b, c, rfl, rfl, ?_⟩
    rw [hC] at q
    exact q _ H4 (e.trans (e.trans g2 g3) g4) rfl
  | false =>
    rw [hC] at q
    exact q _ H3 (e.mono (e.trans g2 g3) (Nat.le_add_right _ _)) rfl
/-- arguments, tuples, lists, calls -/
def EvA (e : Ef) (k : Nat) (ta : TA) (σ : L2.St) (H : Hp) (Ψ : Hp → Hp → List V → Prop) : Prop :=
  ∀ j H1, j + k ≤ e.M → e.R j H H1 → ∀ Q : List V → Hp → Prop, (∀ vs H2, e.R k H1 H2 → Ψ H1 H2 vs → Q vs H2) → ta σ H1 Q
theorem ea_nil : EvA e 0 tNil σ H (fun _ _ vs => vs = []) := fun l H1 hm g Q q => q _ H1 (e.refl _) rfl
/-- Φ stays while the rest is evaluated -/
def Stay (e : Ef) (Φ : Hp → Hp → V → Prop) : Prop := ∀ i H1 H2 H3 v, e.R i H2 H3 → Φ H1 H2 v → Φ H1 H3 v
theorem stay_D {α : Type} [PyI α] {a : α} : Stay e (isD a) := fun _ _ _ _ _ g h => PyI.tm (e.tup g) h
theorem stay_A {α : Type} [PyI α] {P : α → Prop} : Stay e (isA P) := fun _ _ _ _ _ g ⟨a, p, h⟩ => ⟨a, p, PyI.tm (e.tup g) h⟩
theorem stay_Lr {α : Type} [PyI α] {xs : List α} : Stay e (isLr K e.S xs) := fun _ _ _ _ _ g h => LsR.go g h
def Back (e : Ef) (Φ : Hp → Hp → V → Prop) : Prop := ∀ i H1 H2 H3 v, e.R i H1 H2 → Φ H2 H3 v → Φ H1 H3 v
theorem back_D {α : Type} [PyI α] {a : α} : Back e (isD a) := fun _ _ _ _ _ g h => h
theorem back_A {α : Type} [PyI α] {P : α → Prop} : Back e (isA P) := fun _ _ _ _ _ g h => h
theorem back_Lr {α : Type} [PyI α] {xs : List α} : Back e (isLr K e.S xs) := fun _ _ _ _ _ g h => h
theorem back_L {α : Type} [PyI α] {xs : List α} : Back e (isL xs) := fun _ _ _ _ _ g ⟨p, vs, h1, h2, h3⟩ => ⟨p, vs, h1, e.free g h2, h3⟩
theorem ea_cons {tr : TA} {Φ : Hp → Hp → V → Prop} {Ψ : Hp → Hp → List V → Prop} (h : EvR e j te σ H Φ) (hs : Stay e Φ) (hr : EvA e k tr σ H Ψ) :
    EvA e (j + k) (tCons te tr) σ H (fun H1 H3 vs => ∃ v r H2, vs = v :: r ∧ Φ H1 H3 v ∧ e.R j H1 H2 ∧ Ψ H2 H3 r) := fun l H1 hm g Q q => h l H1 (by omega) g _ fun v H2 g2 p => hr _ H2 (by omega) (e.trans g g2) _ fun r H3 g3 p3 => q _ H3 (e.trans g2 g3) ⟨v, r, H2, rfl, hs _ _ _ _ _ g3 p, g2, p3⟩
theorem ea1 {Φ : Hp → Hp → V → Prop} (h : EvR e j te σ H Φ) : EvA e j (tCons te tNil) σ H (fun H1 H2 vs => ∃ v, vs = [v] ∧ Φ H1 H2 v) := fun l H1 hm g Q q => h l H1 (by omega) g _ fun v H2 g2 p => q _ H2 g2 ⟨v, rfl, p⟩
theorem ea2 {Φ Φ' : Hp → Hp → V → Prop} (h : EvR e j ta σ H Φ) (hs : Stay e Φ) (h' : EvR e k tb σ H Φ') (hb : Back e Φ') : EvA e (j + k) (tCons ta (tCons tb tNil)) σ H (fun H1 H2 vs => ∃ v w, vs = [v, w] ∧ Φ H1 H2 v ∧ Φ' H1 H2 w) := fun l H1 hm g Q q =>
  h l H1 (by omega) g _ fun v H2 g2 p => h' _ H2 (by omega) (e.trans g g2) _ fun w H3 g3 p3 => q _ H3 (e.trans g2 g3) ⟨v, w, rfl, hs _ _ _ _ _ g3 p, hb _ _ _ _ _ g2 p3⟩
theorem ea3 {Φ Φ' Φ'' : Hp → Hp → V → Prop} (h : EvR e i ta σ H Φ) (hs : Stay e Φ) (h' : EvR e j tb σ H Φ') (hs' : Stay e Φ') (hb : Back e Φ') (h'' : EvR e k tc σ H Φ'') (hb' : Back e Φ'') :
    EvA e (i + j + k) (tCons ta (tCons tb (tCons tc tNil))) σ H (fun H1 H2 vs => ∃ v w x, vs = [v, w, x] ∧ Φ H1 H2 v ∧ Φ' H1 H2 w ∧ Φ'' H1 H2 x) := fun l H1 hm g Q q =>
  h l H1 (by omega) g _ fun v H2 g2 p => h' _ H2 (by omega) (e.trans g g2) _ fun w H3 g3 p3 => h'' _ H3 (by omega) (e.trans (e.trans g g2) g3) _ fun x H4 g4 p4 =>
    q _ H4 (e.trans (e.trans g2 g3) g4) ⟨v, w, x, rfl, hs _ _ _ _ _ g4 (hs _ _ _ _ _ g3 p), hs' _ _ _ _ _ g4 (hb _ _ _ _ _ g2 p3), hb' _ _ _ _ _ (e.trans g2 g3) p4⟩
theorem er_call {sp : Sp} {E : XK} {ta : TA} {Ψ : Hp → Hp → List V → Prop} {Φ : Hp → Hp → V → Prop} (h : EvA e j ta σ H Ψ) (hb : Back e Φ)
    (hs : ∀ l H1 H2 vs, e.R l H H1 → e.R j H1 H2 → Ψ H1 H2 vs → ∀ Q : VK, (∀ v H3, e.R k H2 H3 → Φ H2 H3 v → Q v H3) → ∀ E : XK, sp vs H2 Q E) : EvR e (j + k) (tCall sp [] E ta) σ H Φ := fun l H1 hm g Q q =>
  h l H1 (by omega) g _ fun vs H2 g2 p => by
    rw [List.append_nil]
    exact hs l H1 H2 vs g g2 p Q (fun v H3 g3 p3 => q v H3 (e.trans g2 g3) (hb _ _ _ _ _ g2 p3)) E
theorem er_cb {r : List V → Hp → VK → Prop} {ta : TA} {Ψ : Hp → Hp → List V → Prop} {Φ : Hp → Hp → V → Prop} (h : EvA e j ta σ H Ψ) (hb : Back e Φ)
    (hs : ∀ l H1 H2 vs, e.R l H H1 → e.R j H1 H2 → Ψ H1 H2 vs → ∀ Q : VK, (∀ v H3, Same H2 H3 → Φ H2 H3 v → Q v H3) → r vs H2 Q) : EvR e j (tCB r ta) σ H Φ := fun l H1 hm g Q q =>
  h l H1 (by omega) g _ fun vs H2 g2 p => hs l H1 H2 vs g g2 p Q fun v H3 g3 p3 => q v H3 (e.mono (e.trans g2 (e.ext g3)) (by omega)) (hb _ _ _ _ _ g2 p3)
end
end Z

namespace Z
open PySem L2
section
variable {K : PySem.W.Frag} {e : Ef} {σ : L2.St} {H H' : Hp} {ta tb te tc tl : TE} {t u : TT} {i j k m n : Nat} {v : V}
theorem sz_le {n : Nat} (h : n ≤ 100000) : n ≤ sizeLine := Nat.le_trans h (by decide)
theorem sz_lt {n : Nat} (h : n < 100000) : n < sizeLine := Nat.lt_of_lt_of_le h (by decide)
theorem atI_rps {α : Type} [PyI α] {H : Hp} {xs : List α} {vs : List V} {i : Int} {a : α} (h : Rps H xs vs) (e : atI xs i = some a) : ∃ v, atI vs i = some v ∧ Rp H a v := by
  unfold atI at e ⊢
  rw [← h.len]
  cases q : ixN xs.length i with
  | none => rw [q] at e; cases e
  | some n => rw [q] at e; exact h.get e
/-- items, by total functions -/
def ixD {α : Type} [Inhabited α] (xs : List α) (i : Int) : α := (atI xs i).getD default
def okI (n : Nat) (i : Int) : Prop := -(n : Int) ≤ i ∧ i < n
theorem atI_ok {α : Type} [Inhabited α] {xs : List α} {i : Int} (h : okI xs.length i) : atI xs i = some (ixD xs i) := by
  have : ∃ a, atI xs i = some a := by
    unfold atI ixN
    obtain ⟨h1, h2⟩ := h
    by_cases h0 : 0 ≤ i
    · rw [if_pos h0, if_pos h2]
      have : i.toNat < xs.length := by omega
      exact ⟨xs[i.toNat], by simp [this]⟩
    · rw [if_neg h0, if_pos h1]
      have : (i + xs.length).toNat < xs.length := by omega
      exact ⟨xs[(i + xs.length).toNat], by simp [this]⟩
  obtain ⟨a, ha⟩ := this
  unfold ixD
  rw [ha]; rfl
theorem ixD_nat {α : Type} [Inhabited α] {xs : List α} {i : Nat} (h : i < xs.length) : ixD xs (i : Int) = xs[i] := by
  unfold ixD atI ixN
  rw [if_pos (by omega), if_pos (by omega)]
  simp [h]
def sgn (z : Str) (i : Int) : Str := ⟨#[ixD z.cps.toList i]⟩
instance : Inhabited Str := ⟨⟨#[]⟩⟩
theorem er_ixT {α : Type} [PyI α] [Inhabited α] {xs : List α} {x : Int} (ha : EvR e j ta σ H (isD xs)) (hb : EvR e k tb σ H (isD x)) (h : okI xs.length x) : EvR e (j + k) (tOp (rIxT K) ta tb) σ H (isD (ixD xs x)) :=
  er_opD ha hb fun _ _ H1 ⟨p, vs, h1, h2, h3⟩ r2 Q q => by
    cases r2
    obtain ⟨v, hv, rv⟩ := atI_rps h3 (atI_ok h)
    exact ⟨p, vs, x, v, h1, rfl, SqT.of h2, hv, q _ _ (Same.refl _) rv⟩
theorem er_fst {α β : Type} [PyI α] [PyI β] {c : α × β} (ha : EvR e j ta σ H (isD c)) : EvR e (j + 0) (tOp (rIxT K) ta (tC (.int 0))) σ H (isD c.1) :=
  er_opD ha (er_int (x := 0)) fun _ _ H1 ⟨p, x, y, h1, h2, h3, h4⟩ r2 Q q => by
    cases r2
    exact ⟨p, _, 0, x, h1, rfl, SqT.of h2, rfl, q _ _ (Same.refl _) h3⟩
theorem er_snd {α β : Type} [PyI α] [PyI β] {c : α × β} (ha : EvR e j ta σ H (isD c)) : EvR e (j + 0) (tOp (rIxT K) ta (tC (.int 1))) σ H (isD c.2) :=
  er_opD ha (er_int (x := 1)) fun _ _ H1 ⟨p, x, y, h1, h2, h3, h4⟩ r2 Q q => by
    cases r2
    exact ⟨p, _, 1, y, h1, rfl, SqT.of h2, rfl, q _ _ (Same.refl _) h4⟩
theorem er_ixS {z : Str} {x : Int} (ha : EvR e j ta σ H (isD z)) (hb : EvR e k tb σ H (isD x)) (hl : z.length ≤ 100000) (h : okI z.length x) : EvR e (j + k) (tOp rIxS ta tb) σ H (isD (sgn z x)) :=
  er_opD ha hb fun _ _ H1 r1 r2 Q q => by
    cases r1; cases r2
    exact ⟨z, x, _, rfl, rfl, sz_le hl, atI_ok (xs := z.cps.toList) (by rw [Array.length_toList]; exact h), q _ _ (Same.refl _) rfl⟩
theorem er_ixL {α : Type} [PyI α] [Inhabited α] {xs : List α} {x : Int} (ha : EvR e j ta σ H (isLr K e.S xs)) (hb : EvR e k tb σ H (isD x)) (h : okI xs.length x) : EvR e (j + k) (tOp (rIxL K) ta tb) σ H (isD (ixD xs x)) := fun l H1 hm g Q q =>
  ha l H1 (by omega) g _ fun v H2 g2 p => hb _ H2 (by omega) (e.trans g g2) _ fun w H3 g3 r => by
    cases r
    obtain ⟨p, vs, h1, h2, _, h3⟩ := LsR.go g3 p
    obtain ⟨v, hv, rv⟩ := atI_rps h3 (atI_ok h)
    exact ⟨p, vs, x, v, h1, rfl, SqL.of h2, hv, q _ _ (e.trans g2 g3) rv⟩
theorem er_ixLA {α : Type} [PyI α] {xs : List α} {P : Int → Prop} (ha : EvR e j ta σ H (isLr K e.S xs)) (hb : EvR e k tb σ H (isA P)) (h : ∀ x, P x → okI xs.length x) : EvR e (j + k) (tOp (rIxL K) ta tb) σ H (isA (· ∈ xs)) := fun l H1 hm g Q q =>
  ha l H1 (by omega) g _ fun v H2 g2 p => hb _ H2 (by omega) (e.trans g g2) _ fun w H3 g3 ⟨x, px, r⟩ => by
    cases r
    obtain ⟨p, vs, h1, h2, _, h3⟩ := LsR.go g3 p
    have ok := h x px
    have : ∃ a, atI xs x = some a ∧ a ∈ xs := by
      unfold atI ixN
      obtain ⟨o1, o2⟩ := ok
      by_cases h0 : 0 ≤ x
      · rw [if_pos h0, if_pos o2]
        have hl : x.toNat < xs.length := by omega
        exact ⟨xs[x.toNat], by simp [hl], List.getElem_mem hl⟩
      · rw [if_neg h0, if_pos o1]
        have hl : (x + xs.length).toNat < xs.length := by omega
        exact ⟨xs[(x + xs.length).toNat], by simp [hl], List.getElem_mem hl⟩
    obtain ⟨a, e1, e2⟩ := this
    obtain ⟨v, hv, rv⟩ := atI_rps h3 e1
    exact ⟨p, vs, x, v, h1, rfl, SqL.of h2, hv, q _ _ (e.trans g2 g3) ⟨a, e2, rv⟩⟩
theorem er_lcat {z w : Str} (ha : EvR e j ta σ H (isD z)) (hb : EvR e k tb σ H (isD w)) (hl : z.length + w.length ≤ 100000) : EvR e (j + k) (tOp (fun x y H Q => ∃ i j, x = .str i ∧ y = .str j ∧ i.length + j.length ≤ sizeLine ∧ Q (.str (i ++ j)) H) ta tb) σ H (isD (z ++ w)) :=
  er_opD ha hb fun _ _ H1 r1 r2 Q q => by
    cases r1; cases r2
    exact ⟨z, w, rfl, rfl, sz_le hl, q _ _ (Same.refl _) rfl⟩
/-- t + u of tuples -/
theorem er_catA {α : Type} [PyI α] {xs ys : List α} (ha : EvR e j ta σ H (isD xs)) (hb : EvR e k tb σ H (isD ys)) (hl : xs.length + ys.length ≤ 100000) : EvR e (j + k) (tOp (rCatA K) ta tb) σ H (isD (xs ++ ys)) :=
  er_opD ha hb fun _ _ H1 ⟨p, vs, h1, h2, h3⟩ ⟨p', ws, h1', h2', h3'⟩ Q q => by
    refine ⟨p, p', vs, ws, h1, h1', SqT.of h2, SqT.of h2', by rw [← Rps.len h3, ← Rps.len h3']; exact sz_le hl, fun z => ?_, fun _ z => ?_, fun _ _ l hl' => ?_⟩
    · subst z
      cases h3
      exact q _ _ (Same.refl _) ⟨p', ws, rfl, h2', h3'⟩
    · subst z
      cases h3'
      refine q _ _ (Same.refl _) ⟨p, vs, rfl, h2, ?_⟩
      show Rps H1 (xs ++ []) vs
      rw [List.append_nil]; exact h3
    · refine q _ _ (same_new hl') ⟨l, _, rfl, upd_same, ?_⟩
      exact Rps.app (Rps.tm (Tg.new hl') h3) (Rps.tm (Tg.new hl') h3')
theorem rps_cut {α : Type} [PyI α] {H : Hp} {xs : List α} {vs : List V} (h : Rps H xs vs) (a b : Nat) : Rps H ((xs.drop a).take b) ((vs.drop a).take b) := (h.drop a).take b
def cutL {α : Type} (xs : List α) (lo hi : Option Int) : List α := (xs.drop (HT.sIx xs.length 0 lo)).take (HT.sIx xs.length xs.length hi - HT.sIx xs.length 0 lo)
/-- bounds of slices -/
def EO (e : Ef) (k : Nat) (to : TO) (σ : L2.St) (H : Hp) (o : Option Int) : Prop := ∀ j H1, j + k ≤ e.M → e.R j H H1 → ∀ Q : Option Int → Hp → Prop, (∀ H2, e.R k H1 H2 → Q o H2) → to σ H1 Q
theorem eo_none : EO e 0 tNoPart σ H none := fun l H1 hm g Q q => q H1 (e.refl _)
theorem eo_some {x : Int} (h : EvR e k te σ H (isD x)) : EO e k (tPart te) σ H (some x) := fun l H1 hm g Q q => h l H1 (by omega) g _ fun v H2 g2 r => by
  cases r
  exact ⟨x, rfl, q H2 g2⟩
theorem er_slA {α : Type} [PyI α] {xs : List α} {tl' th : TO} {lo hi : Option Int} (ha : EvR e i ta σ H (isD xs)) (h1 : EO e j tl' σ H lo) (h2 : EO e k th σ H hi) : EvR e (i + j + k) (tSl (rSlA K) ta tl' th) σ H (isD (α := List α) (cutL xs lo hi)) := fun l H1 hm g Q q =>
  ha l H1 (by omega) g _ fun v H2 g2 r => h1 _ H2 (by omega) (e.trans g g2) _ fun H3 g3 => h2 _ H3 (by omega) (e.trans (e.trans g g2) g3) _ fun H4 g4 => by
    obtain ⟨p, vs, e1, e2, e3⟩ := PyI.tm (e.tup g4) (PyI.tm (e.tup g3) r)
    have gg := e.trans (e.trans g2 g3) g4
    have el := Rps.len e3
    refine ⟨p, vs, e1, SqT.of e2, fun ⟨z1, z2⟩ => ?_, fun _ q' hq' => ?_⟩
    · subst e1
      refine q _ _ gg ⟨p, vs, rfl, e2, ?_⟩
      have : cutL xs lo hi = xs := by
        unfold cutL
        rw [el, z1, z2, Nat.sub_zero, List.drop_zero, ← el, List.take_length]
      rw [this]; exact e3
    · refine q _ _ (e.tr0 gg (same_new hq')) ⟨q', _, rfl, upd_same, ?_⟩
      have := Rps.tm (Tg.new (u := .tup (cutV vs lo hi)) hq') (rps_cut e3 (HT.sIx vs.length 0 lo) (HT.sIx vs.length vs.length hi - HT.sIx vs.length 0 lo))
      unfold cutL
      rw [el]
      exact this
theorem er_slS {z : Str} {tl' th : TO} {lo hi : Option Int} (ha : EvR e i ta σ H (isD z)) (h1 : EO e j tl' σ H lo) (h2 : EO e k th σ H hi) (hl : z.length ≤ 100000) : EvR e (i + j + k) (tSl rSlS ta tl' th) σ H (isD (cutS z lo hi)) := fun l H1 hm g Q q =>
  ha l H1 (by omega) g _ fun v H2 g2 r => h1 _ H2 (by omega) (e.trans g g2) _ fun H3 g3 => h2 _ H3 (by omega) (e.trans (e.trans g g2) g3) _ fun H4 g4 => by
    cases r
    exact ⟨z, rfl, sz_le hl, q _ _ (e.trans (e.trans g2 g3) g4) rfl⟩
theorem er_slL {α : Type} [PyI α] {xs : List α} {tl' th : TO} {lo hi : Option Int} (ha : EvR e i ta σ H (isLr K e.S xs)) (h1 : EO e j tl' σ H lo) (h2 : EO e k th σ H hi) : EvR e (i + j + k) (tSl (rSlL K) ta tl' th) σ H (isL (cutL xs lo hi)) := fun l H1 hm g Q q =>
  ha l H1 (by omega) g _ fun v H2 g2 r => h1 _ H2 (by omega) (e.trans g g2) _ fun H3 g3 => h2 _ H3 (by omega) (e.trans (e.trans g g2) g3) _ fun H4 g4 => by
    obtain ⟨p, vs, e1, e2, _, e3⟩ := LsR.go g4 (LsR.go g3 r)
    have gg := e.trans (e.trans g2 g3) g4
    have el := Rps.len e3
    refine ⟨p, vs, e1, SqL.of e2, fun q' hq' => ?_⟩
    refine q _ _ (e.tr0 gg (same_new hq')) ⟨q', _, rfl, e.free gg hq', upd_same, ?_⟩
    have := Rps.tm (Tg.new (u := .lst (cutV vs lo hi)) hq') (rps_cut e3 (HT.sIx vs.length 0 lo) (HT.sIx vs.length vs.length hi - HT.sIx vs.length 0 lo))
    unfold cutL
    rw [el]
    exact this
/-- displays -/
theorem er_pair {α β : Type} [PyI α] [PyI β] {a : α} {b : β} (ha : EvR e j ta σ H (isD a)) (hb : EvR e k tb σ H (isD b)) : EvR e (j + k) (tTup (tCons ta (tCons tb tNil))) σ H (isD (a, b)) := fun l H1 hm g Q q =>
  ea2 ha stay_D hb back_D l H1 (by omega) g _ fun vs H2 g2 ⟨v, w, hv, r1, r2⟩ => by
    subst hv
    exact ⟨sz_le (n := 2) (by decide), fun p hp => q _ _ (e.tr0 g2 (same_new hp)) ⟨p, v, w, rfl, upd_same, PyI.tm (Tg.new hp) r1, PyI.tm (Tg.new hp) r2⟩⟩
theorem er_pairA {α β : Type} [PyI α] [PyI β] {P : α → Prop} {P' : β → Prop} (ha : EvR e j ta σ H (isA P)) (hb : EvR e k tb σ H (isA P')) : EvR e (j + k) (tTup (tCons ta (tCons tb tNil))) σ H (isA fun c : α × β => P c.1 ∧ P' c.2) := fun l H1 hm g Q q =>
  ea2 ha stay_A hb back_A l H1 (by omega) g _ fun vs H2 g2 ⟨v, w, hv, ⟨a, pa, r1⟩, b, pb, r2⟩ => by
    subst hv
    exact ⟨sz_le (n := 2) (by decide), fun p hp => q _ _ (e.tr0 g2 (same_new hp)) ⟨(a, b), ⟨pa, pb⟩, p, v, w, rfl, upd_same, PyI.tm (Tg.new hp) r1, PyI.tm (Tg.new hp) r2⟩⟩
/-- a row of data of one kind -/
def EAs {α : Type} [PyI α] (e : Ef) (k : Nat) (ta : TA) (σ : L2.St) (H : Hp) (xs : List α) : Prop := EvA e k ta σ H fun _ H2 vs => Rps H2 xs vs
theorem eas_nil {α : Type} [PyI α] : EAs e 0 tNil σ H ([] : List α) := fun l H1 hm g Q q => q _ H1 (e.refl _) .nil
theorem eas_cons {α : Type} [PyI α] {a : α} {xs : List α} {tr : TA} (h : EvR e j te σ H (isD a)) (hr : EAs e k tr σ H xs) : EAs e (j + k) (tCons te tr) σ H (a :: xs) := fun l H1 hm g Q q =>
  h l H1 (by omega) g _ fun v H2 g2 r => hr _ H2 (by omega) (e.trans g g2) _ fun vs H3 g3 r3 => q _ H3 (e.trans g2 g3) (.cons (PyI.tm (e.tup g3) r) r3)
theorem er_lst {α : Type} [PyI α] {xs : List α} {tr : TA} (h : EAs e k tr σ H xs) (hl : xs.length ≤ 100000) : EvR e k (tLst tr) σ H (isL xs) := fun l H1 hm g Q q =>
  h l H1 (by omega) g _ fun vs H2 g2 r => ⟨by rw [← Rps.len r]; exact sz_le hl, fun p hp => q _ _ (e.tr0 g2 (same_new hp)) ⟨p, vs, rfl, e.free g2 hp, upd_same, Rps.tm (Tg.new hp) r⟩⟩
theorem er_tup {α : Type} [PyI α] {xs : List α} {tr : TA} (h : EAs e k tr σ H xs) (hl : xs.length ≤ 100000) : EvR e k (tTup tr) σ H (isD (α := List α) xs) := fun l H1 hm g Q q =>
  h l H1 (by omega) g _ fun vs H2 g2 r => ⟨by rw [← Rps.len r]; exact sz_le hl, fun p hp => q _ _ (e.tr0 g2 (same_new hp)) ⟨p, vs, rfl, upd_same, Rps.tm (Tg.new hp) r⟩⟩
/-- a new list may be read -/
theorem not_S {e : Ef} (hS : ∀ a, e.S a → ∃ o, H a = some o) {p : Addr} (hn : H p = none) : ¬ e.S p := fun z => by
  obtain ⟨o, ho⟩ := hS p z
  rw [hn] at ho
  cases ho
theorem er_rd {α : Type} [PyI α] {xs : List α} (hS : ∀ a, e.S a → ∃ o, H a = some o) (h : EvR e k te σ H (isL xs)) : EvR e k te σ H (isLr K e.S xs) := fun l H1 hm g Q q =>
  h l H1 (by omega) g _ fun v H2 g2 ⟨p, vs, h1, h2, h3, h4⟩ => q v H2 g2 ⟨p, vs, h1, h3, not_S hS (e.free g h2), h4⟩
/-- len -/
abbrev rLenS (K : PySem.W.Frag) : List V → Hp → VK → Prop := fun xs H Q => ∃ p ys, xs = [.ref p] ∧ (SqL K H p ys ∨ SqT K H p ys) ∧ Q (.int ys.length) H
theorem er_lenT {α : Type} [PyI α] {xs : List α} (ha : EvR e j ta σ H (isD xs)) : EvR e j (tCB (rLenS K) (tCons ta tNil)) σ H (isD ((List.length xs : Nat) : Int)) :=
  er_cb (ea1 ha) back_D fun l H1 H2 vs g g2 ⟨v, ev, p, ws, h1, h2, h3⟩ Q q => by
    subst ev; subst h1
    exact ⟨p, ws, rfl, .inr (SqT.of h2), q _ _ (Same.refl _) (by rw [← Rps.len h3]; exact rfl)⟩
theorem er_lenL {α : Type} [PyI α] {xs : List α} (ha : EvR e j ta σ H (isLr K e.S xs)) : EvR e j (tCB (rLenS K) (tCons ta tNil)) σ H (isD ((xs.length : Nat) : Int)) :=
  er_cb (ea1 ha) back_D fun l H1 H2 vs g g2 ⟨v, ev, p, ws, h1, h2, _, h3⟩ Q q => by
    subst ev; subst h1
    exact ⟨p, ws, rfl, .inl (SqL.of h2), q _ _ (Same.refl _) (by rw [← Rps.len h3]; exact rfl)⟩
abbrev rLenZ : List V → Hp → VK → Prop := fun xs H Q => ∃ z, xs = [.str z] ∧ z.length ≤ sizeLine ∧ Q (.int z.length) H
theorem er_lenS {z : Str} (ha : EvR e j ta σ H (isD z)) (hl : z.length ≤ 100000) : EvR e j (tCB rLenZ (tCons ta tNil)) σ H (isD ((z.length : Nat) : Int)) :=
  er_cb (ea1 ha) back_D fun l H1 H2 vs g g2 ⟨v, ev, r⟩ Q q => by
    subst ev; cases r
    exact ⟨z, rfl, sz_le hl, q _ _ (Same.refl _) rfl⟩
abbrev rAbs : List V → Hp → VK → Prop := fun xs H Q => ∃ i, xs = [.int i] ∧ Q (.int (if i < 0 then -i else i)) H
theorem er_abs {x : Int} (ha : EvR e j ta σ H (isD x)) : EvR e j (tCB rAbs (tCons ta tNil)) σ H (isD (if x < 0 then -x else x)) :=
  er_cb (ea1 ha) back_D fun l H1 H2 vs g g2 ⟨v, ev, r⟩ Q q => by
    subst ev; cases r
    exact ⟨x, rfl, q _ _ (Same.refl _) rfl⟩
end

/-! ### statements -/
section
variable {K : PySem.W.Frag} {e : Ef} {σ : L2.St} {H H' : Hp} {ta tb te tc tl : TE} {t u : TT} {i j k m n : Nat} {v : V} {D : Ends} {tu tw : TS}
theorem st_seq (h : tu { D with nx := tw D } σ H) : tSeq tu tw D σ H := h
theorem st_asg {Φ : Hp → Hp → V → Prop} (h : EvR e k te σ H Φ) (q : ∀ v H1, e.R k H H1 → Φ H H1 v → D.nx (σ.set i (some v)) H1) (hk' : k ≤ e.M := by exact Nat.le_of_ble_eq_true rfl) : tAsg te (gName i) D σ H := h 0 H (by omega) (e.refl H) _ q
theorem st_ret {Φ : Hp → Hp → V → Prop} (h : EvR e k te σ H Φ) (q : ∀ v H1, e.R k H H1 → Φ H H1 v → D.rt v H1) (hk' : k ≤ e.M := by exact Nat.le_of_ble_eq_true rfl) : tRet te D σ H := h 0 H (by omega) (e.refl H) _ q
theorem st_drop {Φ : Hp → Hp → V → Prop} (h : EvR e k te σ H Φ) (q : ∀ v H1, e.R k H H1 → Φ H H1 v → D.nx σ H1) (hk' : k ≤ e.M := by exact Nat.le_of_ble_eq_true rfl) : tDrop te D σ H := h 0 H (by omega) (e.refl H) _ q
theorem st_un2 {α β : Type} [PyI α] [PyI β] {c : α × β} (h : EvR e k te σ H (isD c)) (q : ∀ x y H1, e.R k H H1 → Rp H1 c.1 x → Rp H1 c.2 y → D.nx ((σ.set i (some x)).set j (some y)) H1) (hk' : k ≤ e.M := by exact Nat.le_of_ble_eq_true rfl) :
    tAsg te (gTup K 2 (gCons (gName i) (gCons (gName j) gNil))) D σ H := h 0 H (by omega) (e.refl H) _ fun v H1 g ⟨p, x, y, h1, h2, h3, h4⟩ => ⟨p, [x, y], h1, SqT.of h2, rfl, x, [y], rfl, y, [], rfl, rfl, q x y H1 g h3 h4⟩
theorem st_if {P : Bool → Prop} (h : ET e k t σ H P) (h1 : P true → ∀ H1, e.R k H H1 → tu D σ H1) (h2 : P false → ∀ H1, e.R k H H1 → tw D σ H1) (hk' : k ≤ e.M := by exact Nat.le_of_ble_eq_true rfl) : tIfS t tu tw D σ H := h 0 H (by omega) (e.refl H) _ fun b H1 g p => by
  cases b with
  | true => exact h1 p H1 g
  | false => exact h2 p H1 g
theorem st_next (h : D.nx σ H) : tNext D σ H := h
theorem st_break (h : D.bk σ H) : tBreak D σ H := h
theorem st_cont (h : D.ct σ H) : tCont D σ H := h
/-- if t: x = e; told by what x has behind it: some value with Φ -/
theorem st_ifA {α : Type} [PyI α] {P : Bool → Prop} {P1 : α → Prop} {v0 : V} {a0 : α} (h : ET e j t σ H P) (h1 : P true → EvR e k te σ H (isA P1)) (hv : σ[i]? = some (some v0)) (r0 : Rp H a0 v0) (h2 : P false → P1 a0)
    (q : ∀ a v H1, e.R (j + k) H H1 → P1 a → Rp H1 a v → D.nx (σ.set i (some v)) H1) (hk' : j + k ≤ e.M := by exact Nat.le_of_ble_eq_true rfl) : tIfS t (tAsg te (gName i)) tNext D σ H := h 0 H (by omega) (e.refl H) _ fun b H1 g p => by
  cases b with
  | true => exact h1 p _ H1 (by omega) g _ fun v H2 g2 ⟨a, p1, r⟩ => q a v H2 (e.trans g g2) p1 r
  | false =>
    have e0 : σ.set i (some v0) = σ := by
      have hi := (List.getElem?_eq_some_iff.mp hv)
      obtain ⟨hl, he⟩ := hi
      rw [← he, List.set_getElem_self]
    show D.nx σ H1
    rw [← e0]
    exact q a0 v0 H1 (e.mono g (Nat.le_add_right _ _)) (h2 p) (PyI.tm (e.tup g) r0)
/-- xs.append(e) -/
theorem st_app {Φ : Hp → Hp → V → Prop} {l : Addr} {vs : List V} {iv : Nat} (hv : σ[iv]? = some (some (.ref l))) (hl : H l = some (.lst vs)) (hnS : ¬ e.S l) (h : EvR e k te σ H Φ) (hz : vs.length < 100000)
    (q : ∀ v H1, e.R k H H1 → Φ H H1 v → D.nx σ (upd H1 l (.lst (vs ++ [v])))) (hk' : k ≤ e.M := by exact Nat.le_of_ble_eq_true rfl) : tDrop (tBM K "list" rAppend (tVar iv) (tCons te tNil)) D σ H :=
  ⟨.ref l, hv, .inl ⟨rfl, vs, SqL.of hl⟩, h 0 H (by omega) (e.refl H) _ fun v H1 g p => ⟨l, vs, v, rfl, rfl, e.oth g _ _ hl hnS, sz_lt hz, q v H1 g p⟩⟩
/-- loops -/
theorem st_forR1 {ta : TA} {n : Int} {c : Nat} (h : EvA e k ta σ H fun _ _ vs => vs = [.int n]) (hn : n ≤ 100000000) (h0' : -100000000 ≤ n) (Pv : Nat → L2.St → Hp → Prop) (h0 : ∀ H1, e.R k H H1 → Pv 0 σ H1)
    (hs : ∀ (i : Nat) σ' H', (i : Int) < n → Pv i σ' H' → tu { D with nx := Pv (i + 1), ct := Pv (i + 1), bk := D.nx } (σ'.set j (some (.int (i : Int)))) H') (hd : ∀ σ' H', Pv n.toNat σ' H' → D.nx σ' H') (hk' : k ≤ e.M := by exact Nat.le_of_ble_eq_true rfl) : tFor (iRng1 ta) (gName j) tu D σ H :=
  h 0 H (by omega) (e.refl H) _ fun vs H1 g ev => by
    subst ev
    exact ⟨n, rfl, by omega, by omega, for_range (lo := 0) (n := n.toNat) Pv (h0 H1 g) (fun i σ' H' hi p => by
      have e0 : (0 : Int) + (i : Int) = (i : Int) := Int.zero_add _
      show tu { D with nx := Pv (i + 1), ct := Pv (i + 1), bk := D.nx } (σ'.set j (some (.int ((0 : Int) + (i : Int))))) H'
      rw [e0]
      exact hs i σ' H' (by omega) p) hd⟩
/-- over a list -/
theorem st_forL {α : Type} [PyI α] {xs : List α} (h : EvR e k tl σ H (isLr K e.S xs))
    (q : ∀ p vs H1, e.R k H H1 → H1 p = some (.lst vs) → ¬ e.S p → Rps H1 xs vs → ∃ Pv : Nat → L2.St → Hp → Prop, Pv 0 σ H1 ∧ (∀ i σ' H', Pv i σ' H' → H' p = some (.lst vs)) ∧
      (∀ i a x σ' H', xs[i]? = some a → Rp H1 a x → Pv i σ' H' → tu { D with nx := Pv (i + 1), ct := Pv (i + 1), bk := D.nx } (σ'.set j (some x)) H') ∧ ∀ σ' H', Pv xs.length σ' H' → D.nx σ' H') (hk' : k ≤ e.M := by exact Nat.le_of_ble_eq_true rfl) : tFor (iList K tl) (gName j) tu D σ H := by
  refine h 0 H (by omega) (e.refl H) _ fun v H1 g ⟨p, vs, h1, h2, h3, h4⟩ => ?_
  obtain ⟨Pv, h0, hl, hs, hd⟩ := q p vs H1 g h2 h3 h4
  refine ⟨p, h1, ⟨vs, SqL.of h2⟩, for_list (xs := vs) Pv h0 (fun i σ' H' _ p => SqL.of (hl i σ' H' p)) (fun i x σ' H' hi p => ?_) (by rw [← h4.len]; exact hd)⟩
  obtain ⟨a, ha, ra⟩ := h4.getV hi
  exact hs i a x σ' H' ha ra p
theorem st_forN {α : Type} [PyI α] {xs : List α} (h : EvR e k tl σ H (isL xs))
    (q : ∀ p vs H1, e.R k H H1 → H p = none → H1 p = some (.lst vs) → Rps H1 xs vs → ∃ Pv : Nat → L2.St → Hp → Prop, Pv 0 σ H1 ∧ (∀ i σ' H', Pv i σ' H' → H' p = some (.lst vs)) ∧
      (∀ i a x σ' H', xs[i]? = some a → Rp H1 a x → Pv i σ' H' → tu { D with nx := Pv (i + 1), ct := Pv (i + 1), bk := D.nx } (σ'.set j (some x)) H') ∧ ∀ σ' H', Pv xs.length σ' H' → D.nx σ' H') (hk' : k ≤ e.M := by exact Nat.le_of_ble_eq_true rfl) : tFor (iList K tl) (gName j) tu D σ H := by
  refine h 0 H (by omega) (e.refl H) _ fun v H1 g ⟨p, vs, h1, hn, h2, h4⟩ => ?_
  obtain ⟨Pv, h0, hl, hs, hd⟩ := q p vs H1 g hn h2 h4
  refine ⟨p, h1, ⟨vs, SqL.of h2⟩, for_list (xs := vs) Pv h0 (fun i σ' H' _ p => SqL.of (hl i σ' H' p)) (fun i x σ' H' hi p => ?_) (by rw [← h4.len]; exact hd)⟩
  obtain ⟨a, ha, ra⟩ := h4.getV hi
  exact hs i a x σ' H' ha ra p
/-- while, by a word that falls -/
theorem st_while (W : Nat → L2.St → Hp → Prop) (m0 : Nat) (h0 : W m0 σ H)
    (hs : ∀ m σ' H', W m σ' H' → ∃ k P, k ≤ e.M ∧ ET e k t σ' H' P ∧ (P true → ∀ H1, e.R k H' H1 → tu { D with nx := fun σ2 H2 => ∃ m', m' < m ∧ W m' σ2 H2, ct := fun σ2 H2 => ∃ m', m' < m ∧ W m' σ2 H2, bk := D.nx } σ' H1) ∧ (P false → ∀ H1, e.R k H' H1 → D.nx σ' H1)) : tWhile t tu D σ H :=
  ⟨W, ⟨m0, h0⟩, fun m σ' H' hw => by
    obtain ⟨k, P, hk', hb, h1, h2⟩ := hs m σ' H' hw
    refine hb 0 H' (by omega) (e.refl H') _ fun b H1 g p => ?_
    cases b with
    | true => exact ⟨_, fun _ _ h => h, h1 p H1 g⟩
    | false => exact h2 p H1 g⟩
/-- comprehensions over a list, exact -/
def Lcw {β : Type} [PyI β] (H1 : Hp) (ys : List β) (Dl : Addr) (H' : Hp) : Prop := H1 Dl = none ∧ Same H1 H' ∧ ∃ vs, H' Dl = some (.lst vs) ∧ Rps H' ys vs
theorem same_chg {H1 H2 : Hp} {a : Addr} {o : HO} (s : Same H1 H2) (n : H1 a = none) : Same H1 (upd H2 a o) := fun b u h => by rw [upd_ne (ne_of_none h n)]; exact s b u h
theorem er_lcL {α β : Type} [PyI α] [PyI β] {xs : List α} {vs : List Nat} {c : α → Bool} {f : α → β} (h : EvR e k tl σ H (isL xs) ∨ EvR e k tl σ H (isLr K e.S xs)) (hz : xs.length ≤ 100000) (hw : ∀ x, wipe ((wipe σ vs).set j (some x)) vs = wipe σ vs)
    (hc : ∀ a x l H1, a ∈ xs → e.R l H H1 → Rp H1 a x → ET ef0 0 t ((wipe σ vs).set j (some x)) H1 (· = c a)) (he : ∀ a x l H1, a ∈ xs → c a = true → e.R l H H1 → Rp H1 a x → EvR ef0 0 te ((wipe σ vs).set j (some x)) H1 (isD (f a))) :
    EvR e k (tLc (iList K tl) (gName j) t te vs) σ H (isL ((xs.filter c).map f)) := fun l H0 hm g0 Q q => by
  have core : ∀ H1 p ws, e.R k H0 H1 → H1 p = some (.lst ws) → Rps H1 xs ws → (iList K (fun _ _ Q => Q (.ref p) H1)) σ H0 fun J H1 => ∀ D, H1 D = none → ∃ W : Nat → Nat → Hp → Prop, (∃ m, W 0 m (upd H1 D (.lst []))) ∧ ∀ i m H, W i m H →
  (J.stop i H ∧ Q (.ref D) H) ∨ (J.go i H ∧ ∃ Nx : Hp → Prop, (∀ H', Nx H' → ∃ m', m' < m ∧ W (i + 1) m' H') ∧ ∀ x H', J.yld i H x H' → (gName j) x (wipe σ vs) H' fun σ2 H2 => wipe σ2 vs = wipe σ vs ∧ t σ2 H2 fun b H3 =>
    if b = true then te σ2 H3 fun y H4 => ∃ acc, H4 D = some (.lst acc) ∧ acc.length < sizeLine ∧ Nx (upd H4 D (.lst (acc ++ [y]))) else Nx H3) := fun H1 p ws g h2 h4 => by
    refine ⟨p, rfl, ⟨ws, SqL.of h2⟩, fun Dl hD => lc_list (xs := ws) (fun i H' => Lcw H1 (((xs.take i).filter c).map f) Dl H') ⟨hD, same_new hD, [], upd_same, .nil⟩ (fun i H' _ pp => SqL.of (pp.2.1 p _ h2)) (fun i x H' hi pp => ?_) fun H' pp => ?_⟩
    · obtain ⟨n1, s1, vs', h5, h6⟩ := pp
      obtain ⟨a, ha, ra⟩ := h4.getV hi
      have hmem : a ∈ xs := List.mem_of_getElem? ha
      have et : xs.take (i + 1) = xs.take i ++ [a] := by rw [List.take_add_one, ha]; rfl
      have hil : i < xs.length := (List.getElem?_eq_some_iff.mp ha).1
      have gH' : e.R _ H H' := e.tr0 (e.trans g0 g) s1
      have ra' : Rp H' a x := PyI.tm (fun b ys hb => s1 b _ hb) ra
      refine ⟨hw x, hc a x _ H' hmem gH' ra' 0 H' (by decide) (Same.refl _) _ fun b H3 g3 hb => ?_⟩
      subst hb
      cases hca : c a with
      | true =>
        have ra3 : Rp H3 a x := PyI.tm (ef0.tup g3) ra'
        refine he a x _ H3 hmem hca (e.tr0 gH' g3) ra3 0 H3 (by decide) (Same.refl _) _ fun y H4 g4 hy => ?_
        have hl : vs'.length < sizeLine := by
          rw [← h6.len, List.length_map]
          have h7 := List.length_filter_le c (xs.take i)
          rw [List.length_take] at h7
          exact sz_lt (by omega)
        refine ⟨vs', g4 _ _ (g3 _ _ h5), hl, n1, same_chg ((s1.trans g3).trans g4) n1, vs' ++ [y], upd_same, ?_⟩
        have e1 : ((xs.take (i + 1)).filter c).map f = ((xs.take i).filter c).map f ++ [f a] := by
          rw [et, List.filter_append, List.map_append, List.filter_cons, if_pos hca]
          simp
        rw [e1]
        have t4 : Tg H4 (upd H4 Dl (.lst (vs' ++ [y]))) := Tg.upd (g4 _ _ (g3 _ _ h5)) (fun _ z => by cases z)
        exact Rps.snoc (Rps.tm (((ef0.tup (i := 0) g3).trans (ef0.tup (i := 0) g4)).trans t4) h6) (PyI.tm t4 hy)
      | false =>
        show Lcw H1 _ Dl H3
        refine ⟨n1, s1.trans g3, vs', g3 _ _ h5, ?_⟩
        have e1 : ((xs.take (i + 1)).filter c).map f = ((xs.take i).filter c).map f := by
          rw [et, List.filter_append, List.map_append, List.filter_cons, if_neg (by rw [hca]; decide)]
          simp
        rw [e1]
        exact Rps.tm (ef0.tup (i := 0) g3) h6
    · obtain ⟨n1, s1, vs', h5, h6⟩ := pp
      rw [← h4.len, List.take_length] at h6
      exact q _ _ (e.tr0 g s1) ⟨Dl, vs', rfl, e.free g n1, h5, h6⟩
  rcases h with h | h
  · refine h _ H0 (by omega) g0 _ fun v H1 g ⟨p, ws, h1, _, h2, h4⟩ => ?_
    subst h1
    exact core H1 p ws g h2 h4
  · refine h _ H0 (by omega) g0 _ fun v H1 g ⟨p, ws, h1, h2, _, h4⟩ => ?_
    subst h1
    exact core H1 p ws g h2 h4
end
end Z

namespace Z
open PySem PySem.Spec PyProof.Rows L2
/-- a def of the module that keeps its promise -/
def Has (P : Program) (w : World) (K : PySem.W.Frag) (mg : Str → Option Value) (base : Heap) (x : Str) (k : Nat) (ps : List Str) (sp : Sp) : Prop :=
  ∃ f fd, mg x = some (.ref f) ∧ PySem.W.keepIn K (.ref f) = true ∧ Binds K fd ps [] ∧ FnOk P w K mg base CX0 k f fd ps sp
/-- a def as the top left it -/
def At (K : PySem.W.Frag) (mg : Str → Option Value) (x : Str) (st : Stmt) (ps : List Str) : Prop :=
  ∃ f fd, mg x = some (.ref f) ∧ Fun K x x st f fd ∧ Binds K fd ps []
section
variable {X : Cx}
theorem pe_user {x : Str} {k : Nat} {ps : List Str} {sp : Sp} {a : Expr} {es : List Expr} {t : TA} {p pos : Pos} (h : Has X.prog X.w X.K X.mg X.base x k ps sp) (hr : Room k X.A) (hg : Gl X x) (ha : PA X (a :: es) t)
    (hdb : (x == ("__debug__" : Str)) = false := by decide) (he : starEach (a :: es) X.env = (false, eval a X.env) :: starEach es X.env := by rfl) (hpl : (backTo pos (starEach es X.env)).any (·.1) = false := by rfl) :
    PE X (.Call (.Name x p) (a :: es) [] pos) (tCall sp [] E0 t) := by
  obtain ⟨f, fd, hm, hk, hb, hF⟩ := h
  exact pe_call hF hr hg hm hk hb .nil pass0 ha hdb he hpl
end
theorem Has.of {P : Program} {w : World} {K : PySem.W.Frag} {mg : Str → Option Value} {base : Heap} {x : Str} {st : Stmt} {N ps : List Str} {k : Nat} {sp : Sp} (F : At K mg x st ps) (S : FnScope N ps (defScope st)) (len : ∀ vs H Q E, sp vs H Q E → vs.length = ps.length)
    (hbody : ∀ (f : Addr) (cdv : Value) (A : Around) (outer : List Env) (s : Shared) (H : Hp) (vs : List V) (Q : VK) (E : XK), Room k (A.deeper (envOfC x (defScope st) s.heap.objs.size f cdv)) → sp vs H Q E →
      ∃ t, PSs (cxOf CX0 P w K mg base N x (defScope st) f cdv A outer s H E).nox (defBody st) t ∧ t { nx := fun _ H' => Q .non H', rt := Q } (start N vs) H) : Has P w K mg base x (k + 1) ps sp := by
  obtain ⟨f, fd, hm, hF, hb⟩ := F
  exact ⟨f, fd, hm, hF.kp, hb, hF.ok S len fun cdv A outer s H vs Q E => hbody f cdv A outer s H vs Q E⟩
end Z

namespace Z
open PySem PySem.Spec PyProof.Rows L2
section
variable {K : PySem.W.Frag} {e : Ef} {σ : L2.St} {H H' : Hp} {ta tb te tc tl : TE} {t u : TT} {i j k m n : Nat} {v : V}
theorem lsr_of {α : Type} [PyI α] {xs : List α} {p : Addr} {vs : List V} (h : H p = some (.lst vs)) (hS : ¬ e.S p) (r : Rps H xs vs) : LsR K e.S H xs (.ref p) := ⟨p, vs, rfl, h, hS, r⟩
theorem et_yes : ET ef0 0 tYes σ H (· = true) := fun l H1 hm g Q q => q true H1 (Same.refl _) rfl
theorem er_neg {x : Int} (ha : EvR e j ta σ H (isD x)) : EvR e j (tUn (rU fun i => .int (-i)) ta) σ H (isD (-x)) := fun l H1 hm g Q q => ha l H1 (by omega) g _ fun v H2 g2 r => by
  cases r
  exact ⟨x, rfl, q _ H2 g2 rfl⟩
theorem er_isN {α : Type} [PyI α] {o : Option α} (ha : EvR e j ta σ H (isD o)) : EvR e j (tIsN ta) σ H (isD o.isNone) := fun l H1 hm g Q q => ha l H1 (by omega) g _ fun v H2 g2 r => by
  cases o with
  | none =>
    cases r
    exact q _ H2 g2 rfl
  | some a => exact q _ H2 g2 (by rw [decide_eq_false r.1]; exact rfl)
theorem er_notN {α : Type} [PyI α] {o : Option α} (ha : EvR e j ta σ H (isD o)) : EvR e j (tNotN ta) σ H (isD o.isSome) := fun l H1 hm g Q q => ha l H1 (by omega) g _ fun v H2 g2 r => by
  cases o with
  | none =>
    cases r
    exact q _ H2 g2 rfl
  | some a => exact q _ H2 g2 (by rw [decide_eq_false r.1]; exact rfl)
/-- demonic comparisons -/
theorem er_iopA {γ : Type} [PyI γ] {f : Int → Int → V} {g : Int → Int → γ} {P P' : Int → Prop} (ha : EvR e j ta σ H (isA P)) (hb : EvR e k tb σ H (isA P')) (hv : ∀ H x y, Rp H (g x y) (f x y)) : EvR e (j + k) (tOp (rI0 f) ta tb) σ H (isA fun c => ∃ x y, P x ∧ P' y ∧ c = g x y) :=
  er_op ha hb fun a b _ _ H1 pa pb r1 r2 Q q => by cases r1; cases r2; exact ⟨a, b, rfl, rfl, q (g a b) _ _ (Same.refl _) ⟨a, b, pa, pb, rfl⟩ (hv _ _ _)⟩
section
variable {P P' : Int → Prop} (ha : EvR e j ta σ H (isA P)) (hb : EvR e k tb σ H (isA P'))
include ha hb
theorem er_addA : EvR e (j + k) (tOp (rI0 fun i j => .int (i + j)) ta tb) σ H (isA fun c : Int => ∃ x y, P x ∧ P' y ∧ c = x + y) := er_iopA ha hb fun _ _ _ => rfl
theorem er_subA : EvR e (j + k) (tOp (rI0 fun i j => .int (i - j)) ta tb) σ H (isA fun c : Int => ∃ x y, P x ∧ P' y ∧ c = x - y) := er_iopA ha hb fun _ _ _ => rfl
theorem er_ltA : EvR e (j + k) (tOp (rI0 fun i j => .bl (decide (i < j))) ta tb) σ H (isA fun c : Bool => ∃ x y, P x ∧ P' y ∧ c = decide (x < y)) := er_iopA ha hb fun _ _ _ => rfl
theorem er_leA : EvR e (j + k) (tOp (rI0 fun i j => .bl (decide (i ≤ j))) ta tb) σ H (isA fun c : Bool => ∃ x y, P x ∧ P' y ∧ c = decide (x ≤ y)) := er_iopA ha hb fun _ _ _ => rfl
theorem er_gtA : EvR e (j + k) (tOp (rI0 fun i j => .bl (decide (j < i))) ta tb) σ H (isA fun c : Bool => ∃ x y, P x ∧ P' y ∧ c = decide (y < x)) := er_iopA ha hb fun _ _ _ => rfl
theorem er_geA : EvR e (j + k) (tOp (rI0 fun i j => .bl (decide (j ≤ i))) ta tb) σ H (isA fun c : Bool => ∃ x y, P x ∧ P' y ∧ c = decide (y ≤ x)) := er_iopA ha hb fun _ _ _ => rfl
theorem er_mulA (hc : ∀ x y, P x → P' y → CMul x y) : EvR e (j + k) (tOp (rI CMul fun i j => .int (i * j)) ta tb) σ H (isA fun c : Int => ∃ x y, P x ∧ P' y ∧ c = x * y) :=
  er_op ha hb fun a b _ _ H1 pa pb r1 r2 Q q => by cases r1; cases r2; exact ⟨a, b, rfl, rfl, hc a b pa pb, q (a * b) _ _ (Same.refl _) ⟨a, b, pa, pb, rfl⟩ rfl⟩
theorem er_modA (hc : ∀ y, P' y → 0 < y) : EvR e (j + k) (tOp (rI (fun _ j => 0 < j) fun i j => .int (i % j)) ta tb) σ H (isA fun c : Int => ∃ x y, P x ∧ P' y ∧ c = x % y) :=
  er_op ha hb fun a b _ _ H1 pa pb r1 r2 Q q => by cases r1; cases r2; exact ⟨a, b, rfl, rfl, hc b pb, q (a % b) _ _ (Same.refl _) ⟨a, b, pa, pb, rfl⟩ rfl⟩
theorem er_fdivA (hc : ∀ x y, P x → P' y → CDiv x y) : EvR e (j + k) (tOp (rI CDiv fun i j => .int (i / j)) ta tb) σ H (isA fun c : Int => ∃ x y, P x ∧ P' y ∧ c = x / y) :=
  er_op ha hb fun a b _ _ H1 pa pb r1 r2 Q q => by cases r1; cases r2; exact ⟨a, b, rfl, rfl, hc a b pa pb, q (a / b) _ _ (Same.refl _) ⟨a, b, pa, pb, rfl⟩ rfl⟩
end
theorem er_eqA {α : Type} [PyI α] [DecidableEq α] [Scal α] {P P' : α → Prop} (ha : EvR e j ta σ H (isA P)) (hb : EvR e k tb σ H (isA P')) : EvR e (j + k) (tOp rEq ta tb) σ H (isA fun c : Bool => ∃ x y, P x ∧ P' y ∧ c = decide (x = y)) :=
  er_op ha hb fun a b _ _ H1 pa pb r1 r2 Q q => by
    rw [Scal.rv r1, Scal.rv r2]
    exact ⟨Scal.sc a b, q _ _ _ (Same.refl _) ⟨a, b, pa, pb, rfl⟩ (by rw [scal_dec]; exact (rfl : _ = V.bl _))⟩
theorem et_tA {P : Bool → Prop} (h : EvR e k te σ H (isA P)) : ET e k (tTest te) σ H P := et_test h
theorem et_BA {P : Bool → Prop} (h : EvR e k te σ H (isA P)) : ET e k (tB te) σ H P := et_B h
/-- whatever: a test of which nothing is told -/
theorem et_any {P : Bool → Prop} (h : ET e k t σ H P) : ET e k t σ H (fun _ => True) := h.wk fun _ _ => True.intro

/-! triples -/
structure Tri (α β γ : Type) where
  a : α
  b : β
  c : γ
instance {α β γ : Type} [PyI α] [PyI β] [PyI γ] : PyI (Tri α β γ) := ⟨fun H c v => ∃ p x y z, v = .ref p ∧ H p = some (.tup [x, y, z]) ∧ Rp H c.a x ∧ Rp H c.b y ∧ Rp H c.c z, fun t ⟨p, x, y, z, h1, h2, h3, h4, h5⟩ => ⟨p, x, y, z, h1, t _ _ h2, PyI.tm t h3, PyI.tm t h4, PyI.tm t h5⟩⟩

/-! dicts from squares to ints -/
def lookK (kvs : List (Sq × Int)) (q : Sq) : Option Int := (kvs.find? fun p => decide (p.1 = q)).map (·.2)
def hasK (kvs : List (Sq × Int)) (q : Sq) : Bool := (lookK kvs q).isSome
theorem kSq_inj {p q : Sq} : kSq p = kSq q ↔ p = q := by
  unfold kSq
  constructor
  · intro h
    injection h with h1 h2
    injection h2 with h2 _
    injection h1 with h1
    injection h2 with h2
    exact Prod.ext h1 h2
  · intro h; rw [h]
theorem valV_DI (kvs : List (Sq × Int)) (q : Sq) : valV (DI kvs) (kSq q) = (lookK kvs q).map V.int := by
  unfold valV lookK DI
  rw [List.find?_map, Option.map_map, Option.map_map]
  have : (fun kv : List Key × V => decide (kv.1 = kSq q)) ∘ (fun p : Sq × Int => (kSq p.1, V.int p.2)) = fun p => decide (p.1 = q) := by
    funext p
    show decide (kSq p.1 = kSq q) = decide (p.1 = q)
    by_cases h : p.1 = q
    · rw [decide_eq_true h, decide_eq_true (kSq_inj.mpr h)]
    · rw [decide_eq_false h, decide_eq_false (fun z => h (kSq_inj.mp z))]
  rw [this]; rfl
def putQ (kvs : List (Sq × Int)) (q : Sq) (n : Int) : List (Sq × Int) := if hasK kvs q then kvs.map (fun p => if p.1 = q then (q, n) else p) else kvs ++ [(q, n)]
theorem putK_DI_new {kvs : List (Sq × Int)} {q : Sq} {n : Int} (h : lookK kvs q = none) : putK (DI kvs) (kSq q) (V.int n) = DI (kvs ++ [(q, n)]) := by
  rw [putK_new _ (by rw [valV_DI, h]; rfl)]
  unfold DI
  rw [List.map_append]; rfl
theorem rp_key {q : Sq} {x : V} (h : Rp H q x) : ∃ b, x = .ref b ∧ H b = some (.tup ((kSq q).map kV)) := by
  obtain ⟨p, a, b, h1, h2, h3, h4⟩ := h
  cases h3; cases h4
  exact ⟨p, h1, h2⟩
theorem er_din {kvs : List (Sq × Int)} {q : Sq} {p : Addr} {iv : Nat} {ty : TE} (hv : σ[iv]? = some (some (.ref p))) (hp : H p = some (.dT (DI kvs))) (hS : ¬ e.S p) (hk : EvR e k ty σ H (isD q)) : EvR e k (tDIn ty (tVar iv)) σ H (isD (hasK kvs q)) := fun l H1 hm g Q qq =>
  hk l H1 (by omega) g _ fun y H2 g2 r => by
    obtain ⟨b, e1, e2⟩ := rp_key r
    subst e1
    refine ⟨_, hv, p, _, rfl, DGet.t (e.oth (e.trans g g2) _ _ hp hS) e2, ?_⟩
    rw [valV_DI]
    exact qq _ H2 g2 (by unfold hasK; rw [Option.isSome_map]; exact rfl)
theorem er_dnotin {kvs : List (Sq × Int)} {q : Sq} {p : Addr} {iv : Nat} {ty : TE} (hv : σ[iv]? = some (some (.ref p))) (hp : H p = some (.dT (DI kvs))) (hS : ¬ e.S p) (hk : EvR e k ty σ H (isD q)) : EvR e k (tDNotIn ty (tVar iv)) σ H (isD (!hasK kvs q)) := fun l H1 hm g Q qq =>
  hk l H1 (by omega) g _ fun y H2 g2 r => by
    obtain ⟨b, e1, e2⟩ := rp_key r
    subst e1
    refine ⟨_, hv, p, _, rfl, DGet.t (e.oth (e.trans g g2) _ _ hp hS) e2, ?_⟩
    rw [valV_DI]
    exact qq _ H2 g2 (by unfold hasK; rw [Option.isSome_map]; exact rfl)
def getK (kvs : List (Sq × Int)) (q : Sq) : Int := (lookK kvs q).getD 0
theorem er_dget {kvs : List (Sq × Int)} {q : Sq} {p : Addr} {iv : Nat} {ty : TE} (hv : σ[iv]? = some (some (.ref p))) (hp : H p = some (.dT (DI kvs))) (hS : ¬ e.S p) (hk : EvR e k ty σ H (isD q)) (hh : hasK kvs q = true) : EvR e k (tDGet (tVar iv) ty) σ H (isD (getK kvs q)) := fun l H1 hm g Q qq =>
  ⟨_, hv, hk l H1 (by omega) g _ fun y H2 g2 r => by
    obtain ⟨b, e1, e2⟩ := rp_key r
    subst e1
    have hg := DGet.t (e.oth (e.trans g g2) _ _ hp hS) e2
    rw [valV_DI] at hg
    obtain ⟨z, hz⟩ := Option.isSome_iff_exists.mp hh
    rw [hz] at hg
    refine ⟨p, _, rfl, hg, qq _ H2 g2 ?_⟩
    unfold getK
    rw [hz]; exact rfl⟩
/-- {k: v}, the key a square -/
def tDisp1 (tk tv : TE) : TE := fun σ H Q => ∀ p, H p = none → tk σ (upd H p (.dT [])) fun x H1 => tv σ H1 fun y H2 => ∃ b key, x = .ref b ∧ H2 b = some (.tup (key.map kV)) ∧ H2 p = some (.dT []) ∧ Q (.ref p) (upd H2 p (.dT [(key, y)]))
theorem er_disp1 {q : Sq} {z : Int} {tk tv : TE} (hS : ∀ a, e.S a → ∃ o, H a = some o) (hk : EvR e j tk σ H (isD q)) (hv : EvR e k tv σ H (isD z)) : EvR e (j + k) (tDisp1 tk tv) σ H (fun H1 H2 v => ∃ p, v = .ref p ∧ H1 p = none ∧ H2 p = some (.dT (DI [(q, z)]))) := fun l H1 hm g Q qq => fun p hp => by
  have nS : ¬ e.S p := not_S hS (e.free g hp)
  refine hk _ _ (by omega) (e.tr0 g (same_new hp)) _ fun x H2 g2 rx => hv _ H2 (by omega) (e.trans (e.tr0 g (same_new hp)) g2) _ fun y H3 g3 ry => ?_
  obtain ⟨b, e1, e2⟩ := rp_key rx
  subst e1
  cases ry
  have g13 : e.R (j + k) H1 H3 := by
    have := e.trans (e.ext (same_new (u := .dT []) hp)) (e.trans g2 g3)
    rw [Nat.zero_add] at this
    exact this
  exact ⟨b, kSq q, rfl, e.tup g3 _ _ e2, e.oth (e.trans g2 g3) _ _ upd_same nS, qq _ _ (e.chg g13 hp) ⟨p, rfl, hp, upd_same⟩⟩
/-- min of four -/
abbrev rMin4 : List V → Hp → VK → Prop := fun xs H Q => ∃ i j k l, xs = [.int i, .int j, .int k, .int l] ∧ Q (.int (min (min i j) (min k l))) H
theorem er_min4 {a b c d : Int} {td : TE} (h1 : EvR e i ta σ H (isD a)) (h2 : EvR e j tb σ H (isD b)) (h3 : EvR e k tc σ H (isD c)) (h4 : EvR e m td σ H (isD d)) :
    EvR e (i + (j + (k + m))) (tCB rMin4 (tCons ta (tCons tb (tCons tc (tCons td tNil))))) σ H (isD (min (min a b) (min c d))) := fun l H1 hm g Q q =>
  h1 l H1 (by omega) g _ fun x H2 g2 r1 => h2 _ H2 (by omega) (e.trans g g2) _ fun y H3 g3 r2 => h3 _ H3 (by omega) (e.trans (e.trans g g2) g3) _ fun z H4 g4 r3 => h4 _ H4 (by omega) (e.trans (e.trans (e.trans g g2) g3) g4) _ fun w H5 g5 r4 => by
    cases r1; cases r2; cases r3; cases r4
    exact ⟨a, b, c, d, rfl, q _ _ (e.trans g2 (e.trans g3 (e.trans g4 g5))) rfl⟩
/-- tuple(a new list) -/
abbrev rTupOf (K : PySem.W.Frag) : List V → Hp → VK → Prop := fun xs H Q => ∃ p ys, xs = [.ref p] ∧ ((SqL K H p ys ∧ ∀ l, H l = none → Q (.ref l) (upd H l (.tup ys))) ∨ (SqT K H p ys ∧ Q (.ref p) H))
theorem er_tuple {α : Type} [PyI α] {xs : List α} (h : EvR e k te σ H (isL xs)) : EvR e k (tCB (rTupOf K) (tCons te tNil)) σ H (isD xs) :=
  er_cb (ea1 h) back_D fun l H1 H2 vs g g2 ⟨v, ev, p, ws, h1, _, h2, h3⟩ Q q => by
    subst ev; subst h1
    exact ⟨p, ws, rfl, .inl ⟨SqL.of h2, fun l hl => q _ _ (same_new hl) ⟨l, ws, rfl, upd_same, Rps.tm (Tg.new hl) h3⟩⟩⟩
/-- isinstance -/
theorem er_isi_int {z : Int} (h : EvR e k te σ H (isD z)) : EvR e k (tCB (rIsi K) (tCons te (tCons (tC (.ty "int")) tNil))) σ H (isD true) := fun l H1 hm g Q q => h l H1 (by omega) g _ fun v H2 g2 r => by
  cases r
  exact ⟨_, _, _, _, true, rfl, .ty _, .base (.int z), kit_ty (by decide +kernel), q _ H2 g2 rfl⟩
theorem er_isi_bool {z : Int} (h : EvR e k te σ H (isD z)) : EvR e k (tCB (rIsi K) (tCons te (tCons (tC (.ty "bool")) tNil))) σ H (isD false) := fun l H1 hm g Q q => h l H1 (by omega) g _ fun v H2 g2 r => by
  cases r
  exact ⟨_, _, _, _, false, rfl, .ty _, .base (.int z), kit_ty (by decide +kernel), q _ H2 g2 rfl⟩
end
/-! ### two rules -/
theorem pe_disp1T {X : Cx} {pos : Pos} {k v : Expr} {tk tv : TE} (hu : X.A.units + 1 < cLine) (hk : PE X k tk) (hv : PE X v tv) : PE X (.Dict [some k] [v] pos) (tDisp1 tk tv) := by
  refine ⟨fun pins s σ H Q I q => ?_⟩
  have hn := I.hok.fresh (Nat.le_refl s.heap.objs.size)
  have I1 := I.laid (a := s.heap.objs.size) (o := .dT []) (h' := s.heap.push { cls := .type "dict", data := .dict #[] }) (t' := s.toks) (fun _ _ q => Heap.get?_push_of_some _ q) (Nat.le_refl _) (dt_empty s.heap I.big)
  have hshape : (evalEachOpt [some k] X.env).zip ((evalEach [v] X.env).map fun v => do let x ← v; standAt pos; pure x) = (pairTrees [some k] [v] X.env pos).map fun p => (some p.1, p.2) := rfl
  have hl1 : (pairTrees [some k] [v] X.env pos).length = 1 := rfl
  have h0 : pairTrees [some k] [v] X.env pos ≠ [] := fun z => by rw [z] at hl1; cases hl1
  rw [arm_eval_Dict, hshape, dictDisplay_pairs (pairTrees [some k] [v] X.env pos) h0 (by omega)]
  refine wpAny_bind (wpAny_standAt (wpAny_bind (wpAny_subDictH (knd := tupleKind (mixKind X.prog X.w)) (Q := fun d s' => wpAny (model X.prog X.w) X.A (pure (Value.ref d)) (EP X pins σ Q) X.xe s') (show X.A.units < cLine by omega) (by omega) ?_)))
  refine thn ((pps_cons hk hv (pps_nil (pos := pos))).run pins _ σ _ (fun ps H2 => match ps with
    | [(x, y)] => ∃ b key, x = .ref b ∧ H2 b = some (.tup (key.map kV)) ∧ H2 s.heap.objs.size = some (.dT []) ∧ Q (.ref s.heap.objs.size) (upd H2 s.heap.objs.size (.dT [(key, y)]))
    | _ => False) I1 (q _ hn)) fun vs s2 ⟨ps, H2, I2, rel, hq⟩ => ?_
  cases rel with
  | nil => exact hq.elim
  | @cons p pv ps vs h t =>
    cases t with
    | cons _ _ => exact hq.elim
    | nil =>
      obtain ⟨x, y⟩ := p
      obtain ⟨u, r⟩ := pv
      obtain ⟨r1, r2⟩ := h
      obtain ⟨b, key, hx, hb, hp, hq⟩ := hq
      cases hx
      cases (show u = Value.ref b from r1)
      obtain ⟨z, hd, xs, kt, dd⟩ := dt_of I2.hok hp
      cases kt
      refine ⟨[(key, b, r)], ⟨rfl, rfl, key_of I2.hok hb, True.intro⟩, dd, fun h' tk dd' hs => wpAny_pure ⟨.ref s.heap.objs.size, _, ?_, rfl, hq⟩⟩
      obtain ⟨q, es, ep, hq', h2, h3, h4, _, h5⟩ := dd'
      refine d_write I2 (by rw [hp]; exact True.intro) hs ⟨q, hq'⟩ ⟨by show 1 ≤ sizeLine; decide, hd, [(key, b, r)], .cons ⟨rfl, ?_, r2⟩ .nil, q, es, ep, hq', h2, h3, h4, h5⟩
      rw [upd_ne (ne_of hb hp (fun z => nomatch z))]
      exact hb
/-! ### one object changed -/
structure Chg (e : Ef) (l : Addr) (o : HO) (H1 H2 : Hp) : Prop where
  t : Tg H1 H2
  here : H2 l = some o
  ne : ∀ a, a ≠ l → H2 a = H1 a
  g : ∀ {i Ha}, e.R i Ha H1 → Ha l = none → e.R i Ha H2
theorem chg_upd {e : Ef} {l : Addr} {o u : HO} {H1 : Hp} (h : H1 l = some u) (hn : ∀ xs, u ≠ .tup xs) : Chg e l o H1 (upd H1 l o) := ⟨Tg.upd h hn, upd_same, fun a h => upd_ne h, fun g n => e.chg g n⟩
theorem Chg.lst {e : Ef} {l p : Addr} {o u : HO} {H1 H2 : Hp} (c : Chg e l o H1 H2) (ne : p ≠ l) (h : H1 p = some u) : H2 p = some u := (c.ne p ne).trans h
section
variable {K : PySem.W.Frag} {e : Ef} {σ : L2.St} {H H' : Hp} {ta tb te tc tl : TE} {t u : TT} {i j k m n : Nat} {v : V} {D : Ends} {tu tw : TS}
theorem st_appC {Φ : Hp → Hp → V → Prop} {l : Addr} {vs : List V} {iv : Nat} (hv : σ[iv]? = some (some (.ref l))) (hl : H l = some (.lst vs)) (hnS : ¬ e.S l) (hz : vs.length < 100000) (h : EvR e k te σ H Φ)
    (q : ∀ v H1 H2, e.R k H H1 → Φ H H1 v → Chg e l (.lst (vs ++ [v])) H1 H2 → D.nx σ H2) (hk' : k ≤ e.M := by exact Nat.le_of_ble_eq_true rfl) : tDrop (tBM K "list" rAppend (tVar iv) (tCons te tNil)) D σ H :=
  st_app hv hl hnS h hz (fun v H1 g r => q v H1 _ g r (chg_upd (e.oth g _ _ hl hnS) fun _ z => by cases z)) hk'
theorem st_dput {kvs : List (Sq × Int)} {q : Sq} {z : Int} {l : Addr} {iv : Nat} {ty tv : TE} (hv : σ[iv]? = some (some (.ref l))) (hl : H l = some (.dT (DI kvs))) (hnS : ¬ e.S l) (hz : kvs.length < 100000)
    (h1 : EvR e j tv σ H (isD z)) (h2 : EvR e k ty σ H (isD q)) (hnew : hasK kvs q = false)
    (qq : ∀ H1 H2, e.R (j + k) H H1 → Chg e l (.dT (DI (kvs ++ [(q, z)]))) H1 H2 → D.nx σ H2) (hk' : j + k ≤ e.M := by exact Nat.le_of_ble_eq_true rfl) : sDPut (tVar iv) ty tv D σ H :=
  h1 0 H (by omega) (e.refl H) _ fun v H1 g1 r1 => ⟨_, hv, h2 _ H1 (by omega) g1 _ fun y H2 g2 r2 => by
    obtain ⟨b, e1, e2⟩ := rp_key r2
    subst e1
    cases r1
    have hl2 := e.oth (e.trans g1 g2) _ _ hl hnS
    have hlen : (DI kvs).length < sizeLine := by unfold DI; rw [List.length_map]; exact sz_lt hz
    refine ⟨l, _, rfl, DPut.t hl2 e2 hlen, ?_⟩
    rw [putK_DI_new (by
      unfold hasK at hnew
      cases hh : lookK kvs q with
      | none => rfl
      | some _ => rw [hh] at hnew; cases hnew)]
    exact qq H2 _ (e.trans g1 g2) (chg_upd hl2 fun _ z => by cases z)⟩
theorem st_aug {f : Int → Int → Int} {a b : Int} {v0 : V} (hx : σ[i]? = some (some v0)) (r0 : Rp H a v0) (h : EvR e k te σ H (isD b)) (q : ∀ v H1, e.R k H H1 → Rp H1 (f a b) v → D.nx (σ.set i (some v)) H1) (hk' : k ≤ e.M := by exact Nat.le_of_ble_eq_true rfl) : tAug i te (ipI f) D σ H :=
  ⟨v0, hx, h 0 H (by omega) (e.refl H) _ fun y H1 g r => by
    cases r; cases r0
    exact ⟨a, b, rfl, rfl, q _ H1 g rfl⟩⟩
theorem retD {α : Type} [PyI α] {a b : α} {H0 : Hp} {v : V} (r : isD a H H' v) (h : a = b) : isD b H0 H' v := h ▸ r
theorem retL {α : Type} [PyI α] {a b : List α} {H0 : Hp} {v : V} (g : e.R i H0 H) (r : isL a H H' v) (h : a = b) : isL b H0 H' v := h ▸ back_L _ _ _ _ _ g r
theorem retA {α : Type} [PyI α] {a : α} {P : α → Prop} {H0 : Hp} {v : V} (r : isD a H H' v) (h : P a) : isA P H0 H' v := ⟨a, h, r⟩
theorem retAA {α : Type} [PyI α] {P P' : α → Prop} {H0 : Hp} {v : V} (r : isA P H H' v) (h : ∀ a, P a → P' a) : isA P' H0 H' v := by
  obtain ⟨a, p, r⟩ := r
  exact ⟨a, h a p, r⟩
/-- a local list handed back -/
theorem retO {α : Type} [PyI α] {a b : List α} {H0 : Hp} {p : Addr} {vs : List V} (hn : H0 p = none) (hp : H p = some (.lst vs)) (hr : Rps H a vs) (h : a = b) : isL b H0 H (.ref p) := by
  subst h
  exact ⟨p, vs, rfl, hn, hp, hr⟩
theorem retOA {α : Type} [PyI α] {a : List α} {P : List α → Prop} {H0 : Hp} {p : Addr} {vs : List V} (hn : H0 p = none) (hp : H p = some (.lst vs)) (hr : Rps H a vs) (h : P a) : isLA P H0 H (.ref p) := ⟨a, p, vs, h, rfl, hn, hp, hr⟩
end
section
variable {K : PySem.W.Frag} {e : Ef} {σ : L2.St} {H H' : Hp} {ta tb te tc tl : TE} {t u : TT} {i j k m n : Nat} {v : V} {D : Ends} {tu tw : TS}
theorem ea1v {x : Int} (h : EvR e j te σ H (isD x)) : EvA e j (tCons te tNil) σ H (fun _ _ vs => vs = [.int x]) := fun l H1 hm g Q q => h l H1 hm g _ fun v H2 g2 r => q _ H2 g2 (by cases r; rfl)
theorem st_forR1C {ta : TA} {n : Int} (h : EvA e k ta σ H fun _ _ vs => vs = [.int n]) (hn : n ≤ 100000000) (h0' : -100000000 ≤ n)
    (q : ∀ H1, e.R k H H1 → ∃ Pv : Nat → L2.St → Hp → Prop, Pv 0 σ H1 ∧ (∀ (i : Nat) σ' H', (i : Int) < n → Pv i σ' H' → tu { D with nx := Pv (i + 1), ct := Pv (i + 1), bk := D.nx } (σ'.set j (some (.int (i : Int)))) H') ∧ ∀ σ' H', Pv n.toNat σ' H' → D.nx σ' H')
    (hk' : k ≤ e.M := by exact Nat.le_of_ble_eq_true rfl) : tFor (iRng1 ta) (gName j) tu D σ H :=
  h 0 H (by omega) (e.refl H) _ fun vs H1 g ev => by
    subst ev
    obtain ⟨Pv, h0, hs, hd⟩ := q H1 g
    exact ⟨n, rfl, by omega, by omega, for_range (lo := 0) (n := n.toNat) Pv h0 (fun i σ' H' hi p => by
      have e0 : (0 : Int) + (i : Int) = (i : Int) := Int.zero_add _
      show tu { D with nx := Pv (i + 1), ct := Pv (i + 1), bk := D.nx } (σ'.set j (some (.int ((0 : Int) + (i : Int))))) H'
      rw [e0]
      exact hs i σ' H' (by omega) p) hd⟩
theorem st_whileC (W : Nat → L2.St → Hp → Prop) (m0 : Nat) (h0 : W m0 σ H)
    (hs : ∀ m σ' H', W m σ' H' → ∃ k P, k ≤ e.M ∧ ET e k t σ' H' P ∧ (P true → ∀ H1, e.R k H' H1 → tu { D with nx := fun σ2 H2 => ∃ m', m' < m ∧ W m' σ2 H2, ct := fun σ2 H2 => ∃ m', m' < m ∧ W m' σ2 H2, bk := D.nx } σ' H1) ∧ (P false → ∀ H1, e.R k H' H1 → D.nx σ' H1)) : tWhile t tu D σ H := st_while W m0 h0 hs
theorem st_retV {i : Nat} (hv : σ[i]? = some (some v)) (q : D.rt v H) : tRet (tVar i) D σ H := ⟨v, hv, q⟩
theorem live_of {H0 : Hp} (hS : ∀ a, e.S a → ∃ o, H0 a = some o) (g : e.R i H0 H) : ∀ a, e.S a → ∃ o, H a = some o := fun a h => by
  obtain ⟨o, ho⟩ := hS a h
  cases q : H a with
  | some u => exact ⟨u, rfl⟩
  | none =>
    have := e.free g q
    rw [ho] at this
    cases this
theorem lsr0 {α : Type} [PyI α] {S : Addr → Prop} {xs : List α} (h : LsR K S H xs v) : LsR K (fun _ => False) H xs v := by
  obtain ⟨p, vs, h1, h2, _, h3⟩ := h
  exact ⟨p, vs, h1, h2, id, h3⟩
def isDct (kvs : List (Sq × Int)) : Hp → Hp → V → Prop := fun H1 H2 v => ∃ p, v = .ref p ∧ H1 p = none ∧ H2 p = some (.dT (DI kvs))
theorem back_dct {kvs : List (Sq × Int)} : Back e (isDct kvs) := fun _ _ _ _ _ g ⟨p, h1, h2, h3⟩ => ⟨p, h1, e.free g h2, h3⟩
theorem back_LA {α : Type} [PyI α] {P : List α → Prop} : Back e (isLA P) := fun _ _ _ _ _ g ⟨xs, p, vs, h0, h1, h2, h3⟩ => ⟨xs, p, vs, h0, h1, e.free g h2, h3⟩
theorem retDct {a b : List (Sq × Int)} {H0 : Hp} {p : Addr} (hn : H0 p = none) (hp : H p = some (.dT (DI a))) (h : a = b) : isDct b H0 H (.ref p) := h ▸ ⟨p, rfl, hn, hp⟩
theorem er_AA {α : Type} [PyI α] {P P' : α → Prop} (h : EvR e k te σ H (isA P)) (q : ∀ a, P a → P' a) : EvR e k te σ H (isA P') := h.wk fun _ _ _ _ ⟨a, p, r⟩ => ⟨a, q a p, r⟩
end
section
variable {K : PySem.W.Frag} {e : Ef} {σ : L2.St} {H H' : Hp} {ta tb te tc tl : TE} {t u : TT} {i j k m n : Nat} {v : V}
theorem er_lcF {α : Type} [PyI α] {xs : List α} {vs : List Nat} (c : α → Bool) (h : EvR e k tl σ H (isL xs) ∨ EvR e k tl σ H (isLr K e.S xs)) (hz : xs.length ≤ 100000) (hw : ∀ x, wipe ((wipe σ vs).set j (some x)) vs = wipe σ vs)
    (hc : ∀ a x l H1, a ∈ xs → e.R l H H1 → Rp H1 a x → ET ef0 0 t ((wipe σ vs).set j (some x)) H1 (· = c a)) (he : ∀ a x l H1, a ∈ xs → c a = true → e.R l H H1 → Rp H1 a x → EvR ef0 0 te ((wipe σ vs).set j (some x)) H1 (isD a)) :
    EvR e k (tLc (iList K tl) (gName j) t te vs) σ H (isL (xs.filter c)) := by
  have := er_lcL (f := id) (c := c) h hz hw hc he
  rw [List.map_id] at this
  exact this
theorem er_lcM {α β : Type} [PyI α] [PyI β] {xs : List α} {vs : List Nat} (f : α → β) (h : EvR e k tl σ H (isL xs) ∨ EvR e k tl σ H (isLr K e.S xs)) (hz : xs.length ≤ 100000) (hw : ∀ x, wipe ((wipe σ vs).set j (some x)) vs = wipe σ vs)
    (he : ∀ a x l H1, a ∈ xs → e.R l H H1 → Rp H1 a x → EvR ef0 0 te ((wipe σ vs).set j (some x)) H1 (isD (f a))) :
    EvR e k (tLc (iList K tl) (gName j) tYes te vs) σ H (isL (xs.map f)) := by
  have := er_lcL (f := f) (c := fun _ => true) h hz hw (fun _ _ _ _ _ _ _ => et_yes) (fun a x l H1 m _ => he a x l H1 m)
  rw [List.filter_eq_self.mpr (fun _ _ => rfl)] at this
  exact this
theorem er_lcFM {α β : Type} [PyI α] [PyI β] {xs : List α} {vs : List Nat} (c : α → Bool) (f : α → β) (h : EvR e k tl σ H (isL xs) ∨ EvR e k tl σ H (isLr K e.S xs)) (hz : xs.length ≤ 100000) (hw : ∀ x, wipe ((wipe σ vs).set j (some x)) vs = wipe σ vs)
    (hc : ∀ a x l H1, a ∈ xs → e.R l H H1 → Rp H1 a x → ET ef0 0 t ((wipe σ vs).set j (some x)) H1 (· = c a)) (he : ∀ a x l H1, a ∈ xs → c a = true → e.R l H H1 → Rp H1 a x → EvR ef0 0 te ((wipe σ vs).set j (some x)) H1 (isD (f a))) :
    EvR e k (tLc (iList K tl) (gName j) t te vs) σ H (isL ((xs.filter c).map f)) := er_lcL h hz hw hc he
end
section
variable {K : PySem.W.Frag} {e : Ef} {σ : L2.St} {H H' : Hp} {ta tb te tc tl td ty : TE} {t u : TT} {i j k m n : Nat} {v : V}
def isDctA (P : List (Sq × Int) → Prop) : Hp → Hp → V → Prop := fun H1 H2 v => ∃ kvs p, P kvs ∧ v = .ref p ∧ H1 p = none ∧ H2 p = some (.dT (DI kvs))
theorem back_dctA {P : List (Sq × Int) → Prop} : Back e (isDctA P) := fun _ _ _ _ _ g ⟨kvs, p, h0, h1, h2, h3⟩ => ⟨kvs, p, h0, h1, e.free g h2, h3⟩
theorem retDctA {a : List (Sq × Int)} {P : List (Sq × Int) → Prop} {H0 : Hp} {p : Addr} (hn : H0 p = none) (hp : H p = some (.dT (DI a))) (h : P a) : isDctA P H0 H (.ref p) := ⟨a, p, h, rfl, hn, hp⟩
theorem rp_look {kvs : List (Sq × Int)} {q : Sq} {o : Option V} (h : o = (lookK kvs q).map V.int) : Rp H (lookK kvs q) (o.getD .non) := by
  subst h
  cases e : lookK kvs q with
  | none => exact rfl
  | some d => exact ⟨(fun z => by cases z), rfl⟩
/-- f(..).get(q), f giving a new dict -/
theorem er_dget1 {P : List (Sq × Int) → Prop} {q : Sq} (hS : ∀ a, e.S a → ∃ o, H a = some o) (hd : EvR e j td σ H (isDctA P)) (hk : EvR e k ty σ H (isD q)) : EvR e (j + k) (tDGet1 td ty) σ H (isA fun o : Option Int => ∃ kvs, P kvs ∧ o = lookK kvs q) := fun l H1 hm g Q qq =>
  hd l H1 (by omega) g _ fun v H2 g2 ⟨kvs, p, hP, e1, hn, hp⟩ => ⟨p, e1, .inr ⟨_, .inl hp⟩, hk _ H2 (by omega) (e.trans g g2) _ fun y H3 g3 r => by
    obtain ⟨b, e2, e3⟩ := rp_key r
    subst e2
    have hp3 := e.oth g3 _ _ hp (not_S hS (e.free g hn))
    refine ⟨_, DGet.t hp3 e3, qq _ _ (e.trans g2 g3) ⟨lookK kvs q, ⟨kvs, hP, rfl⟩, rp_look (valV_DI kvs q)⟩⟩⟩
theorem rp_opt {o : Option Int} {v : V} (h : Rp H o v) : v = (o.map V.int).getD .non := by
  cases o with
  | none => exact h
  | some d => exact h.2
theorem er_isiO_int {z : Option Int} (h : EvR e k te σ H (isD z)) : EvR e k (tCB (rIsi K) (tCons te (tCons (tC (.ty "int")) tNil))) σ H (isD z.isSome) := fun l H1 hm g Q q => h l H1 hm g _ fun v H2 g2 r => by
  cases z with
  | none =>
    cases r
    exact ⟨_, _, _, _, false, rfl, .ty _, .base .non, kit_ty (by decide +kernel), q _ H2 g2 rfl⟩
  | some d =>
    cases r.2
    exact ⟨_, _, _, _, true, rfl, .ty _, .base (.int d), kit_ty (by decide +kernel), q _ H2 g2 rfl⟩
theorem er_isiO_bool {z : Option Int} (h : EvR e k te σ H (isD z)) : EvR e k (tCB (rIsi K) (tCons te (tCons (tC (.ty "bool")) tNil))) σ H (isD false) := fun l H1 hm g Q q => h l H1 hm g _ fun v H2 g2 r => by
  cases z with
  | none =>
    cases r
    exact ⟨_, _, _, _, false, rfl, .ty _, .base .non, kit_ty (by decide +kernel), q _ H2 g2 rfl⟩
  | some d =>
    cases r.2
    exact ⟨_, _, _, _, false, rfl, .ty _, .base (.int d), kit_ty (by decide +kernel), q _ H2 g2 rfl⟩
theorem er_eqO {a b : Option Int} (ha : EvR e j ta σ H (isD a)) (hb : EvR e k tb σ H (isD b)) (h1 : a.isSome = true) (h2 : b.isSome = true) : EvR e (j + k) (tOp rEq ta tb) σ H (isD (decide (a = b))) :=
  er_opD ha hb fun _ _ H1 r1 r2 Q q => by
    cases a with
    | none => cases h1
    | some x => cases b with
      | none => cases h2
      | some y =>
        cases r1.2; cases r2.2
        refine ⟨rfl, q _ _ (Same.refl _) ?_⟩
        have := scal_dec x y
        show V.bl (decide (V.int x = V.int y)) = V.bl (decide (some x = some y))
        have e2 : decide (some x = some y) = decide (x = y) := by simp
        rw [e2]
        exact congrArg V.bl this
end
section
variable {K : PySem.W.Frag} {e : Ef} {σ : L2.St} {H H' : Hp} {ta tb te tc tl : TE} {t u : TT} {i j k m n : Nat} {v : V} {D : Ends} {tu tw tz : TS}
theorem q_asg {Φ : Hp → Hp → V → Prop} (h : EvR e k te σ H Φ) (q : ∀ v H1, e.R k H H1 → Φ H H1 v → tz D (σ.set i (some v)) H1) (hk' : k ≤ e.M := by exact Nat.le_of_ble_eq_true rfl) : tSeq (tAsg te (gName i)) tz D σ H := st_asg (D := { D with nx := tz D }) h q hk'
theorem q_drop {Φ : Hp → Hp → V → Prop} (h : EvR e k te σ H Φ) (q : ∀ v H1, e.R k H H1 → Φ H H1 v → tz D σ H1) (hk' : k ≤ e.M := by exact Nat.le_of_ble_eq_true rfl) : tSeq (tDrop te) tz D σ H := st_drop (D := { D with nx := tz D }) h q hk'
theorem q_un2 {α β : Type} [PyI α] [PyI β] {c : α × β} (h : EvR e k te σ H (isD c)) (q : ∀ x y H1, e.R k H H1 → Rp H1 c.1 x → Rp H1 c.2 y → tz D ((σ.set i (some x)).set j (some y)) H1) (hk' : k ≤ e.M := by exact Nat.le_of_ble_eq_true rfl) : tSeq (tAsg te (gTup K 2 (gCons (gName i) (gCons (gName j) gNil)))) tz D σ H := st_un2 (D := { D with nx := tz D }) h q hk'
theorem q_if {P : Bool → Prop} (h : ET e k t σ H P) (h1 : P true → ∀ H1, e.R k H H1 → tu { D with nx := tz D } σ H1) (h2 : P false → ∀ H1, e.R k H H1 → tw { D with nx := tz D } σ H1) (hk' : k ≤ e.M := by exact Nat.le_of_ble_eq_true rfl) : tSeq (tIfS t tu tw) tz D σ H := st_if (D := { D with nx := tz D }) h h1 h2 hk'
theorem q_ifA {α : Type} [PyI α] {P : Bool → Prop} {P1 : α → Prop} {v0 : V} {a0 : α} (h : ET e j t σ H P) (h1 : P true → EvR e k te σ H (isA P1)) (hv : σ[i]? = some (some v0)) (r0 : Rp H a0 v0) (h2 : P false → P1 a0)
    (q : ∀ a v H1, e.R (j + k) H H1 → P1 a → Rp H1 a v → tz D (σ.set i (some v)) H1) (hk' : j + k ≤ e.M := by exact Nat.le_of_ble_eq_true rfl) : tSeq (tIfS t (tAsg te (gName i)) tNext) tz D σ H := st_ifA (D := { D with nx := tz D }) h h1 hv r0 h2 q hk'
theorem q_appC {Φ : Hp → Hp → V → Prop} {l : Addr} {vs : List V} {iv : Nat} (hv : σ[iv]? = some (some (.ref l))) (hl : H l = some (.lst vs)) (hnS : ¬ e.S l) (hz : vs.length < 100000) (h : EvR e k te σ H Φ)
    (q : ∀ v H1 H2, e.R k H H1 → Φ H H1 v → Chg e l (.lst (vs ++ [v])) H1 H2 → tz D σ H2) (hk' : k ≤ e.M := by exact Nat.le_of_ble_eq_true rfl) : tSeq (tDrop (tBM K "list" rAppend (tVar iv) (tCons te tNil))) tz D σ H := st_appC (D := { D with nx := tz D }) hv hl hnS hz h q hk'
theorem q_dput {kvs : List (Sq × Int)} {q : Sq} {z : Int} {l : Addr} {iv : Nat} {ty tv : TE} (hv : σ[iv]? = some (some (.ref l))) (hl : H l = some (.dT (DI kvs))) (hnS : ¬ e.S l) (hz : kvs.length < 100000)
    (h1 : EvR e j tv σ H (isD z)) (h2 : EvR e k ty σ H (isD q)) (hnew : hasK kvs q = false)
    (qq : ∀ H1 H2, e.R (j + k) H H1 → Chg e l (.dT (DI (kvs ++ [(q, z)]))) H1 H2 → tz D σ H2) (hk' : j + k ≤ e.M := by exact Nat.le_of_ble_eq_true rfl) : tSeq (sDPut (tVar iv) ty tv) tz D σ H := st_dput (D := { D with nx := tz D }) hv hl hnS hz h1 h2 hnew qq hk'
theorem q_aug {f : Int → Int → Int} {a b : Int} {v0 : V} (hx : σ[i]? = some (some v0)) (r0 : Rp H a v0) (h : EvR e k te σ H (isD b)) (q : ∀ v H1, e.R k H H1 → Rp H1 (f a b) v → tz D (σ.set i (some v)) H1) (hk' : k ≤ e.M := by exact Nat.le_of_ble_eq_true rfl) : tSeq (tAug i te (ipI f)) tz D σ H := st_aug (D := { D with nx := tz D }) hx r0 h q hk'
theorem q_forR1C {ta : TA} {n : Int} (h : EvA e k ta σ H fun _ _ vs => vs = [.int n]) (hn : n ≤ 100000000) (h0' : -100000000 ≤ n)
    (q : ∀ H1, e.R k H H1 → ∃ Pv : Nat → L2.St → Hp → Prop, Pv 0 σ H1 ∧ (∀ (i : Nat) σ' H', (i : Int) < n → Pv i σ' H' → tu { D with nx := Pv (i + 1), ct := Pv (i + 1), bk := tz D } (σ'.set j (some (.int (i : Int)))) H') ∧ ∀ σ' H', Pv n.toNat σ' H' → tz D σ' H')
    (hk' : k ≤ e.M := by exact Nat.le_of_ble_eq_true rfl) : tSeq (tFor (iRng1 ta) (gName j) tu) tz D σ H := st_forR1C (D := { D with nx := tz D }) h hn h0' q hk'
theorem q_forL {α : Type} [PyI α] {xs : List α} (h : EvR e k tl σ H (isLr K e.S xs))
    (q : ∀ p vs H1, e.R k H H1 → H1 p = some (.lst vs) → ¬ e.S p → Rps H1 xs vs → ∃ Pv : Nat → L2.St → Hp → Prop, Pv 0 σ H1 ∧ (∀ i σ' H', Pv i σ' H' → H' p = some (.lst vs)) ∧
      (∀ i a x σ' H', xs[i]? = some a → Rp H1 a x → Pv i σ' H' → tu { D with nx := Pv (i + 1), ct := Pv (i + 1), bk := tz D } (σ'.set j (some x)) H') ∧ ∀ σ' H', Pv xs.length σ' H' → tz D σ' H') (hk' : k ≤ e.M := by exact Nat.le_of_ble_eq_true rfl) : tSeq (tFor (iList K tl) (gName j) tu) tz D σ H := st_forL (D := { D with nx := tz D }) h q hk'
theorem q_forN {α : Type} [PyI α] {xs : List α} (h : EvR e k tl σ H (isL xs))
    (q : ∀ p vs H1, e.R k H H1 → H p = none → H1 p = some (.lst vs) → Rps H1 xs vs → ∃ Pv : Nat → L2.St → Hp → Prop, Pv 0 σ H1 ∧ (∀ i σ' H', Pv i σ' H' → H' p = some (.lst vs)) ∧
      (∀ i a x σ' H', xs[i]? = some a → Rp H1 a x → Pv i σ' H' → tu { D with nx := Pv (i + 1), ct := Pv (i + 1), bk := tz D } (σ'.set j (some x)) H') ∧ ∀ σ' H', Pv xs.length σ' H' → tz D σ' H') (hk' : k ≤ e.M := by exact Nat.le_of_ble_eq_true rfl) : tSeq (tFor (iList K tl) (gName j) tu) tz D σ H := st_forN (D := { D with nx := tz D }) h q hk'
theorem q_whileC (W : Nat → L2.St → Hp → Prop) (m0 : Nat) (h0 : W m0 σ H)
    (hs : ∀ m σ' H', W m σ' H' → ∃ k P, k ≤ e.M ∧ ET e k t σ' H' P ∧ (P true → ∀ H1, e.R k H' H1 → tu { D with nx := fun σ2 H2 => ∃ m', m' < m ∧ W m' σ2 H2, ct := fun σ2 H2 => ∃ m', m' < m ∧ W m' σ2 H2, bk := tz D } σ' H1) ∧ (P false → ∀ H1, e.R k H' H1 → tz D σ' H1)) : tSeq (tWhile t tu) tz D σ H := st_whileC (D := { D with nx := tz D }) W m0 h0 hs
end
end Z

namespace Z
open PySem PySem.Spec PyProof.Rows L2
open Sem (wp)
section
variable {prog : Program} {w : World} {A : Around} {E : Value → Shared → Prop} {s : Shared}
theorem args_min4 (a b c d : Value) : argsOk "min" ⟨[a, b, c, d], []⟩ := by unfold argsOk; kernel_rfl
theorem call_min_four {a b c d : Value} {Q : Value → Shared → Prop}
    (h : wpAny (model prog w) A.in1 (pyIter (.ref s.heap.objs.size)) (fun it s₂ => ∃ I fp wr n P St bt, it = .ref I ∧ Walks prog w A.in1 I fp wr n P St ∧ St 0 s₂.heap ∧ (∀ b ∈ fp, b < s₂.heap.objs.size) ∧ 0 < n ∧ CmpOf prog w A.in1 .Lt P bt ∧
      ∀ v h' tk, P (argBest bt (n - 1)) v → (∀ b o, b ∉ wr → s₂.heap.get? b = some o → h'.get? b = some o) → Q v { s₂ with heap := h', toks := tk }) E
      { s with heap := s.heap.push { cls := .type "tuple", data := .seq #[a, b, c, d] } }) :
    wpAny (model prog w) A (call (.builtin "min") [a, b, c, d]) Q E s := by
  have hname : (toString "min" ++ toString ".loop" : String) = "min.loop" := by decide
  refine call_function_tree F.kind_min F.plain_min F.entry_min (args_min4 _ _ _ _) ?_
  show wpAny _ A.in1 (Builtin.Builtins.bindParams "min" ["key", "default"] 0 ⟨[], []⟩ >>= _) _ _ s
  refine wpAny_bind (wpAny_of_eq (show Builtin.Builtins.bindParams "min" ["key", "default"] 0 ⟨[], []⟩ = pure [none, none] from rfl) ?_)
  show wpAny _ A.in1 (newTuple [a, b, c, d] >>= _) _ _ s
  refine wpAny_bind (wpAny_newObj_type ?_)
  refine wpAny_bind (wpAny_mono h (fun it s₂ h₂ => ?_) fun _ _ e => e)
  obtain ⟨I, fp, wr, n, P, St, bt, rfl, W, hst, hfp, hn, hcmp, hQ⟩ := h₂
  refine wpAny_bind (wpAny_newObj_type ?_)
  have hSf : s₂.heap.objs.size ∉ fp := fun hm => Nat.lt_irrefl _ (hfp _ hm)
  rw [hname]
  refine wpAny_pure ⟨plainId_quiet F.plain_min_loop _, codeAny_min_loop_first W bt hcmp s₂.heap.objs.size hSf hn (W.frame _ _ _ hst fun b _ o e => Heap.get?_push_of_some _ e) (Heap.get?_push_size _ rfl) fun v h' tk hP hk => ?_⟩
  exact hQ v h' tk hP fun b o hbw e => hk b o hbw (Nat.ne_of_lt (Heap.lt_size e)) (Heap.get?_push_of_some _ e)
def pick4 (a b c d : Int) (t u x y : Tok) : Value := if b < a then (if c < b then (if d < c then .int d y else .int c x) else (if d < b then .int d y else .int b u)) else (if c < a then (if d < c then .int d y else .int c x) else (if d < a then .int d y else .int a t))
theorem pick4_min (a b c d : Int) (t u x y : Tok) : ∃ z, pick4 a b c d t u x y = .int (min (min a b) (min c d)) z := by
  unfold pick4
  have m : ∀ p q : Int, min p q = if p ≤ q then p else q := fun p q => rfl
  simp only [m]
  split <;> (split <;> (split <;> (first
    | exact ⟨_, congrArg (fun z => Value.int z _) (by repeat' split <;> omega)⟩
    | omega)))
theorem min_four_ints {a b c d : Int} {t u x y : Tok} {Q : Value → Shared → Prop} (hh : A.handled = none)
    (h : ∀ h' tk, (∀ d o, s.heap.get? d = some o → h'.get? d = some o) → Q (pick4 a b c d t u x y) { s with heap := h', toks := tk }) :
    wpAny (model prog w) A (call (.builtin "min") [.int a t, .int b u, .int c x, .int d y]) Q E s := by
  have hT : (s.heap.push { cls := .type "tuple", data := .seq #[.int a t, .int b u, .int c x, .int d y] }).IsTuple s.heap.objs.size (intItems #[(a, t), (b, u), (c, x), (d, y)]) := ⟨_, Heap.get?_push_size _ rfl, rfl, 0, by simp [intItems]⟩
  refine call_min_four (wpAny_pyIter_tuple hT ?_)
  have hsz : (s.heap.push { cls := .type "tuple", data := .seq #[.int a t, .int b u, .int c x, .int d y] }).objs.size = s.heap.objs.size + 1 := Heap.size_push ..
  refine ⟨_, [_, s.heap.objs.size], [_], _, _, _, _, rfl, Walks.tuple (A := A.in1) hh _ s.heap.objs.size (by rw [hsz]; exact Nat.ne_of_lt (Nat.lt_succ_self _)) (intItems #[(a, t), (b, u), (c, x), (d, y)]),
    ⟨⟨_, Heap.get?_push_size _ rfl, rfl, rfl⟩, hT.push _⟩, fun d hd => ?_, by simp [intItems], CmpOf.ints_lt (numAt #[(a, t), (b, u), (c, x), (d, y)]) (fun _ _ => intItems_at), fun v h' tk hP hk => ?_⟩
  · show d < ((s.heap.push _).push _).objs.size
    rw [Heap.size_push, hsz]
    rcases List.mem_cons.mp hd with rfl | hd
    · rw [hsz]; exact Nat.lt_succ_self _
    · rcases List.mem_cons.mp hd with rfl | hd
      · exact Nat.lt_succ_of_lt (Nat.lt_succ_self _)
      · cases hd
  · have hold : ∀ d o, s.heap.get? d = some o → h'.get? d = some o := fun d o e => by
      refine hk d o (fun hm => ?_) (Heap.get?_push_of_some _ (Heap.get?_push_of_some _ e))
      rcases List.mem_cons.mp hm with e1 | hm
      · have := Heap.lt_size e; rw [e1, hsz] at this; exact Nat.lt_irrefl _ (Nat.lt_of_succ_lt this)
      · cases hm
    have := h h' tk hold
    have hv : v = pick4 a b c d t u x y := by
      have hP' : (intItems #[(a, t), (b, u), (c, x), (d, y)])[argBest (fun i j => decide (numAt #[(a, t), (b, u), (c, x), (d, y)] i < numAt #[(a, t), (b, u), (c, x), (d, y)] j)) 3]? = some v := by
        have hsz2 : (intItems #[(a, t), (b, u), (c, x), (d, y)]).size - 1 = 3 := by simp [intItems]
        rw [← hsz2]; exact hP
      unfold pick4
      by_cases h1 : b < a
      · by_cases h2 : c < b
        · by_cases h3 : d < c
          · have e : argBest (fun i j => decide (numAt #[(a, t), (b, u), (c, x), (d, y)] i < numAt #[(a, t), (b, u), (c, x), (d, y)] j)) 3 = 3 := by simp [argBest, numAt, h1, h2, h3]
            rw [e] at hP'
            simpa [intItems, h1, h2, h3] using hP'.symm
          · have e : argBest (fun i j => decide (numAt #[(a, t), (b, u), (c, x), (d, y)] i < numAt #[(a, t), (b, u), (c, x), (d, y)] j)) 3 = 2 := by simp [argBest, numAt, h1, h2, h3]
            rw [e] at hP'
            simpa [intItems, h1, h2, h3] using hP'.symm
        · by_cases h3 : d < b
          · have e : argBest (fun i j => decide (numAt #[(a, t), (b, u), (c, x), (d, y)] i < numAt #[(a, t), (b, u), (c, x), (d, y)] j)) 3 = 3 := by simp [argBest, numAt, h1, h2, h3]
            rw [e] at hP'
            simpa [intItems, h1, h2, h3] using hP'.symm
          · have e : argBest (fun i j => decide (numAt #[(a, t), (b, u), (c, x), (d, y)] i < numAt #[(a, t), (b, u), (c, x), (d, y)] j)) 3 = 1 := by simp [argBest, numAt, h1, h2, h3]
            rw [e] at hP'
            simpa [intItems, h1, h2, h3] using hP'.symm
      · by_cases h2 : c < a
        · by_cases h3 : d < c
          · have e : argBest (fun i j => decide (numAt #[(a, t), (b, u), (c, x), (d, y)] i < numAt #[(a, t), (b, u), (c, x), (d, y)] j)) 3 = 3 := by simp [argBest, numAt, h1, h2, h3]
            rw [e] at hP'
            simpa [intItems, h1, h2, h3] using hP'.symm
          · have e : argBest (fun i j => decide (numAt #[(a, t), (b, u), (c, x), (d, y)] i < numAt #[(a, t), (b, u), (c, x), (d, y)] j)) 3 = 2 := by simp [argBest, numAt, h1, h2, h3]
            rw [e] at hP'
            simpa [intItems, h1, h2, h3] using hP'.symm
        · by_cases h3 : d < a
          · have e : argBest (fun i j => decide (numAt #[(a, t), (b, u), (c, x), (d, y)] i < numAt #[(a, t), (b, u), (c, x), (d, y)] j)) 3 = 3 := by simp [argBest, numAt, h1, h2, h3]
            rw [e] at hP'
            simpa [intItems, h1, h2, h3] using hP'.symm
          · have e : argBest (fun i j => decide (numAt #[(a, t), (b, u), (c, x), (d, y)] i < numAt #[(a, t), (b, u), (c, x), (d, y)] j)) 3 = 0 := by simp [argBest, numAt, h1, h2, h3]
            rw [e] at hP'
            simpa [intItems, h1, h2, h3] using hP'.symm
    rw [hv]; exact this
end
theorem call_min4 {X : Cx} (hc : X.calm = true) : CallR X (.builtin "min") rMin4 := by
  intro pins s σ H xs us Q I r h
  obtain ⟨i, j, k, l, rfl, q⟩ := h
  cases r with
  | cons r1 r => cases r with
    | cons r2 r => cases r with
      | cons r3 r => cases r with
        | cons r4 r =>
          cases r
          obtain ⟨t1, rfl⟩ := r1
          obtain ⟨t2, rfl⟩ := r2
          obtain ⟨t3, rfl⟩ := r3
          obtain ⟨t4, rfl⟩ := r4
          exact min_four_ints (I.ok.hd hc) fun h1 tk k1 => ⟨.int (min (min i j) (min k l)), H, I.kept k1, pick4_min _ _ _ _ _ _ _ _, q⟩
end Z

/-! Deals: a row of numbers, a place in it, a total; a draw takes a number below `many` and moves the place by one. -/
namespace Z
open PySem PySem.Spec PyProof.Rows L2
structure Dl.At (d : Dl) (H : Hp) : Prop where
  p : H d.p = some (.lst [.ref d.l1, .ref d.l2, .int d.tot])
  l1 : H d.l1 = some (.lst (d.row.map V.int))
  n : ∃ n : Nat, H d.l2 = some (.lst [.int (n : Int)])
  np : d.p ≠ d.l2
  n1 : d.l1 ≠ d.l2
def Dl.Le (d : Dl) (H : Hp) (b : Nat) : Prop := ∃ n : Nat, H d.l2 = some (.lst [.int (n : Int)]) ∧ n ≤ b
theorem Dl.At.go {d : Dl} {i : Nat} {H H' : Hp} (g : (efD d).R i H H') (h : d.At H) : d.At H' := by
  obtain ⟨n, hn⟩ := h.n
  obtain ⟨n', _, _, h'⟩ := g.n n hn
  exact ⟨g.o _ _ h.p h.np, g.o _ _ h.l1 h.n1, ⟨n', h'⟩, h.np, h.n1⟩
theorem Dl.Le.go {d : Dl} {i b : Nat} {H H' : Hp} (g : (efD d).R i H H') (h : d.Le H b) : d.Le H' (b + i) := by
  obtain ⟨n, hn, hb⟩ := h
  obtain ⟨n', _, h2, h'⟩ := g.n n hn
  exact ⟨n', h', by omega⟩
theorem Dl.Le.up {d : Dl} {b c : Nat} {H : Hp} (h : d.Le H b) (hc : b ≤ c) : d.Le H c := by
  obtain ⟨n, hn, hb⟩ := h
  exact ⟨n, hn, by omega⟩
theorem live_D {d : Dl} {H : Hp} (h : d.At H) : ∀ a, (efD d).S a → ∃ o, H a = some o := fun a e => by
  obtain ⟨n, hn⟩ := h.n
  cases e
  exact ⟨_, hn⟩
theorem nS_D {d : Dl} {H : Hp} (h : d.At H) {p : Addr} (hn : H p = none) : ¬ (efD d).S p := not_S (live_D h) hn
/-- the deal itself as an argument -/
def isDl (d : Dl) : Hp → Hp → V → Prop := fun _ _ v => v = .ref d.p
theorem stay_Dl {e : Ef} {d : Dl} : Stay e (isDl d) := fun _ _ _ _ _ _ h => h
theorem back_Dl {e : Ef} {d : Dl} : Back e (isDl d) := fun _ _ _ _ _ _ h => h
theorem er_deal {d : Dl} {σ : L2.St} {H : Hp} {i : Nat} (h : σ[i]? = some (some (.ref d.p))) : EvR (efD d) 0 (tVar i) σ H (isDl d) := fun j H1 hm g Q q => ⟨_, h, q _ H1 ((efD d).refl _) rfl⟩
/-- what a draw is worth -/
def drawn (many : Int) : Int → Prop := fun x => 0 ≤ x ∧ x < many
def sp_take : Sp := fun vs H Q _ => ∃ (d : Dl) (many : Int), vs = [.ref d.p, .int many] ∧ d.At H ∧ d.Le H (2 ^ 60) ∧ 0 < many ∧ ∀ v H', (efD d).R 1 H H' → isA (drawn many) H H' v → Q v H'
theorem ev_take {d : Dl} {σ : L2.St} {H : Hp} {E : XK} {t0 t1 : TE} {j0 j1 b : Nat} {many : Int} (hd : d.At H) (hle : d.Le H b) (h0 : EvR (efD d) j0 t0 σ H (isDl d)) (h1 : EvR (efD d) j1 t1 σ H (isD many)) (hp : 0 < many) (hb : b + 1000000 ≤ 2 ^ 60 := by exact Nat.le_of_ble_eq_true rfl) :
    EvR (efD d) (j0 + j1 + 1) (tCall sp_take [] E (tCons t0 (tCons t1 tNil))) σ H (isA (drawn many)) := fun l H1 hm g Q q => by
  refine ea2 h0 stay_Dl h1 back_D l H1 (by omega) g _ fun vs H2 g2 ⟨v, w, ev, e1, r⟩ => ?_
  cases e1; cases r; subst ev
  have gg := (efD d).trans g g2
  have hM : (efD d).M = 1000000 := rfl
  refine ⟨d, many, rfl, hd.go gg, (hle.go gg).up (by omega), hp, fun v H3 g3 r3 => q v H3 ((efD d).trans g2 g3) ?_⟩
  exact r3
/-- a draw whose bound is itself drawn -/
theorem ev_takeA {d : Dl} {σ : L2.St} {H : Hp} {E : XK} {t0 t1 : TE} {j0 j1 b : Nat} {P : Int → Prop} (hd : d.At H) (hle : d.Le H b) (h0 : EvR (efD d) j0 t0 σ H (isDl d)) (h1 : EvR (efD d) j1 t1 σ H (isA P)) (hp : ∀ x, P x → 0 < x) (hb : b + 1000000 ≤ 2 ^ 60 := by exact Nat.le_of_ble_eq_true rfl) :
    EvR (efD d) (j0 + j1 + 1) (tCall sp_take [] E (tCons t0 (tCons t1 tNil))) σ H (isA fun x => ∃ m, P m ∧ drawn m x) := fun l H1 hm g Q q => by
  refine ea2 h0 stay_Dl h1 back_A l H1 (by omega) g _ fun vs H2 g2 ⟨v, w, ev, e1, many, pm, r⟩ => ?_
  cases e1; cases r; subst ev
  have gg := (efD d).trans g g2
  have hM : (efD d).M = 1000000 := rfl
  refine ⟨d, many, rfl, hd.go gg, (hle.go gg).up (by omega), hp many pm, fun v H3 g3 ⟨x, px, r3⟩ => q v H3 ((efD d).trans g2 g3) ⟨x, ⟨many, pm, px⟩, r3⟩⟩
/-! the script: a list of ints that may be frozen -/
section
variable {K : PySem.W.Frag} {σ : L2.St} {H H' : Hp} {ta tb te : TE} {i j k : Nat} {v : V}
theorem sqL_go {a : Addr} {xs : List V} (g : Same H H') (h : SqL K H a xs) : SqL K H' a xs := g.seq h
theorem er_lenQ {a : Addr} {ns : List Int} {i : Nat} (hv : σ[i]? = some (some (.ref a))) (h : SqL K H a (ns.map V.int)) : EvR ef0 0 (tCB (rLenS K) (tCons (tVar i) tNil)) σ H (isD ((ns.length : Nat) : Int)) := fun l H1 hm g Q q =>
  ⟨_, hv, a, _, rfl, .inl (sqL_go g h), q _ H1 (Same.refl _) (by rw [List.length_map]; exact rfl)⟩
theorem er_ixQ {a : Addr} {ns : List Int} {i : Nat} {x : Int} (hv : σ[i]? = some (some (.ref a))) (h : SqL K H a (ns.map V.int)) (hb : EvR ef0 k tb σ H (isD x)) (ok : okI ns.length x) : EvR ef0 k (tOp (rIxL K) (tVar i) tb) σ H (isD (ixD ns x)) := fun l H1 hm g Q q =>
  ⟨_, hv, hb l H1 hm g _ fun w H2 g2 r => by
    cases r
    obtain ⟨v, hv', rv⟩ := atI_rps (rps_ints' H2 ns) (atI_ok ok)
    exact ⟨a, _, x, v, rfl, rfl, sqL_go (Same.trans g g2) h, hv', q _ H2 g2 rv⟩⟩
abbrev rInt1 : List V → Hp → VK → Prop := fun xs H Q => (∃ i, xs = [.int i] ∧ Q (.int i) H) ∨ ∃ k, xs = [.bl k] ∧ Q (.int (if k then 1 else 0)) H
theorem er_int1 {e : Ef} {x : Int} (ha : EvR e j ta σ H (isD x)) : EvR e j (tCB rInt1 (tCons ta tNil)) σ H (isD x) :=
  er_cb (ea1 ha) back_D fun l H1 H2 vs g g2 ⟨v, ev, r⟩ Q q => by
    subst ev; cases r
    exact .inl ⟨x, rfl, q _ _ (Same.refl _) rfl⟩
abbrev rMin2 : List V → Hp → VK → Prop := fun xs H Q => ∃ i j, xs = [.int i, .int j] ∧ Q (.int (if j < i then j else i)) H
theorem er_min2 {e : Ef} {x y : Int} (ha : EvR e j ta σ H (isD x)) (hb : EvR e k tb σ H (isD y)) : EvR e (j + k) (tCB rMin2 (tCons ta (tCons tb tNil))) σ H (isD (if y < x then y else x)) :=
  er_cb (ea2 ha stay_D hb back_D) back_D fun l H1 H2 vs g g2 ⟨v, w, ev, r, r'⟩ Q q => by
    subst ev; cases r; cases r'
    exact ⟨x, y, rfl, q _ _ (Same.refl _) rfl⟩
abbrev rMax2 : List V → Hp → VK → Prop := fun xs H Q => ∃ i j, xs = [.int i, .int j] ∧ Q (.int (if j > i then j else i)) H
theorem er_max2 {e : Ef} {x y : Int} (ha : EvR e j ta σ H (isD x)) (hb : EvR e k tb σ H (isD y)) : EvR e (j + k) (tCB rMax2 (tCons ta (tCons tb tNil))) σ H (isD (if y > x then y else x)) :=
  er_cb (ea2 ha stay_D hb back_D) back_D fun l H1 H2 vs g g2 ⟨v, w, ev, r, r'⟩ Q q => by
    subst ev; cases r; cases r'
    exact ⟨x, y, rfl, q _ _ (Same.refl _) rfl⟩
theorem er_sum {e : Ef} {ns : List Int} (ha : EvR e j ta σ H (isLr K e.S ns)) : EvR e j (tCB (rSum K) (tCons ta tNil)) σ H (isD ns.sum) :=
  er_cb (ea1 ha) back_D fun l H1 H2 vs g g2 ⟨v, ev, p, ws, h1, h2, _, h3⟩ Q q => by
    subst ev; subst h1
    cases rps_ints h3
    exact ⟨p, ns, rfl, SqL.of h2, q _ _ (Same.refl _) rfl⟩
theorem er_pow {e : Ef} {x y : Int} (ha : EvR e j ta σ H (isD x)) (hb : EvR e k tb σ H (isD y)) (hc : CPow x y) : EvR e (j + k) (tOp (rI CPow fun i j => .int (i ^ j.toNat)) ta tb) σ H (isD (x ^ y.toNat)) := er_iop ha hb hc fun _ => rfl
end
/-- a new deal -/
def isDeal : Hp → Hp → V → Prop := fun H1 H2 v => ∃ d : Dl, v = .ref d.p ∧ H1 d.p = none ∧ H1 d.l1 = none ∧ H1 d.l2 = none ∧ d.At H2 ∧ d.Le H2 0
def sp_deal (K : PySem.W.Frag) : Sp := fun vs H Q _ => ∃ (a : Addr) (ns : List Int), vs = [.ref a] ∧ SqL K H a (ns.map V.int) ∧ ns.length ≤ 63 ∧ ∀ v H', Same H H' → isDeal H H' v → Q v H'
section
variable {K : PySem.W.Frag} {σ : L2.St} {H H' : Hp} {ta tb te : TE} {i j k : Nat} {v : V}
theorem er_sumR {e : Ef} {p : Addr} {ns : List Int} {vs : List V} {i : Nat} (hv : σ[i]? = some (some (.ref p))) (hp : H p = some (.lst vs)) (hS : ¬ e.S p) (hr : Rps H ns vs) : EvR e 0 (tCB (rSum K) (tCons (tVar i) tNil)) σ H (isD ns.sum) := er_sum (er_varL (K := K) hv (lsr_of hp hS hr))
/-- [row, [0], total] -/
theorem er_mkdeal {p : Addr} {ns : List Int} {vs : List V} {i : Nat} {x : Int} (hv : σ[i]? = some (some (.ref p))) (hp : H p = some (.lst vs)) (hr : Rps H ns vs) (ht : EvR ef0 k tb σ H (isD x)) :
    EvR ef0 k (tLst (tCons (tVar i) (tCons (tLst (tCons (tC (.int 0)) tNil)) (tCons tb tNil)))) σ H (fun H1 H2 v => ∃ d : Dl, v = .ref d.p ∧ H1 d.p = none ∧ d.l1 = p ∧ H1 d.l2 = none ∧ d.At H2 ∧ d.Le H2 0) := fun l H1 hm g Q q => by
  refine ⟨_, hv, ⟨sz_le (n := 1) (by decide), fun l2 hl2 => ?_⟩⟩
  refine ht _ _ hm (Same.trans g (same_new hl2)) _ fun w H2 g2 r => ?_
  cases r
  refine ⟨sz_le (n := 3) (by decide), fun p0 hp0 => ?_⟩
  have hp1 : H1 p = some (.lst vs) := g _ _ hp
  have n1 : p ≠ l2 := ne_of_none hp1 hl2
  have hpp : (upd H1 l2 (.lst [.int 0])) p = some (.lst vs) := by rw [upd_ne n1]; exact hp1
  have hl2' := g2 _ _ (show (upd H1 l2 (.lst [.int 0])) l2 = some (.lst [.int 0]) from upd_same)
  have hp2 := g2 _ _ hpp
  have m1 : l2 ≠ p0 := ne_of_none hl2' hp0
  have m2 : p ≠ p0 := ne_of_none hp2 hp0
  have hp01 : H1 p0 = none := Same.free (Same.trans (same_new hl2) g2) hp0
  refine q _ _ (Same.trans (Same.trans (same_new hl2) g2) (same_new hp0)) ⟨⟨p0, p, l2, ns, x⟩, rfl, hp01, rfl, hl2, ⟨upd_same, ?_, ⟨0, ?_⟩, m1.symm, n1⟩, ⟨0, ?_, Nat.le_refl _⟩⟩
  · show (upd H2 p0 _) p = _
    rw [upd_ne m2, hp2, rps_ints hr]
  · show (upd H2 p0 _) l2 = _
    rw [upd_ne m1]; exact hl2'
  · show (upd H2 p0 _) l2 = _
    rw [upd_ne m1]; exact hl2'
end
end Z

/-! A grid: a new list of new lists of signs, changed by place, joined to a chart. -/
namespace Z
open PySem PySem.Spec PyProof.Rows L2
theorem atI_at {α : Type} {xs : List α} {x : Int} {a : α} (h0 : 0 ≤ x) (h : xs[x.toNat]? = some a) : atI xs x = some a := by
  obtain ⟨k, rfl⟩ := Int.eq_ofNat_of_zero_le h0
  exact atI_nat (by simpa using h)
def Sg (s : Str) : Prop := s = "x" ∨ s = "."
theorem Sg.len {s : Str} (h : Sg s) : s.length = 1 := by
  rcases h with h | h <;> (subst h; decide +kernel)
/-- n rows of m signs each; none of the rows is p, r, or older than H0 -/
def GridX (H0 H : Hp) (p : Addr) (n m : Nat) (r : Addr) : Prop :=
  H0 p = none ∧ p ≠ r ∧ ∃ ps : List Addr, H p = some (.lst (ps.map V.ref)) ∧ ps.length = n ∧ ∀ a ∈ ps, H0 a = none ∧ a ≠ p ∧ a ≠ r ∧ ∃ ss : List Str, H a = some (.lst (ss.map V.str)) ∧ ss.length = m ∧ ∀ s ∈ ss, Sg s
def GridOk (H0 H : Hp) (p : Addr) (n m : Nat) : Prop :=
  H0 p = none ∧ ∃ ps : List Addr, H p = some (.lst (ps.map V.ref)) ∧ ps.length = n ∧ ∀ a ∈ ps, H0 a = none ∧ a ≠ p ∧ ∃ ss : List Str, H a = some (.lst (ss.map V.str)) ∧ ss.length = m ∧ ∀ s ∈ ss, Sg s
section
variable {e : Ef} {H0 H H' H1 H2 : Hp} {p r : Addr} {n m i : Nat} {σ : L2.St} {K : PySem.W.Frag} {D : Ends} {tz : TS}
theorem GridOk.nil (hn : H0 p = none) (h : H p = some (.lst [])) : GridOk H0 H p 0 m := ⟨hn, [], h, rfl, fun _ h => nomatch h⟩
theorem GridOk.go (g : e.R i H H') (nS : ∀ {p : Addr}, H0 p = none → ¬ e.S p) (h : GridOk H0 H p n m) : GridOk H0 H' p n m := by
  obtain ⟨hn, ps, h1, h2, h3⟩ := h
  refine ⟨hn, ps, e.oth g _ _ h1 (nS hn), h2, fun a ha => ?_⟩
  obtain ⟨q1, q2, ss, q3, q4, q5⟩ := h3 a ha
  exact ⟨q1, q2, ss, e.oth g _ _ q3 (nS q1), q4, q5⟩
theorem GridX.go (g : e.R i H H') (nS : ∀ {p : Addr}, H0 p = none → ¬ e.S p) (h : GridX H0 H p n m r) : GridX H0 H' p n m r := by
  obtain ⟨hn, hr, ps, h1, h2, h3⟩ := h
  refine ⟨hn, hr, ps, e.oth g _ _ h1 (nS hn), h2, fun a ha => ?_⟩
  obtain ⟨q1, q2, q0, ss, q3, q4, q5⟩ := h3 a ha
  exact ⟨q1, q2, q0, ss, e.oth g _ _ q3 (nS q1), q4, q5⟩
theorem GridOk.born (h : GridOk H0 H p n m) (hr : H r = none) : GridX H0 H p n m r := by
  obtain ⟨hn, ps, h1, h2, h3⟩ := h
  refine ⟨hn, ne_of_none h1 hr, ps, h1, h2, fun a ha => ?_⟩
  obtain ⟨q1, q2, ss, q3, q4, q5⟩ := h3 a ha
  exact ⟨q1, q2, ne_of_none q3 hr, ss, q3, q4, q5⟩
theorem GridX.chg {o : HO} (c : Chg e r o H H') (h : GridX H0 H p n m r) : GridX H0 H' p n m r := by
  obtain ⟨hn, hr, ps, h1, h2, h3⟩ := h
  refine ⟨hn, hr, ps, c.lst hr h1, h2, fun a ha => ?_⟩
  obtain ⟨q1, q2, q0, ss, q3, q4, q5⟩ := h3 a ha
  exact ⟨q1, q2, q0, ss, c.lst q0 q3, q4, q5⟩
/-- grid.append(row) -/
theorem q_gapp {ip ir : Nat} {ss : List Str} {vs : List V} (hp : σ[ip]? = some (some (.ref p))) (hr : σ[ir]? = some (some (.ref r))) (h : GridX H0 H p n m r) (hn : H0 r = none) (h1 : H r = some (.lst vs)) (h2 : Rps H ss vs) (h3 : ss.length = m) (h4 : ∀ s ∈ ss, Sg s) (hz : n < 100000)
    (q : ∀ H2, Chg e p (.lst []) H (upd H p (.lst [])) → Tg H H2 → (∀ {j Ha}, e.R j Ha H → Ha p = none → e.R j Ha H2) → (∀ a, a ≠ p → H2 a = H a) → GridOk H0 H2 p (n + 1) m → D.nx σ H2) : tDrop (tBM K "list" rAppend (tVar ip) (tCons (tVar ir) tNil)) D σ H := by
  obtain ⟨hn', hr', ps, g1, g2, g3⟩ := h
  refine ⟨.ref p, hp, .inl ⟨rfl, _, SqL.of g1⟩, .ref r, hr, p, _, .ref r, rfl, rfl, g1, by rw [List.length_map, g2]; exact sz_lt hz, ?_⟩
  have c : ∀ o, Chg e p o H (upd H p o) := fun o => chg_upd g1 fun _ z => by cases z
  refine q _ (c _) (c _).t (c _).g (c _).ne ⟨hn', ps ++ [r], ?_, by rw [List.length_append, g2]; rfl, fun a ha => ?_⟩
  · rw [upd_same, List.map_append]; rfl
  · rcases List.mem_append.mp ha with ha | ha
    · obtain ⟨q1, q2, q0, ss', q3, q4, q5⟩ := g3 a ha
      exact ⟨q1, q2, ss', by rw [upd_ne q2]; exact q3, q4, q5⟩
    · have : a = r := by simpa using ha
      subst this
      refine ⟨hn, hr'.symm, ss, ?_, h3, h4⟩
      rw [upd_ne hr'.symm, h1, rps_strs h2]
/-- grid[r][c] = "." if grid[r][c] == "x" else "x" -/
theorem st_flip {ip ia ib : Nat} {x y : Int} {vx vy : V} (hp : σ[ip]? = some (some (.ref p))) (ha : σ[ia]? = some (some vx)) (hb : σ[ib]? = some (some vy)) (rx : Rp H x vx) (ry : Rp H y vy) (h : GridOk H0 H p n m) (x0 : 0 ≤ x) (x1 : x < n) (y0 : 0 ≤ y) (y1 : y < m)
    (q : ∀ H2, Tg H H2 → (∀ {j Ha}, e.R j Ha H → (∀ a, H0 a = none → Ha a = none) → e.R j Ha H2) → (∀ a o, H0 a = some o → H2 a = H a) → GridOk H0 H2 p n m → D.nx σ H2) :
    tAsg (tIf (tTest (tOp rEq (tOp (rIxL K) (tOp (rIxL K) (tVar ip) (tVar ia)) (tVar ib)) (tC (.str "x")))) (tC (.str ".")) (tC (.str "x"))) (gSub (tOp (rIxL K) (tVar ip) (tVar ia)) (tVar ib) rSetL) D σ H := by
  cases rx; cases ry
  obtain ⟨hn', ps, g1, g2, g3⟩ := h
  have hx : x.toNat < ps.length := by omega
  have hxe : x = ((x.toNat : Nat) : Int) := by omega
  obtain ⟨q1, q2, ss, q3, q4, q5⟩ := g3 ps[x.toNat] (List.getElem_mem hx)
  have hy : y.toNat < ss.length := by omega
  have hye : y = ((y.toNat : Nat) : Int) := by omega
  have i1 : atI (ps.map V.ref) x = some (.ref ps[x.toNat]) := atI_at x0 (by rw [List.getElem?_map, List.getElem?_eq_getElem hx]; rfl)
  have i2 : atI (ss.map V.str) y = some (.str ss[y.toNat]) := atI_at y0 (by rw [List.getElem?_map, List.getElem?_eq_getElem hy]; rfl)
  have go : ∀ s : Str, Sg s → tAsg (tC (.str s)) (gSub (tOp (rIxL K) (tVar ip) (tVar ia)) (tVar ib) rSetL) D σ H := fun s hs => by
    refine ⟨.ref p, hp, .int x, ha, p, _, x, _, rfl, rfl, SqL.of g1, i1, .int y, hb, ps[x.toNat], _, y, y.toNat, rfl, rfl, q3, ?_, ?_⟩
    · unfold ixN
      rw [if_pos y0, if_pos (by rw [List.length_map]; omega)]
    · have c : ∀ o, Chg e ps[x.toNat] o H (upd H ps[x.toNat] o) := fun o => chg_upd q3 fun _ z => by cases z
      refine q _ (c _).t (fun g f => (c _).g g (f _ q1)) (fun a o ho => upd_ne (fun z => by rw [z, q1] at ho; cases ho)) ⟨hn', ps, ?_, g2, fun a ha' => ?_⟩
      · rw [upd_ne q2.symm]; exact g1
      · by_cases ea : a = ps[x.toNat]
        · rw [ea]
          refine ⟨q1, q2, ss.set y.toNat s, ?_, by rw [List.length_set]; exact q4, fun z hz => ?_⟩
          · rw [upd_same, List.map_set]
          · rcases List.mem_or_eq_of_mem_set hz with hz | hz
            · exact q5 z hz
            · rw [hz]; exact hs
        · obtain ⟨w1, w2, ss', w3, w4, w5⟩ := g3 a ha'
          exact ⟨w1, w2, ss', by rw [upd_ne ea]; exact w3, w4, w5⟩
  refine ⟨.ref p, hp, .int x, ha, p, _, x, _, rfl, rfl, SqL.of g1, i1, .int y, hb, ps[x.toNat], _, y, _, rfl, rfl, SqL.of q3, i2, rfl, _, rfl, ?_⟩
  refine ite2 (fun _ => ?_) (fun _ => ?_)
  · exact go "." (.inr rfl)
  · exact go "x" (.inl rfl)
/-- what a chart's rows are made of -/
def RowOk (m : Nat) (s : Str) : Prop := s.length = m ∧ ∀ c ∈ s.cps.toList, c = 120 ∨ c = 46
theorem join_nil (ys : List Str) : (Txt.join (Str.ofString "") ys).cps.toList = (ys.map fun y => y.cps.toList).flatten := by
  show (Builtin.Str.glued (Str.ofString "") ys).cps.toList = _
  rw [StrLaws.glued_eq_join]
  have := TL.tl_join (Str.ofString "") ys
  have e0 : TL.tl (Str.ofString "") = [] := by decide +kernel
  rw [e0] at this
  have e1 : ∀ l : List (List Nat), TL.joinL [] l = l.flatten := fun l => by
    induction l with
    | nil => rfl
    | cons a l ih => cases l with
      | nil => simp [TL.joinL]
      | cons b l =>
        show a ++ ([] ++ TL.joinL [] (b :: l)) = _
        rw [ih]; simp
  rw [e1] at this
  exact this
theorem join_row {ss : List Str} (h : ∀ s ∈ ss, Sg s) : RowOk ss.length (Txt.join (Str.ofString "") ss) := by
  have hj := join_nil ss
  constructor
  · show (Txt.join (Str.ofString "") ss).cps.size = _
    rw [← Array.length_toList, hj]
    clear hj
    induction ss with
    | nil => rfl
    | cons a ss ih =>
      rw [List.map_cons, List.flatten_cons, List.length_append, ih fun s hs => h s (List.mem_cons_of_mem _ hs), Array.length_toList]
      have := (h a List.mem_cons_self).len
      have e : a.cps.size = 1 := this
      rw [e, List.length_cons]; omega
  · intro c hc
    rw [hj] at hc
    obtain ⟨l, hl, hcl⟩ := List.mem_flatten.mp hc
    obtain ⟨s, hs, rfl⟩ := List.mem_map.mp hl
    rcases h s hs with e | e
    · subst e
      have : (Str.ofString "x").cps.toList = [120] := by decide +kernel
      rw [this] at hcl
      exact .inl (by simpa using hcl)
    · subst e
      have : (Str.ofString ".").cps.toList = [46] := by decide +kernel
      rw [this] at hcl
      exact .inr (by simpa using hcl)
abbrev rJoin (K : PySem.W.Frag) : V → List V → Hp → VK → Prop := fun x xs H Q => ∃ a p, ∃ ys : List Str, x = .str a ∧ xs = [.ref p] ∧ (SqL K H p (ys.map V.str) ∨ SqT K H p (ys.map V.str)) ∧
      (ys.map (·.length)).sum + ys.length * a.length ≤ 16777216 ∧ Q (.str (Txt.join a ys)) H
theorem er_join {te : TE} {k : Nat} {ys : List Str} (h : EvR e k te σ H (isLr K e.S ys)) (hz : (ys.map (·.length)).sum ≤ 100000) : EvR e k (tM1 (rJoin K) (tC (.str (Str.ofString ""))) te) σ H (isD (Txt.join (Str.ofString "") ys)) := fun l H1 hm g Q q =>
  ⟨⟨_, rfl⟩, h l H1 hm g _ fun v H2 g2 ⟨p, vs, e1, e2, _, e3⟩ => by
    subst e1
    cases rps_strs e3
    have e0 : (Str.ofString "").length = 0 := by decide +kernel
    exact ⟨_, p, ys, rfl, rfl, .inl (SqL.of e2), by rw [e0]; omega, q _ H2 g2 rfl⟩⟩
theorem sum_sg {ss : List Str} (h : ∀ s ∈ ss, Sg s) : (ss.map (·.length)).sum = ss.length := by
  induction ss with
  | nil => rfl
  | cons a ss ih =>
    rw [List.map_cons, List.sum_cons, ih fun s hs => h s (List.mem_cons_of_mem _ hs), (h a List.mem_cons_self).len, List.length_cons]; omega
theorem tyes {σ : L2.St} {H : Hp} {Q : Bool → Hp → Prop} (h : Q true H) : tYes σ H Q := h
/-- tuple(["".join(row) for row in grid]) -/
theorem er_gjoin {ip j : Nat} {vs : List Nat} (hp : σ[ip]? = some (some (.ref p))) (h : GridOk H0 H p n m) (nS : ∀ {p : Addr}, H0 p = none → ¬ e.S p) (hn : n ≤ 100000) (hm : m ≤ 100000) (hw : ∀ x, wipe ((wipe σ vs).set j (some x)) vs = wipe σ vs) (hj : ∀ x, ((wipe σ vs).set j (some x))[j]? = some (some x)) :
    EvR e 0 (tCB (rTupOf K) (tCons (tLc (iList K (tVar ip)) (gName j) tYes (tM1 (rJoin K) (tC (.str (Str.ofString ""))) (tVar j)) vs) tNil)) σ H (isA fun ch : List Str => ch.length = n ∧ ∀ s ∈ ch, RowOk m s) := fun l H1 _ g Q q => by
  obtain ⟨hn', ps, g1, g2, g3⟩ := GridOk.go (H0 := H0) g (fun h => nS h) h
  refine ⟨.ref p, hp, p, rfl, ⟨_, SqL.of g1⟩, fun Dl hD => lc_list (xs := ps.map V.ref) (fun i H' => H1 Dl = none ∧ Same H1 H' ∧ ∃ ys : List Str, H' Dl = some (.lst (ys.map V.str)) ∧ ys.length = i ∧ ∀ s ∈ ys, RowOk m s) ⟨hD, same_new hD, [], upd_same, rfl, fun _ h => nomatch h⟩ (fun i H' _ pp => SqL.of (pp.2.1 p _ g1)) (fun i x H' hi pp => ?_) fun H' pp => ?_⟩
  · obtain ⟨n1, s1, ys, y1, y2, y3⟩ := pp
    rw [List.getElem?_map] at hi
    obtain ⟨a, ha, rfl⟩ := Option.map_eq_some_iff.mp hi
    obtain ⟨q1, q2, ss, q3, q4, q5⟩ := g3 a (List.mem_of_getElem? ha)
    have hil : i < ps.length := (List.getElem?_eq_some_iff.mp ha).1
    refine ⟨hw _, ?_⟩
    refine tyes ?_
    rw [if_pos rfl]
    refine ⟨⟨_, rfl⟩, _, hj _, _, a, ss, rfl, rfl, .inl (SqL.of (s1 a _ q3)), ?_, ?_⟩
    · have e0 : (Str.ofString "").length = 0 := by decide +kernel
      rw [e0, sum_sg q5]; omega
    · refine ⟨_, y1, by rw [List.length_map, y2]; exact sz_lt (by omega), n1, same_chg s1 n1, ys ++ [Txt.join (Str.ofString "") ss], by rw [upd_same, List.map_append]; rfl, by rw [List.length_append, y2]; rfl, fun s hs => ?_⟩
      rcases List.mem_append.mp hs with hs | hs
      · exact y3 s hs
      · have : s = Txt.join (Str.ofString "") ss := by simpa using hs
        rw [this, ← q4]
        exact join_row q5
  · obtain ⟨n1, s1, ys, y1, y2, y3⟩ := pp
    rw [List.length_map] at y2
    refine ⟨Dl, _, rfl, .inl ⟨SqL.of y1, fun t ht => ?_⟩⟩
    refine q _ _ (e.ext' (Same.trans s1 (same_new ht))) ⟨ys, ⟨by omega, y3⟩, t, _, rfl, upd_same, rps_strs' _ _⟩
end
end Z

namespace Z
open PySem PySem.Spec PyProof.Rows L2
section
variable {d : Dl} {e : Ef} {l : Addr} {o : HO} {H0 H H' H1 H2 : Hp} {b : Nat}
theorem Dl.At.chg (h : d.At H1) (h0 : d.At H0) (n : H0 l = none) (c : Chg e l o H1 H2) : d.At H2 := by
  obtain ⟨m, hm⟩ := h0.n
  obtain ⟨k, hk⟩ := h.n
  exact ⟨c.lst (ne_of_none h0.p n) h.p, c.lst (ne_of_none h0.l1 n) h.l1, ⟨k, c.lst (ne_of_none hm n) hk⟩, h.np, h.n1⟩
theorem Dl.Le.chg (h : d.Le H1 b) (h0 : d.At H0) (n : H0 l = none) (c : Chg e l o H1 H2) : d.Le H2 b := by
  obtain ⟨m, hm⟩ := h0.n
  obtain ⟨k, hk, hb⟩ := h
  exact ⟨k, c.lst (ne_of_none hm n) hk, hb⟩
/-- the same, all else but new objects kept -/
theorem Dl.At.keep (h : d.At H1) (h0 : d.At H0) (c : ∀ a o, H0 a = some o → H2 a = H1 a) : d.At H2 := by
  obtain ⟨m, hm⟩ := h0.n
  obtain ⟨k, hk⟩ := h.n
  exact ⟨(c _ _ h0.p).trans h.p, (c _ _ h0.l1).trans h.l1, ⟨k, (c _ _ hm).trans hk⟩, h.np, h.n1⟩
theorem Dl.Le.keep (h : d.Le H1 b) (h0 : d.At H0) (c : ∀ a o, H0 a = some o → H2 a = H1 a) : d.Le H2 b := by
  obtain ⟨m, hm⟩ := h0.n
  obtain ⟨k, hk, hb⟩ := h
  exact ⟨k, (c _ _ hm).trans hk, hb⟩
end
section
variable {K : PySem.W.Frag} {e : Ef} {σ : L2.St} {H H' : Hp} {ta tb te tc tl td ty : TE} {t u : TT} {i j k m n : Nat} {v : V} {D : Ends} {tu tw tz : TS}
theorem st_forR1A {P : Int → Prop} (h : EvR e k te σ H (isA P)) (hb : ∀ n, P n → n ≤ 100000000 ∧ -100000000 ≤ n)
    (q : ∀ n H1, P n → e.R k H H1 → ∃ Pv : Nat → L2.St → Hp → Prop, Pv 0 σ H1 ∧ (∀ (i : Nat) σ' H', (i : Int) < n → Pv i σ' H' → tu { D with nx := Pv (i + 1), ct := Pv (i + 1), bk := D.nx } (σ'.set j (some (.int (i : Int)))) H') ∧ ∀ σ' H', Pv n.toNat σ' H' → D.nx σ' H')
    (hk' : k ≤ e.M := by exact Nat.le_of_ble_eq_true rfl) : tFor (iRng1 (tCons te tNil)) (gName j) tu D σ H :=
  h 0 H (by omega) (e.refl H) _ fun v H1 g ⟨n, pn, r⟩ => by
    cases r
    obtain ⟨Pv, h0, hs, hd⟩ := q n H1 pn g
    obtain ⟨b1, b2⟩ := hb n pn
    exact ⟨n, rfl, by omega, by omega, for_range (lo := 0) (n := n.toNat) Pv h0 (fun i σ' H' hi p => by
      have e0 : (0 : Int) + (i : Int) = (i : Int) := Int.zero_add _
      show tu { D with nx := Pv (i + 1), ct := Pv (i + 1), bk := D.nx } (σ'.set j (some (.int ((0 : Int) + (i : Int))))) H'
      rw [e0]
      exact hs i σ' H' (by omega) p) hd⟩
theorem q_forR1A {P : Int → Prop} (h : EvR e k te σ H (isA P)) (hb : ∀ n, P n → n ≤ 100000000 ∧ -100000000 ≤ n)
    (q : ∀ n H1, P n → e.R k H H1 → ∃ Pv : Nat → L2.St → Hp → Prop, Pv 0 σ H1 ∧ (∀ (i : Nat) σ' H', (i : Int) < n → Pv i σ' H' → tu { D with nx := Pv (i + 1), ct := Pv (i + 1), bk := tz D } (σ'.set j (some (.int (i : Int)))) H') ∧ ∀ σ' H', Pv n.toNat σ' H' → tz D σ' H')
    (hk' : k ≤ e.M := by exact Nat.le_of_ble_eq_true rfl) : tSeq (tFor (iRng1 (tCons te tNil)) (gName j) tu) tz D σ H := st_forR1A (D := { D with nx := tz D }) h hb q hk'
theorem q_flip {H0 : Hp} {p : Addr} {ip ia ib : Nat} {x y : Int} {vx vy : V} (hp : σ[ip]? = some (some (.ref p))) (ha : σ[ia]? = some (some vx)) (hb : σ[ib]? = some (some vy)) (rx : Rp H x vx) (ry : Rp H y vy) (h : GridOk H0 H p n m) (x0 : 0 ≤ x) (x1 : x < n) (y0 : 0 ≤ y) (y1 : y < m)
    (q : ∀ H2, Tg H H2 → (∀ {j Ha}, e.R j Ha H → (∀ a, H0 a = none → Ha a = none) → e.R j Ha H2) → (∀ a o, H0 a = some o → H2 a = H a) → GridOk H0 H2 p n m → tz D σ H2) :
    tSeq (tAsg (tIf (tTest (tOp rEq (tOp (rIxL K) (tOp (rIxL K) (tVar ip) (tVar ia)) (tVar ib)) (tC (.str "x")))) (tC (.str ".")) (tC (.str "x"))) (gSub (tOp (rIxL K) (tVar ip) (tVar ia)) (tVar ib) rSetL)) tz D σ H := st_flip (e := e) (D := { D with nx := tz D }) hp ha hb rx ry h x0 x1 y0 y1 q
/-- x in a written row of ints or texts -/
theorem inV_sc {α : Type} [PyI α] [DecidableEq α] [Scal α] (h : ∀ a b : α, eqV (Scal.toV a) (Scal.toV b) = decide (a = b)) (a : α) (xs : List α) : inV (Scal.toV a) (xs.map Scal.toV) = decide (a ∈ xs) := by
  unfold inV
  induction xs with
  | nil => simp
  | cons x xs ih =>
    rw [List.map_cons, List.any_cons, ih, h x a]
    by_cases e : x = a
    · subst e; simp
    · by_cases e2 : a ∈ xs
      · simp [e, e2, Ne.symm e]
      · have e3 : ¬ a = x := fun z => e z.symm
        simp [e, e2, e3]
theorem er_inI {x : Int} {xs : List Int} (ha : EvR e j ta σ H (isD x)) (hb : EvR e k tb σ H (isD xs)) : EvR e (j + k) (tOp (rIn K false) ta tb) σ H (isD (decide (x ∈ xs))) :=
  er_opD ha hb fun _ _ H1 r ⟨p, vs, h1, h2, h3⟩ Q q => by
    cases r
    have e1 := rps_ints h3
    subst e1
    refine ⟨p, _, h1, .inr (SqT.of h2), rfl, by simp [flatV], ?_⟩
    have := inV_sc (α := Int) (fun a b => by show (a == b) = _; rw [Bool.beq_eq_decide_eq]) x xs
    refine q _ _ (Same.refl _) ?_
    show V.bl (if false = true then _ else inV (V.int x) (xs.map V.int)) = _
    rw [if_neg Bool.false_ne_true]
    exact congrArg V.bl this
/-- a + b of lists -/
theorem er_cat {α : Type} [PyI α] {xs ys : List α} (ha : EvR e j ta σ H (isLr K e.S xs)) (hb : EvR e k tb σ H (isLr K e.S ys)) (hl : xs.length + ys.length ≤ 100000) : EvR e (j + k) (tOp rCat ta tb) σ H (isL (xs ++ ys)) := fun l H1 hm g Q q =>
  ha l H1 (by omega) g _ fun v H2 g2 p => hb _ H2 (by omega) (e.trans g g2) _ fun w H3 g3 ⟨p2, ws, q1, q2, _, q3⟩ => by
    obtain ⟨p1, vs, h1, h2, _, h3⟩ := LsR.go g3 p
    subst h1; subst q1
    refine ⟨p1, p2, vs, ws, rfl, rfl, h2, q2, by rw [← h3.len, ← q3.len]; exact sz_le hl, fun p hp => q _ _ (e.tr0 (e.trans g2 g3) (same_new hp)) ⟨p, _, rfl, e.free (e.trans g2 g3) hp, upd_same, ?_⟩⟩
    exact Rps.app (Rps.tm (Tg.new hp) h3) (Rps.tm (Tg.new hp) q3)
/-- list(d) -/
abbrev rListT : List V → Hp → VK → Prop := fun xs H Q => ∃ d kvs, xs = [V.ref d] ∧ Rd H d (.dT kvs) ∧ ∀ p bs, H p = none → IsKeys H kvs bs → Q (.ref p) (upd H p (.lst (bs.map V.ref)))
theorem rps_keys {H : Hp} : ∀ {kvs : List (Sq × Int)} {bs : List Addr}, IsKeys H (DI kvs) bs → Rps H (kvs.map (·.1)) (bs.map V.ref)
  | [], _, h => by cases h; exact .nil
  | p :: kvs, _, h => by
    cases h with
    | @cons a b as bs h t => exact .cons ⟨b, _, _, rfl, h, rfl, rfl⟩ (rps_keys t)
theorem er_listd {kvs : List (Sq × Int)} {p : Addr} {iv : Nat} (hv : σ[iv]? = some (some (.ref p))) (hp : H p = some (.dT (DI kvs))) (hS : ¬ e.S p) : EvR e 0 (tCB rListT (tCons (tVar iv) tNil)) σ H (isL (kvs.map (·.1))) := fun l H1 hm g Q q =>
  ⟨_, hv, p, _, rfl, .inl (e.oth g _ _ hp hS), fun p2 bs hp2 hk => q _ _ (e.ext (same_new hp2)) ⟨p2, _, rfl, hp2, upd_same, Rps.tm (Tg.new hp2) (rps_keys hk)⟩⟩
/-- d[k] if k in d else None -/
theorem er_look {kvs : List (Sq × Int)} {q : Sq} {p : Addr} {iv : Nat} {ty ty' : TE} (hv : σ[iv]? = some (some (.ref p))) (hp : H p = some (.dT (DI kvs))) (hS : ¬ e.S p) (hk : EvR e j ty σ H (isD q)) (hk2 : EvR e k ty' σ H (isD q)) :
    EvR e (j + k) (tIf (tB (tDIn ty (tVar iv))) (tDGet (tVar iv) ty') (tC .non)) σ H (isD (lookK kvs q)) := fun l H1 hm g Q qq =>
  hk l H1 (by omega) g _ fun y H2 g2 r => by
    obtain ⟨b, e1, e2⟩ := rp_key r
    subst e1
    refine ⟨_, hv, p, _, rfl, DGet.t (e.oth (e.trans g g2) _ _ hp hS) e2, _, rfl, ?_⟩
    rw [valV_DI]
    cases hh : lookK kvs q with
    | none =>
      refine qq _ H2 (e.mono g2 (Nat.le_add_right _ _)) ?_
      rw [hh]; exact rfl
    | some z =>
      refine ⟨_, hv, hk2 _ H2 (by omega) (e.trans g g2) _ fun y H3 g3 r => ?_⟩
      obtain ⟨b, e1, e2⟩ := rp_key r
      subst e1
      have hg := DGet.t (e.oth (e.trans (e.trans g g2) g3) _ _ hp hS) e2
      rw [valV_DI, hh] at hg
      refine ⟨p, _, rfl, hg, qq _ H3 (e.trans g2 g3) ?_⟩
      rw [hh]
      exact ⟨(fun z => by cases z), rfl⟩
/-- [x, y, z], three things of different kinds -/
def isL3 {α β γ : Type} [PyI α] [PyI β] [PyI γ] (P : α → β → γ → Prop) : Hp → Hp → V → Prop := fun H1 H2 v => ∃ a b c p x y z, P a b c ∧ v = .ref p ∧ H1 p = none ∧ H2 p = some (.lst [x, y, z]) ∧ Rp H2 a x ∧ Rp H2 b y ∧ Rp H2 c z
theorem back_L3 {α β γ : Type} [PyI α] [PyI β] [PyI γ] {P : α → β → γ → Prop} : Back e (isL3 P) := fun _ _ _ _ _ g ⟨a, b, c, p, x, y, z, h0, h1, h2, h3⟩ => ⟨a, b, c, p, x, y, z, h0, h1, e.free g h2, h3⟩
theorem er_l3 {α β γ : Type} [PyI α] [PyI β] [PyI γ] {P : α → Prop} {P' : β → Prop} {P'' : γ → Prop} (h1 : EvR e i ta σ H (isA P)) (h2 : EvR e j tb σ H (isA P')) (h3 : EvR e k tc σ H (isA P'')) :
    EvR e (i + j + k) (tLst (tCons ta (tCons tb (tCons tc tNil)))) σ H (isL3 fun a b c => P a ∧ P' b ∧ P'' c) := fun l H1 hm g Q q =>
  ea3 h1 stay_A h2 stay_A back_A h3 back_A l H1 (by omega) g _ fun vs H2 g2 ⟨v, w, x, ev, ⟨a, pa, ra⟩, ⟨b, pb, rb⟩, c, pc, rc⟩ => by
    subst ev
    exact ⟨sz_le (n := 3) (by decide), fun p hp => q _ _ (e.tr0 g2 (same_new hp)) ⟨a, b, c, p, v, w, x, ⟨pa, pb, pc⟩, rfl, e.free g2 hp, upd_same, PyI.tm (Tg.new hp) ra, PyI.tm (Tg.new hp) rb, PyI.tm (Tg.new hp) rc⟩⟩
theorem q_unl3 {α β γ : Type} [PyI α] [PyI β] [PyI γ] {P : α → β → γ → Prop} (h : EvR e k te σ H (isL3 P)) (q : ∀ a b c x y z H1, e.R k H H1 → P a b c → Rp H1 a x → Rp H1 b y → Rp H1 c z → tz D (((σ.set i (some x)).set j (some y)).set m (some z)) H1)
    (hk' : k ≤ e.M := by exact Nat.le_of_ble_eq_true rfl) : tSeq (tAsg te (gUnl K 3 (gCons (gName i) (gCons (gName j) (gCons (gName m) gNil))))) tz D σ H := h 0 H (by omega) (e.refl H) _ fun v H1 g ⟨a, b, c, p, x, y, z, pp, h1, _, h2, r1, r2, r3⟩ =>
  ⟨p, [x, y, z], h1, SqL.of h2, rfl, x, [y, z], rfl, y, [z], rfl, z, [], rfl, rfl, q a b c x y z H1 g pp r1 r2 r3⟩
theorem q_ifA2 : True := True.intro
end
end Z
namespace Z
open PySem PySem.Spec PyProof.Rows L2
section
variable {K : PySem.W.Frag} {e : Ef} {σ : L2.St} {H H' : Hp} {t : TT} {k i : Nat} {v : V}
theorem er_ifSg {P : Bool → Prop} (h : ET e k t σ H P) : EvR e k (tIf t (tC (.str (Str.ofString "x"))) (tC (.str (Str.ofString ".")))) σ H (isA Sg) := fun l H1 hm g Q q => h l H1 hm g _ fun b H2 g2 _ => by
  cases b with
  | true => exact q _ H2 g2 ⟨"x", .inl rfl, rfl⟩
  | false => exact q _ H2 g2 ⟨".", .inr rfl, rfl⟩
theorem retL3 {α β γ : Type} [PyI α] [PyI β] [PyI γ] {P P' : α → β → γ → Prop} {H0 : Hp} (g : e.R i H0 H) (r : isL3 P H H' v) (h : ∀ a b c, P a b c → P' a b c) : isL3 P' H0 H' v := by
  obtain ⟨a, b, c, p, x, y, z, h0, h1, h2, h3⟩ := r
  exact ⟨a, b, c, p, x, y, z, h a b c h0, h1, e.free g h2, h3⟩
theorem retLA {α : Type} [PyI α] {a : List α} {P : List α → Prop} {H0 : Hp} (g : e.R i H0 H) (r : isL a H H' v) (h : P a) : isLA P H0 H' v := by
  obtain ⟨p, vs, h1, h2, h3, h4⟩ := r
  exact ⟨a, p, vs, h, h1, e.free g h2, h3, h4⟩
end
end Z
namespace Z
open PySem PySem.Spec PyProof.Rows L2
section
variable {X : Cx} {K : PySem.W.Frag}
theorem pe_joinK {o e : Expr} {to te : TE} {apos pos : Pos} (hK : X.K = K) (ho : PE X o to) (he : PE X e te) (hs : starEach [e] X.env = [(false, eval e X.env)] := by rfl) (hbase : attributeBase o "join" X.env (eval o X.env) = eval o X.env := by rfl) (hline : (apos.endLine == pos.line) = true := by rfl) :
    PE X (.Call (.Attribute o "join" apos) [e] [] pos) (tM1 (rJoin K) to te) := hK ▸ pe_join ho he hs hbase hline
theorem pe_ixTK {a b : Expr} {ta tb : TE} {pos : Pos} (hK : X.K = K) (ha : PE X a ta) (hb : PE X b tb) (hs : PlainIx b) : PE X (.Subscript a b pos) (tOp (rIxT K) ta tb) := hK ▸ pe_ix ix_tup ha hb hs
theorem pe_ixLK {a b : Expr} {ta tb : TE} {pos : Pos} (hK : X.K = K) (ha : PE X a ta) (hb : PE X b tb) (hs : PlainIx b) : PE X (.Subscript a b pos) (tOp (rIxL K) ta tb) := hK ▸ pe_ix ix_list ha hb hs
end
end Z
namespace Z
open PySem PySem.Spec PyProof.Rows L2
theorem ev_deal {K : PySem.W.Frag} {σ : L2.St} {H : Hp} {E : XK} {i : Nat} {a : Addr} {ns : List Int} (hv : σ[i]? = some (some (.ref a))) (h : SqL K H a (ns.map V.int)) (hl : ns.length ≤ 63) : EvR ef0 0 (tCall (sp_deal K) [] E (tCons (tVar i) tNil)) σ H isDeal := fun l H1 hm g Q q =>
  ⟨_, hv, a, ns, rfl, sqL_go g h, hl, fun v H2 s r => q v H2 s r⟩
def sp_law (K : PySem.W.Frag) : Sp := fun vs H Q _ => ∃ (a : Addr) (ns : List Int), vs = [.ref a] ∧ SqL K H a (ns.map V.int) ∧ ns.length ≤ 63 ∧ ∀ H', Q (.bl true) H'
end Z
namespace Z
open PySem PySem.Spec PyProof.Rows L2
section
variable {K : PySem.W.Frag} {e : Ef} {σ : L2.St} {H H' : Hp} {i j k m n : Nat} {v : V} {D : Ends} {tu tw tz : TS}
/-- over a local list -/
theorem st_forV {α : Type} [PyI α] {xs : List α} {p : Addr} {vs : List V} (hv : σ[i]? = some (some (.ref p))) (hp : H p = some (.lst vs)) (hr : Rps H xs vs)
    (q : ∃ Pv : Nat → L2.St → Hp → Prop, Pv 0 σ H ∧ (∀ i σ' H', Pv i σ' H' → H' p = some (.lst vs)) ∧
      (∀ i a x σ' H', xs[i]? = some a → Rp H a x → Pv i σ' H' → tu { D with nx := Pv (i + 1), ct := Pv (i + 1), bk := D.nx } (σ'.set j (some x)) H') ∧ ∀ σ' H', Pv xs.length σ' H' → D.nx σ' H') : tFor (iList K (tVar i)) (gName j) tu D σ H := by
  obtain ⟨Pv, h0, hl, hs, hd⟩ := q
  refine ⟨_, hv, p, rfl, ⟨vs, SqL.of hp⟩, for_list (xs := vs) Pv h0 (fun i σ' H' _ p => SqL.of (hl i σ' H' p)) (fun i x σ' H' hi p => ?_) (by rw [← hr.len]; exact hd)⟩
  obtain ⟨a, ha, ra⟩ := hr.getV hi
  exact hs i a x σ' H' ha ra p
theorem q_forV {α : Type} [PyI α] {xs : List α} {p : Addr} {vs : List V} (hv : σ[i]? = some (some (.ref p))) (hp : H p = some (.lst vs)) (hr : Rps H xs vs)
    (q : ∃ Pv : Nat → L2.St → Hp → Prop, Pv 0 σ H ∧ (∀ i σ' H', Pv i σ' H' → H' p = some (.lst vs)) ∧
      (∀ i a x σ' H', xs[i]? = some a → Rp H a x → Pv i σ' H' → tu { D with nx := Pv (i + 1), ct := Pv (i + 1), bk := tz D } (σ'.set j (some x)) H') ∧ ∀ σ' H', Pv xs.length σ' H' → tz D σ' H') : tSeq (tFor (iList K (tVar i)) (gName j) tu) tz D σ H := st_forV (D := { D with nx := tz D }) hv hp hr q
end
end Z

namespace W
open PySem PySem.Spec L2 Z
def wid (ch : List Str) : Nat := (ixD ch 0).length
structure Ch (ch : List Str) : Prop where
  ne : 0 < ch.length
  hl : ch.length ≤ 100
  w : ∀ s ∈ ch, s.length = wid ch
  w0 : 0 < wid ch
  wl : wid ch ≤ 100
def isSq (ch : List Str) (q : Sq) : Bool := (decide (0 ≤ q.1) && decide (q.1 < (ch.length : Int))) && (decide (0 ≤ q.2) && decide (q.2 < (wid ch : Int)))
def isLd (ch : List Str) (q : Sq) : Bool := isSq ch q && decide (sgn (ixD ch q.1) q.2 = "x")
theorem isSq_iff {ch : List Str} {q : Sq} : isSq ch q = true ↔ 0 ≤ q.1 ∧ q.1 < (ch.length : Int) ∧ 0 ≤ q.2 ∧ q.2 < (wid ch : Int) := by
  unfold isSq
  simp only [Bool.and_eq_true, decide_eq_true_eq]
  exact ⟨fun ⟨⟨a, b⟩, c, d⟩ => ⟨a, b, c, d⟩, fun ⟨a, b, c, d⟩ => ⟨⟨a, b⟩, c, d⟩⟩
theorem isLd_sq {ch : List Str} {q : Sq} (h : isLd ch q = true) : isSq ch q = true := by
  unfold isLd at h
  exact (Bool.and_eq_true_iff.mp h).1
theorem ixD_mem {α : Type} [Inhabited α] {xs : List α} {i : Int} (h0 : 0 ≤ i) (h : i < xs.length) : ixD xs i ∈ xs := by
  have : i.toNat < xs.length := by omega
  have e : ixD xs ((i.toNat : Nat) : Int) = xs[i.toNat] := ixD_nat this
  have e2 : ((i.toNat : Nat) : Int) = i := by omega
  rw [e2] at e
  rw [e]; exact List.getElem_mem this
section
variable {ch : List Str} {q : Sq} (c : Ch ch)
include c
theorem Ch.ok0 : okI ch.length 0 := ⟨by have := c.ne; omega, by have := c.ne; omega⟩
theorem Ch.wl0 : (ixD ch 0).length ≤ 100000 := by have := c.wl; unfold wid at this; omega
theorem Ch.ok1 (h : isSq ch q = true) : okI ch.length q.1 := by
  have := isSq_iff.mp h
  exact ⟨by omega, by omega⟩
theorem Ch.len1 (h : isSq ch q = true) : (ixD ch q.1).length = wid ch := by
  have := isSq_iff.mp h
  exact c.w _ (ixD_mem this.1 this.2.1)
theorem Ch.wl1 (h : isSq ch q = true) : (ixD ch q.1).length ≤ 100000 := by
  rw [c.len1 h]; have := c.wl; omega
theorem Ch.ok2 (h : isSq ch q = true) : okI (ixD ch q.1).length q.2 := by
  have := isSq_iff.mp h
  rw [c.len1 h]
  exact ⟨by omega, by omega⟩
end
def sides (q : Sq) : List Sq := [(q.1 - 1, q.2), (q.1, q.2 - 1), (q.1, q.2 + 1), (q.1 + 1, q.2)]
def ldBeside (ch : List Str) (q : Sq) : List Sq := (sides q).filter (isLd ch)
theorem sides_symm {p q : Sq} (h : q ∈ sides p) : p ∈ sides q := by
  obtain ⟨a, b⟩ := p
  obtain ⟨c, d⟩ := q
  simp only [sides, List.mem_cons, Prod.mk.injEq, List.not_mem_nil, or_false] at h ⊢
  omega

/-! ### walks over land -/
def Wk (ch : List Str) : Nat → Sq → Sq → Prop
  | 0, s, q => s = q
  | n + 1, s, q => ∃ p, Wk ch n s p ∧ q ∈ sides p ∧ isLd ch q = true
theorem Wk.cons {ch : List Str} : ∀ {n : Nat} {s p q : Sq}, p ∈ sides s → isLd ch p = true → Wk ch n p q → Wk ch (n + 1) s q
  | 0, s, p, q, h1, h2, h3 => ⟨s, rfl, by cases h3; exact h1, by cases h3; exact h2⟩
  | n + 1, s, p, q, h1, h2, ⟨r, h3, h4, h5⟩ => ⟨r, Wk.cons h1 h2 h3, h4, h5⟩
theorem Wk.land {ch : List Str} : ∀ {n : Nat} {s q : Sq}, isLd ch s = true → Wk ch n s q → isLd ch q = true
  | 0, _, _, h, w => by cases w; exact h
  | _ + 1, _, _, _, ⟨_, _, _, h⟩ => h
theorem Wk.symm {ch : List Str} : ∀ {n : Nat} {s q : Sq}, isLd ch s = true → Wk ch n s q → Wk ch n q s
  | 0, _, _, _, w => Eq.symm w
  | n + 1, s, q, h, ⟨p, w, hq, _⟩ => Wk.cons (sides_symm hq) (Wk.land h w) (Wk.symm h w)

/-! ### a breadth first search: the dict as it stands, at the place `at` -/
structure Bfs (ch : List Str) (s : Sq) (kvs : List (Sq × Int)) (at' : Nat) : Prop where
  nd : (kvs.map (·.1)).Nodup
  le : at' ≤ kvs.length
  pos : 0 < kvs.length
  hd : kvs[0]? = some (s, 0)
  wk : ∀ p ∈ kvs, ∃ n : Nat, p.2 = (n : Int) ∧ Wk ch n s p.1
  ld : ∀ p ∈ kvs, isLd ch p.1 = true
  srt : ∀ (i j : Nat) (p q : Sq × Int), i ≤ j → kvs[i]? = some p → kvs[j]? = some q → p.2 ≤ q.2
  top : ∀ (p : Sq × Int), kvs[at']? = some p → ∀ q ∈ kvs, q.2 ≤ p.2 + 1
  don : ∀ (i : Nat) (p : Sq × Int), i < at' → kvs[i]? = some p → ∀ q ∈ sides p.1, isLd ch q = true → ∃ r ∈ kvs, r.1 = q ∧ r.2 ≤ p.2 + 1
/-- within the turn of the place `at`, i of the candidates L looked at -/
structure BfsI (ch : List Str) (s : Sq) (kvs : List (Sq × Int)) (at' : Nat) (c : Sq) (d : Int) (L : List Sq) (i : Nat) : Prop extends Bfs ch s kvs at' where
  cur : kvs[at']? = some (c, d)
  nb : ∀ q ∈ L.take i, isLd ch q = true → ∃ r ∈ kvs, r.1 = q ∧ r.2 ≤ d + 1
theorem lookK_some {kvs : List (Sq × Int)} {q : Sq} {d : Int} (h : lookK kvs q = some d) : (q, d) ∈ kvs := by
  unfold lookK at h
  obtain ⟨p, hp, rfl⟩ := Option.map_eq_some_iff.mp h
  have h1 := List.find?_some hp
  have h2 := List.mem_of_find?_eq_some hp
  have : p.1 = q := of_decide_eq_true h1
  rw [← this]; exact h2
theorem lookK_none {kvs : List (Sq × Int)} {q : Sq} (h : lookK kvs q = none) : q ∉ kvs.map (·.1) := by
  unfold lookK at h
  rw [Option.map_eq_none_iff, List.find?_eq_none] at h
  intro hm
  obtain ⟨p, hp, e⟩ := List.mem_map.mp hm
  exact h p hp (decide_eq_true e)
theorem lookK_mem {kvs : List (Sq × Int)} (nd : (kvs.map (·.1)).Nodup) {q : Sq} {d : Int} (h : (q, d) ∈ kvs) : lookK kvs q = some d := by
  cases e : lookK kvs q with
  | none => exact absurd (List.mem_map.mpr ⟨(q, d), h, rfl⟩) (lookK_none e)
  | some d' =>
    have h' := lookK_some e
    obtain ⟨i, hi, ei⟩ := List.mem_iff_getElem.mp h
    obtain ⟨j, hj, ej⟩ := List.mem_iff_getElem.mp h'
    have : i = j := by
      have hi' : i < (kvs.map (·.1)).length := by rw [List.length_map]; exact hi
      have hj' : j < (kvs.map (·.1)).length := by rw [List.length_map]; exact hj
      have : (kvs.map (·.1))[i] = (kvs.map (·.1))[j] := by simp [ei, ej]
      exact (List.getElem_inj nd).mp this
    subst this
    rw [ei] at ej
    injection ej with _ e2
    rw [e2]
theorem hasK_iff {kvs : List (Sq × Int)} {q : Sq} : hasK kvs q = true ↔ q ∈ kvs.map (·.1) := by
  unfold hasK
  constructor
  · intro h
    obtain ⟨d, hd⟩ := Option.isSome_iff_exists.mp h
    exact List.mem_map.mpr ⟨_, lookK_some hd, rfl⟩
  · intro h
    cases e : lookK kvs q with
    | none => exact absurd h (lookK_none e)
    | some d => rfl
theorem hasK_false {kvs : List (Sq × Int)} {q : Sq} (h : hasK kvs q = false) : lookK kvs q = none := by
  unfold hasK at h
  cases e : lookK kvs q with
  | none => rfl
  | some d => rw [e] at h; cases h
theorem Bfs.start {ch : List Str} {s : Sq} (h : isLd ch s = true) : Bfs ch s [(s, 0)] 0 where
  nd := by simp
  le := Nat.zero_le _
  pos := by simp
  hd := rfl
  wk := by intro p hp; simp at hp; subst hp; exact ⟨0, rfl, rfl⟩
  ld := by intro p hp; simp at hp; subst hp; exact h
  srt := by
    intro i j p q _ h1 h2
    have e1 : p = (s, 0) := by
      cases i with
      | zero => simpa using h1.symm
      | succ i => simp at h1
    have e2 : q = (s, 0) := by
      cases j with
      | zero => simpa using h2.symm
      | succ i => simp at h2
    rw [e1, e2]; exact Int.le_refl _
  top := by intro p hp q hq; simp at hp hq; subst hp; subst hq; show (0 : Int) ≤ 0 + 1; decide
  don := by intro i p hi; omega
theorem Bfs.open {ch : List Str} {s : Sq} {kvs : List (Sq × Int)} {a : Nat} {c : Sq} {d : Int} {L : List Sq} (b : Bfs ch s kvs a) (h : kvs[a]? = some (c, d)) : BfsI ch s kvs a c d L 0 :=
  { b with cur := h, nb := by intro q hq; simp at hq }
theorem BfsI.old {ch : List Str} {s : Sq} {kvs : List (Sq × Int)} {a : Nat} {c : Sq} {d : Int} {L : List Sq} {i : Nat} {q : Sq} (b : BfsI ch s kvs a c d L i) (h : L[i]? = some q) (hh : isLd ch q = true → hasK kvs q = true) : BfsI ch s kvs a c d L (i + 1) :=
  ⟨b.toBfs, b.cur, fun r hr hl => by
      rw [List.take_add_one, h] at hr
      rcases List.mem_append.mp hr with hr | hr
      · exact b.nb r hr hl
      · have : r = q := by simpa using hr
        subst this
        obtain ⟨p, hp, e⟩ := List.mem_map.mp (hasK_iff.mp (hh hl))
        exact ⟨p, hp, e, b.top _ b.cur p hp⟩⟩
theorem get_snoc {α : Type} {xs : List α} {x y : α} {i : Nat} (h : (xs ++ [x])[i]? = some y) : xs[i]? = some y ∨ (i = xs.length ∧ y = x) := by
  by_cases hi : i < xs.length
  · rw [List.getElem?_append_left hi] at h
    exact .inl h
  · rw [List.getElem?_append_right (by omega)] at h
    have : i - xs.length = 0 := by
      cases e : i - xs.length with
      | zero => rfl
      | succ k => rw [e] at h; simp at h
    rw [this] at h
    simp at h
    exact .inr ⟨by omega, h.symm⟩
theorem BfsI.new {ch : List Str} {s : Sq} {kvs : List (Sq × Int)} {a : Nat} {c : Sq} {d : Int} {L : List Sq} {i : Nat} {q : Sq} (b : BfsI ch s kvs a c d L i) (h : L[i]? = some q) (hs : q ∈ sides c) (hl : isLd ch q = true) (hn : hasK kvs q = false) : BfsI ch s (kvs ++ [(q, d + 1)]) a c d L (i + 1) := by
  have hal : a < kvs.length := (List.getElem?_eq_some_iff.mp b.cur).1
  have hnk := lookK_none (hasK_false hn)
  have top : ∀ p ∈ kvs, p.2 ≤ d + 1 := fun p hp => b.top _ b.cur p hp
  refine { nd := ?_, le := ?_, pos := ?_, hd := ?_, wk := ?_, ld := ?_, srt := ?_, top := ?_, don := ?_, cur := ?_, nb := ?_ }
  · rw [List.map_append, List.nodup_append]
    refine ⟨b.nd, by simp, fun x hx y hy => ?_⟩
    have : y = q := by simpa using hy
    subst this
    exact fun z => hnk (z ▸ hx)
  · rw [List.length_append]; have := b.le; omega
  · rw [List.length_append]; have := b.pos; omega
  · rw [List.getElem?_append_left b.pos]; exact b.hd
  · intro p hp
    rcases List.mem_append.mp hp with hp | hp
    · exact b.wk p hp
    · have : p = (q, d + 1) := by simpa using hp
      subst this
      obtain ⟨n, e, w⟩ := b.wk _ (List.mem_of_getElem? b.cur)
      exact ⟨n + 1, by show d + 1 = _; have : d = (n : Int) := e; omega, c, w, hs, hl⟩
  · intro p hp
    rcases List.mem_append.mp hp with hp | hp
    · exact b.ld p hp
    · have : p = (q, d + 1) := by simpa using hp
      subst this; exact hl
  · intro i j p r hij h1 h2
    rcases get_snoc h1 with h1 | ⟨e1, f1⟩
    · rcases get_snoc h2 with h2 | ⟨e2, f2⟩
      · exact b.srt i j p r hij h1 h2
      · rw [f2]; exact top p (List.mem_of_getElem? h1)
    · rcases get_snoc h2 with h2 | ⟨e2, f2⟩
      · have := (List.getElem?_eq_some_iff.mp h2).1
        omega
      · rw [f1, f2]; exact Int.le_refl _
  · intro p hp r hr
    rw [List.getElem?_append_left hal, b.cur] at hp
    have := Option.some.inj hp
    subst this
    rcases List.mem_append.mp hr with hr | hr
    · exact top r hr
    · have : r = (q, d + 1) := by simpa using hr
      subst this; exact Int.le_refl _
  · intro i p hi hp r hr hl'
    rw [List.getElem?_append_left (by omega)] at hp
    obtain ⟨x, hx, e1, e2⟩ := b.don i p hi hp r hr hl'
    exact ⟨x, List.mem_append_left _ hx, e1, e2⟩
  · rw [List.getElem?_append_left hal]; exact b.cur
  · intro r hr hl'
    rw [List.take_add_one, h] at hr
    rcases List.mem_append.mp hr with hr | hr
    · obtain ⟨x, hx, e1, e2⟩ := b.nb r hr hl'
      exact ⟨x, List.mem_append_left _ hx, e1, e2⟩
    · have : r = q := by simpa using hr
      subst this
      exact ⟨(r, d + 1), List.mem_append_right _ (by simp), rfl, Int.le_refl _⟩
theorem BfsI.close {ch : List Str} {s : Sq} {kvs : List (Sq × Int)} {a : Nat} {c : Sq} {d : Int} {L : List Sq} (b : BfsI ch s kvs a c d L L.length) (hL : ∀ q ∈ sides c, isLd ch q = true → q ∈ L) : Bfs ch s kvs (a + 1) := by
  have hal : a < kvs.length := (List.getElem?_eq_some_iff.mp b.cur).1
  refine { b.toBfs with le := by omega, top := ?_, don := ?_ }
  · intro p hp q hq
    have h1 := b.top _ b.cur q hq
    have h2 := b.srt a (a + 1) _ p (by omega) b.cur hp
    have h3 : d ≤ p.2 := h2
    have h4 : q.2 ≤ d + 1 := h1
    omega
  · intro i p hi hp q hq hl
    by_cases e : i = a
    · subst e
      rw [b.cur] at hp
      have := Option.some.inj hp
      subst this
      exact b.nb q (by rw [List.take_length]; exact hL q hq hl) hl
    · exact b.don i p (by omega) hp q hq hl
/-- what a search has found in the end -/
structure Far (ch : List Str) (s : Sq) (kvs : List (Sq × Int)) : Prop where
  nd : (kvs.map (·.1)).Nodup
  pos : 0 < kvs.length
  wk : ∀ p ∈ kvs, ∃ n : Nat, p.2 = (n : Int) ∧ Wk ch n s p.1
  ld : ∀ p ∈ kvs, isLd ch p.1 = true
  all : ∀ (n : Nat) (q : Sq), Wk ch n s q → ∃ r ∈ kvs, r.1 = q ∧ r.2 ≤ (n : Int)
theorem Bfs.far {ch : List Str} {s : Sq} {kvs : List (Sq × Int)} {a : Nat} (b : Bfs ch s kvs a) (h : kvs.length ≤ a) : Far ch s kvs := by
  refine ⟨b.nd, b.pos, b.wk, b.ld, fun n => ?_⟩
  induction n with
  | zero =>
    intro q w
    cases w
    exact ⟨(s, 0), List.mem_of_getElem? b.hd, rfl, Int.le_refl _⟩
  | succ n ih =>
    rintro q ⟨p, w, hq, hl⟩
    obtain ⟨r, hr, e1, e2⟩ := ih p w
    obtain ⟨i, hi, ei⟩ := List.mem_iff_getElem.mp hr
    obtain ⟨x, hx, f1, f2⟩ := b.don i r (by omega) (by rw [List.getElem?_eq_getElem hi, ei]) q (by rw [e1]; exact hq) hl
    exact ⟨x, hx, f1, by omega⟩
/-- the least number of steps -/
def IsDist (ch : List Str) (s q : Sq) (o : Option Int) : Prop := match o with
  | none => ∀ n, ¬ Wk ch n s q
  | some d => ∃ n : Nat, d = (n : Int) ∧ Wk ch n s q ∧ ∀ m, Wk ch m s q → n ≤ m
theorem IsDist.inj {ch : List Str} {s q : Sq} {o o' : Option Int} (h : IsDist ch s q o) (h' : IsDist ch s q o') : o = o' := by
  cases o with
  | none => cases o' with
    | none => rfl
    | some d => obtain ⟨n, _, w, _⟩ := h'; exact absurd w (h n)
  | some d => cases o' with
    | none => obtain ⟨n, _, w, _⟩ := h; exact absurd w (h' n)
    | some d' =>
      obtain ⟨n, e, w, l⟩ := h
      obtain ⟨n', e', w', l'⟩ := h'
      have := l _ w'
      have := l' _ w
      have : n = n' := by omega
      rw [e, e', this]
theorem IsDist.symm {ch : List Str} {s q : Sq} {o : Option Int} (hs : isLd ch s = true) (hq : isLd ch q = true) (h : IsDist ch s q o) : IsDist ch q s o := by
  cases o with
  | none => exact fun n w => h n (w.symm hq)
  | some d =>
    obtain ⟨n, e, w, l⟩ := h
    exact ⟨n, e, w.symm hs, fun m w' => l m (w'.symm hq)⟩
theorem Far.dist {ch : List Str} {s : Sq} {kvs : List (Sq × Int)} (f : Far ch s kvs) (q : Sq) : IsDist ch s q (lookK kvs q) := by
  cases e : lookK kvs q with
  | none =>
    intro n w
    obtain ⟨r, hr, e1, _⟩ := f.all n q w
    exact lookK_none e (List.mem_map.mpr ⟨r, hr, e1⟩)
  | some d =>
    have hm := lookK_some e
    obtain ⟨n, e1, w⟩ := f.wk _ hm
    refine ⟨n, e1, w, fun m w' => ?_⟩
    obtain ⟨r, hr, e2, e3⟩ := f.all m q w'
    have h1 := lookK_mem f.nd (show (q, r.2) ∈ kvs by rw [← e2]; exact hr)
    rw [e] at h1
    have : d = r.2 := Option.some.inj h1
    have : d = (n : Int) := e1
    omega
/-! ### how many squares there are -/
def allSq (ch : List Str) : List Sq := (List.range ch.length).flatMap fun (r : Nat) => (List.range (wid ch)).map fun (c : Nat) => (((r : Int), (c : Int)) : Sq)
theorem mem_allSq {ch : List Str} {q : Sq} : q ∈ allSq ch ↔ isSq ch q = true := by
  rw [isSq_iff]
  unfold allSq
  simp only [List.mem_flatMap, List.mem_map, List.mem_range]
  constructor
  · rintro ⟨r, hr, c, hc, rfl⟩
    exact ⟨by simp, by simpa using hr, by simp, by simpa using hc⟩
  · rintro ⟨h1, h2, h3, h4⟩
    exact ⟨q.1.toNat, by omega, q.2.toNat, by omega, by apply Prod.ext <;> simp <;> omega⟩
theorem flatMap_len {α β : Type} (xs : List α) (f : α → List β) (n : Nat) (h : ∀ x ∈ xs, (f x).length = n) : (xs.flatMap f).length = xs.length * n := by
  induction xs with
  | nil => simp
  | cons x xs ih =>
    rw [List.flatMap_cons, List.length_append, h x List.mem_cons_self, ih fun y hy => h y (List.mem_cons_of_mem _ hy), List.length_cons, Nat.succ_mul]
    omega
theorem allSq_len (ch : List Str) : (allSq ch).length = ch.length * wid ch := by
  unfold allSq
  rw [flatMap_len _ _ (wid ch) (fun x _ => by simp), List.length_range]
theorem nodup_sub_len {α : Type} [DecidableEq α] {xs ys : List α} (nd : xs.Nodup) (h : ∀ x ∈ xs, x ∈ ys) : xs.length ≤ ys.length := by
  induction xs generalizing ys with
  | nil => exact Nat.zero_le _
  | cons x xs ih =>
    rw [List.nodup_cons] at nd
    have hx : x ∈ ys := h x List.mem_cons_self
    have := ih (ys := ys.erase x) nd.2 fun y hy => by
      have hne : y ≠ x := fun e => nd.1 (e ▸ hy)
      exact (List.mem_erase_of_ne hne).mpr (h y (List.mem_cons_of_mem _ hy))
    rw [List.length_erase_of_mem hx] at this
    have : 0 < ys.length := List.length_pos_of_mem hx
    rw [List.length_cons]; omega
theorem keys_len {ch : List Str} {s : Sq} {kvs : List (Sq × Int)} {a : Nat} (b : Bfs ch s kvs a) : kvs.length ≤ ch.length * wid ch := by
  have := nodup_sub_len (ys := allSq ch) b.nd fun x hx => by
    obtain ⟨p, hp, e⟩ := List.mem_map.mp hx
    rw [← e]
    exact mem_allSq.mpr (isLd_sq (b.ld p hp))
  rw [List.length_map, allSq_len] at this
  exact this
theorem area_le {ch : List Str} (c : Ch ch) : ch.length * wid ch ≤ 10000 := by
  have := Nat.mul_le_mul c.hl c.wl
  simpa using this
/-! ### small facts that the walk asks -/
theorem not_true_of {b : Bool} (h : true = !b) : b = false := by cases b <;> simp_all
theorem not_false_of {b : Bool} (h : false = !b) : b = true := by cases b <;> simp_all
theorem ixD_fst {kvs : List (Sq × Int)} {n : Nat} {c : Sq} {d : Int} (h : kvs[n]? = some (c, d)) : ixD (kvs.map (·.1)) (n : Int) = c := by
  obtain ⟨hl, e⟩ := List.getElem?_eq_some_iff.mp h
  rw [ixD_nat (by rw [List.length_map]; exact hl)]
  simp [e]
theorem getK_of {kvs : List (Sq × Int)} (nd : (kvs.map (·.1)).Nodup) {c : Sq} {d : Int} (h : (c, d) ∈ kvs) : hasK kvs c = true ∧ getK kvs c = d := by
  have := lookK_mem nd h
  unfold hasK getK
  rw [this]
  exact ⟨rfl, rfl⟩
theorem mem_ld {ch : List Str} {c q : Sq} (h : q ∈ ldBeside ch c) : q ∈ sides c ∧ isLd ch q = true := by
  unfold ldBeside at h
  exact ⟨(List.mem_filter.mp h).1, (List.mem_filter.mp h).2⟩
theorem mem_ld' {ch : List Str} {c q : Sq} (h1 : q ∈ sides c) (h2 : isLd ch q = true) : q ∈ ldBeside ch c := List.mem_filter.mpr ⟨h1, h2⟩
def colsTo (r j : Nat) : List Sq := (List.range j).map fun (c : Nat) => (((r : Int), (c : Int)) : Sq)
def rowsTo (ch : List Str) (i : Nat) : List Sq := (List.range i).flatMap fun (r : Nat) => colsTo r (wid ch)
theorem colsTo_succ (r j : Nat) : colsTo r (j + 1) = colsTo r j ++ [((r : Int), (j : Int))] := by
  unfold colsTo
  rw [List.range_succ, List.map_append]; rfl
theorem rowsTo_succ {ch : List Str} {i : Nat} : rowsTo ch i ++ colsTo i (((wid ch : Nat) : Int).toNat) = rowsTo ch (i + 1) := by
  unfold rowsTo
  rw [List.range_succ, List.flatMap_append]
  simp
theorem rowsTo_all (ch : List Str) : rowsTo ch (((ch.length : Nat) : Int).toNat) = allSq ch := by
  unfold rowsTo allSq colsTo
  simp
theorem all_small {ch : List Str} (c : Ch ch) {i j : Nat} (hi : i < ch.length) (hj : j < wid ch) : (rowsTo ch i ++ colsTo i j).length < 100000 := by
  have h1 : (rowsTo ch i).length = i * wid ch := by
    unfold rowsTo
    rw [flatMap_len _ _ (wid ch) (fun x _ => by unfold colsTo; simp), List.length_range]
  have h2 : (colsTo i j).length = j := by unfold colsTo; simp
  rw [List.length_append, h1, h2]
  have := Nat.mul_le_mul (show i ≤ 100 by have := c.hl; omega) c.wl
  have := c.wl
  omega
theorem allSq_small {ch : List Str} (c : Ch ch) : (allSq ch).length ≤ 100000 := by
  rw [allSq_len]
  have := area_le c
  omega
theorem due_some {o : Option Int} (h : false = o.isNone) : o.isSome = true := by cases o <;> simp_all
theorem num_none {a b : Option Int} (h : true = b.isNone) : a.isNone = decide (a = b) := by
  cases b with
  | some _ => cases h
  | none => cases a <;> simp
theorem num_some {a b : Option Int} (h : false = b.isNone) : (a.isSome && decide (a = b)) = decide (a = b) := by
  cases b with
  | none => cases h
  | some _ => cases a <;> simp
theorem and_l {a b : Bool} (h : true = (!a && b)) : a = false := by cases a <;> simp_all
theorem and_r {a b : Bool} (h : true = (!a && b)) : b = true := by cases a <;> simp_all
theorem and_no {a b : Bool} (h : false = (!a && b)) : b = true → a = true := by cases a <;> cases b <;> simp_all
theorem area_mul {ch : List Str} (c : Ch ch) : CMul ((List.length ch : Nat) : Int) (((ixD ch 0).length : Nat) : Int) := .inl ⟨by omega, by have := c.hl; omega⟩
theorem area_hi {ch : List Str} (c : Ch ch) : ((List.length ch : Nat) : Int) * (((ixD ch 0).length : Nat) : Int) ≤ 100000000 := by
  have := area_le c
  unfold wid at this
  have e : ((List.length ch : Nat) : Int) * (((ixD ch 0).length : Nat) : Int) = ((ch.length * (ixD ch 0).length : Nat) : Int) := by simp
  rw [e]; omega
theorem area_lo (ch : List Str) : -100000000 ≤ ((List.length ch : Nat) : Int) * (((ixD ch 0).length : Nat) : Int) := by
  have e : ((List.length ch : Nat) : Int) * (((ixD ch 0).length : Nat) : Int) = ((ch.length * (ixD ch 0).length : Nat) : Int) := by simp
  rw [e]; omega
theorem far_end {ch : List Str} {kvs : List (Sq × Int)} (h : kvs.length ≤ ch.length * wid ch) : kvs.length ≤ min (((List.length ch : Nat) : Int) * (((ixD ch 0).length : Nat) : Int)).toNat kvs.length := by
  have e : (((List.length ch : Nat) : Int) * (((ixD ch 0).length : Nat) : Int)).toNat = ch.length * wid ch := by
    have e : ((List.length ch : Nat) : Int) * (((ixD ch 0).length : Nat) : Int) = ((ch.length * (ixD ch 0).length : Nat) : Int) := by simp
    rw [e, Int.toNat_natCast]; rfl
  rw [e]; omega
/-! ### a square made land -/
structure SetOk (ch : List Str) (q : Sq) (ch' : List Str) : Prop where
  good : Ch ch'
  len : ch'.length = ch.length
  wd : wid ch' = wid ch
  here : isLd ch' q = true
  keep : ∀ p, isLd ch p = true → isLd ch' p = true
theorem sIx_nat' {n d : Nat} {i : Int} (h0 : 0 ≤ i) (h : i ≤ n) : HT.sIx n d (some i) = i.toNat := by
  have e : i = ((i.toNat : Nat) : Int) := by omega
  rw [e, HT.sIx_nat]
  omega
theorem cutL_lo {α : Type} {xs : List α} {i : Int} (h0 : 0 ≤ i) (h : i ≤ xs.length) : cutL xs none (some i) = xs.take i.toNat := by
  unfold cutL
  rw [HT.sIx_none, sIx_nat' h0 h, Nat.sub_zero, List.drop_zero]
theorem cutL_hi {α : Type} {xs : List α} {i : Int} (h0 : 0 ≤ i) (h : i ≤ xs.length) : cutL xs (some i) none = xs.drop i.toNat := by
  unfold cutL
  rw [HT.sIx_none, sIx_nat' h0 h]
  exact List.take_of_length_le (by rw [List.length_drop]; omega)
theorem cutS_lo {z : Str} {i : Int} (h0 : 0 ≤ i) (h : i ≤ z.length) : cutS z none (some i) = ⟨(z.cps.toList.take i.toNat).toArray⟩ := by
  unfold cutS
  rw [HT.sIx_none, sIx_nat' h0 h, Nat.sub_zero, List.drop_zero]
theorem str_len (l : List Nat) : (⟨l.toArray⟩ : Str).length = l.length := by
  show l.toArray.size = l.length
  simp
theorem cutS_hi {z : Str} {i : Int} (h0 : 0 ≤ i) (h : i ≤ z.length) : cutS z (some i) none = ⟨(z.cps.toList.drop i.toNat).toArray⟩ := by
  unfold cutS
  rw [HT.sIx_none, sIx_nat' h0 h]
  rw [List.take_of_length_le (by rw [List.length_drop, Array.length_toList]; exact Nat.le_refl _)]
theorem set_eq {α : Type} {xs : List α} {n : Nat} {a : α} (h : n < xs.length) : xs.take n ++ [a] ++ xs.drop (n + 1) = xs.set n a := by
  rw [List.set_eq_take_append_cons_drop, if_pos h, List.append_assoc]; rfl
theorem str_app (a b : List Nat) : (⟨a.toArray⟩ : Str) ++ (⟨b.toArray⟩ : Str) = ⟨(a ++ b).toArray⟩ := by
  show Str.mk (a.toArray ++ b.toArray) = _
  simp
def setS (z : Str) (i : Nat) : Str := ⟨(z.cps.toList.set i 120).toArray⟩
theorem x_eq : ("x" : Str) = ⟨([120] : List Nat).toArray⟩ := by decide +kernel
theorem setS_eq {z : Str} {i : Int} (h0 : 0 ≤ i) (h : i < z.length) : cutS z none (some i) ++ ("x" : Str) ++ cutS z (some (i + 1)) none = setS z i.toNat := by
  rw [cutS_lo h0 (by omega), cutS_hi (by omega) (by omega), x_eq, str_app, str_app]
  unfold setS
  have e : (i + 1).toNat = i.toNat + 1 := by omega
  rw [e, set_eq (by rw [Array.length_toList]; show i.toNat < z.length; omega)]
theorem setS_len (z : Str) (i : Nat) : (setS z i).length = z.length := by
  unfold setS
  rw [str_len, List.length_set, Array.length_toList]; rfl
theorem setS_eq' (ch : List Str) (q : Sq) (c : Ch ch) (h : isSq ch q = true) : cutL ch none (some q.1) ++ [cutS (ixD ch q.1) none (some q.2) ++ ("x" : Str) ++ cutS (ixD ch q.1) (some (q.2 + 1)) none] ++ cutL ch (some (q.1 + 1)) none = ch.set q.1.toNat (setS (ixD ch q.1) q.2.toNat) := by
  have hh := isSq_iff.mp h
  have hl := c.len1 h
  rw [cutL_lo hh.1 (by omega), cutL_hi (by omega) (by omega), setS_eq hh.2.2.1 (by omega)]
  have e : (q.1 + 1).toNat = q.1.toNat + 1 := by omega
  rw [e, set_eq (by omega)]
theorem ixD_set {α : Type} [Inhabited α] {xs : List α} {n : Nat} {a : α} {i : Int} (h0 : 0 ≤ i) (h : i < xs.length) : ixD (xs.set n a) i = if n = i.toNat then a else ixD xs i := by
  have e : i = ((i.toNat : Nat) : Int) := by omega
  have hl : i.toNat < xs.length := by omega
  have h1 : ixD (xs.set n a) ((i.toNat : Nat) : Int) = (xs.set n a)[i.toNat]'(by rw [List.length_set]; exact hl) := ixD_nat (by rw [List.length_set]; exact hl)
  have h2 : ixD xs ((i.toNat : Nat) : Int) = xs[i.toNat] := ixD_nat hl
  rw [← e] at h1 h2
  rw [h1, List.getElem_set, h2]
theorem set_ok {ch : List Str} {q : Sq} {s : Str} (c : Ch ch) (h : isSq ch q = true) (hs : s = "x") : SetOk ch q (cutL ch none (some q.1) ++ [cutS (ixD ch q.1) none (some q.2) ++ s ++ cutS (ixD ch q.1) (some (q.2 + 1)) none] ++ cutL ch (some (q.1 + 1)) none) := by
  subst hs
  rw [setS_eq' ch q c h]
  have hh := isSq_iff.mp h
  have hlen := c.len1 h
  have hw : wid (ch.set q.1.toNat (setS (ixD ch q.1) q.2.toNat)) = wid ch := by
    unfold wid
    rw [ixD_set (by omega) (by have := c.ne; omega)]
    split
    · rw [setS_len, hlen]; rfl
    · rfl
  have hsq : ∀ p, isSq (ch.set q.1.toNat (setS (ixD ch q.1) q.2.toNat)) p = isSq ch p := fun p => by
    unfold isSq
    rw [hw, List.length_set]
  have hsg : ∀ p, isSq ch p = true → (isLd ch p = true ∨ p = q) → isLd (ch.set q.1.toNat (setS (ixD ch q.1) q.2.toNat)) p = true := fun p hp ho => by
    have hp' := isSq_iff.mp hp
    unfold isLd
    rw [hsq, hp, ixD_set hp'.1 hp'.2.1, Bool.true_and]
    refine decide_eq_true ?_
    by_cases e1 : q.1.toNat = p.1.toNat
    · rw [if_pos e1]
      have e1' : q.1 = p.1 := by omega
      unfold sgn setS
      show (⟨#[ixD (List.set (ixD ch q.1).cps.toList q.2.toNat 120).toArray.toList p.2]⟩ : Str) = _
      rw [List.toList_toArray, ixD_set hp'.2.2.1 (by rw [Array.length_toList]; show p.2 < ((ixD ch q.1).length : Int); rw [hlen]; omega)]
      by_cases e2 : q.2.toNat = p.2.toNat
      · rw [if_pos e2]; decide +kernel
      · rw [if_neg e2]
        rcases ho with ho | ho
        · unfold isLd at ho
          have := of_decide_eq_true (Bool.and_eq_true_iff.mp ho).2
          rw [← this, e1']; rfl
        · subst ho; exact absurd rfl e2
    · rw [if_neg e1]
      rcases ho with ho | ho
      · unfold isLd at ho
        exact of_decide_eq_true (Bool.and_eq_true_iff.mp ho).2
      · subst ho; exact absurd rfl e1
  refine ⟨⟨by rw [List.length_set]; exact c.ne, by rw [List.length_set]; exact c.hl, fun s hs => ?_, by rw [hw]; exact c.w0, by rw [hw]; exact c.wl⟩, by rw [List.length_set], hw, hsg q h (.inr rfl), fun p hp => hsg p (isLd_sq hp) (.inl hp)⟩
  rw [hw]
  rcases List.mem_or_eq_of_mem_set hs with hs | hs
  · exact c.w s hs
  · rw [hs, setS_len, hlen]
section
variable {ch : List Str} {q : Sq} {s : Str} (c : Ch ch) (h : isSq ch q = true)
include c h
theorem set_l1 : (cutS (ixD ch q.1) none (some q.2)).length ≤ 100 := by
  have := cutS_length (ixD ch q.1) none (some q.2)
  have := c.len1 h
  have := c.wl
  omega
theorem set_ob1 (hs : s = "x") : (cutS (ixD ch q.1) none (some q.2)).length + s.length ≤ 100000 := by
  subst hs
  have := set_l1 c h
  have e : ("x" : Str).length = 1 := by decide +kernel
  omega
theorem set_ob2 (hs : s = "x") : (cutS (ixD ch q.1) none (some q.2) ++ s).length + (cutS (ixD ch q.1) (some (q.2 + 1)) none).length ≤ 100000 := by
  subst hs
  have h1 := set_l1 c h
  have h2 := cutS_length (ixD ch q.1) (some (q.2 + 1)) none
  have h3 := c.len1 h
  have h4 := c.wl
  have e : (cutS (ixD ch q.1) none (some q.2) ++ ("x" : Str)).length = (cutS (ixD ch q.1) none (some q.2)).length + 1 := by
    show ((cutS (ixD ch q.1) none (some q.2)).cps ++ ("x" : Str).cps).size = _
    rw [Array.size_append]
    have : ("x" : Str).cps.size = 1 := by decide +kernel
    rw [this]; rfl
  omega
theorem set_ob3 {z : Str} : (cutL ch none (some q.1)).length + [z].length ≤ 100000 := by
  have hh := isSq_iff.mp h
  rw [cutL_lo hh.1 (by omega), List.length_take, List.length_singleton]
  have := c.hl
  omega
theorem set_ob4 {z : Str} : (cutL ch none (some q.1) ++ [z]).length + (cutL ch (some (q.1 + 1)) none).length ≤ 100000 := by
  have hh := isSq_iff.mp h
  rw [cutL_lo hh.1 (by omega), cutL_hi (by omega) (by omega), List.length_append, List.length_take, List.length_singleton, List.length_drop]
  have := c.hl
  omega
end
theorem deal_63 {n i : Nat} (h : (i : Int) < if (63 : Int) < ((n : Nat) : Int) then 63 else ((n : Nat) : Int)) : i < 63 := by
  split at h <;> omega
theorem deal_ok {n i : Nat} (h : (i : Int) < if (63 : Int) < ((n : Nat) : Int) then 63 else ((n : Nat) : Int)) : okI n (i : Int) := by
  split at h <;> exact ⟨by omega, by omega⟩
theorem mod2_ok (x : Int) : okI 2 (x / 2 % 2) := ⟨by omega, by omega⟩
/-- a chart of this size -/
structure ChartOf (n m : Int) (ch : List Str) : Prop where
  good : Ch ch
  len : (ch.length : Int) = n
  wd : (wid ch : Int) = m
  row : ∀ s ∈ ch, RowOk (wid ch) s
theorem chartOf {n m : Int} {ch : List Str} (h1 : 1 ≤ n) (h2 : n ≤ 40) (h3 : 1 ≤ m) (h4 : m ≤ 40) (hl : ch.length = n.toNat) (hr : ∀ s ∈ ch, RowOk m.toNat s) : ChartOf n m ch := by
  have h0 : 0 < ch.length := by omega
  have hw : wid ch = m.toNat := by
    unfold wid
    exact (hr _ (ixD_mem (by omega) (by omega))).1
  refine ⟨⟨h0, by omega, fun s hs => by rw [hw]; exact (hr s hs).1, by omega, by omega⟩, by omega, by omega, fun s hs => by rw [hw]; exact hr s hs⟩
theorem SetOk.sq {ch c : List Str} {p q : Sq} (h : SetOk ch p c) (hq : isSq ch q = true) : isSq c q = true := by
  unfold isSq at hq ⊢
  rw [h.len, h.wd]; exact hq
theorem far_last {ch : List Str} {s : Sq} {kvs : List (Sq × Int)} (f : Far ch s kvs) : okI (kvs.map (·.1)).length (-1) := by
  have := f.pos
  exact ⟨by rw [List.length_map]; omega, by rw [List.length_map]; omega⟩
theorem dry_small {ch : List Str} (c : Ch ch) : ((allSq ch).filter (isLd ch)).length ≤ 100000 := Nat.le_trans (List.length_filter_le _ _) (allSq_small c)
theorem cut2_len {α : Type} (xs : List α) : (cutL xs none (some 2)).length ≤ 2 := by
  unfold cutL
  rw [List.length_take, HT.sIx_none]
  have : HT.sIx xs.length xs.length (some 2) ≤ 2 := by
    have e : (2 : Int) = ((2 : Nat) : Int) := rfl
    rw [e, HT.sIx_nat]
    omega
  omega
theorem cut_mem {α : Type} {xs : List α} {a b : Option Int} {x : α} (h : x ∈ cutL xs a b) : x ∈ xs := by
  unfold cutL at h
  exact List.mem_of_mem_drop (List.mem_of_mem_take h)
theorem asked_small {a b c : Sq} {xs : List Sq} : [a, b, c].length + (cutL xs none (some 2)).length ≤ 100000 := by
  have := cut2_len xs
  simp only [List.length_cons, List.length_nil]
  omega
theorem dry_pos {ch : List Str} {a : Sq} (h : isLd ch a = true) : 0 < ((allSq ch).filter (isLd ch)).length :=
  List.length_pos_of_mem (List.mem_filter.mpr ⟨mem_allSq.mpr (isLd_sq h), h⟩)
theorem ixD_last {α : Type} [Inhabited α] {xs : List α} (h : 0 < xs.length) : ixD xs (-1) ∈ xs := by
  unfold ixD atI ixN
  rw [if_neg (by decide), if_pos (by omega)]
  have hl : ((-1 : Int) + (xs.length : Int)).toNat < xs.length := by omega
  show (xs[((-1 : Int) + (xs.length : Int)).toNat]?).getD default ∈ xs
  rw [List.getElem?_eq_getElem hl]
  exact List.getElem_mem hl
theorem asked0 {ch : List Str} {a b s : Sq} {kvs : List (Sq × Int)} {c : Sq → Bool} (ha : isLd ch a = true) (hb : isLd ch b = true) (f : Far ch s kvs) :
    ([a, b, ixD (kvs.map (·.1)) (-1)] ++ cutL (((allSq ch).filter (isLd ch)).filter c) none (some 2)).length ≤ 100 + 0 ∧ ∀ q ∈ [a, b, ixD (kvs.map (·.1)) (-1)] ++ cutL (((allSq ch).filter (isLd ch)).filter c) none (some 2), isLd ch q = true := by
  constructor
  · rw [List.length_append]
    have := cut2_len (((allSq ch).filter (isLd ch)).filter c)
    simp only [List.length_cons, List.length_nil]
    omega
  · intro q hq
    rcases List.mem_append.mp hq with hq | hq
    · simp only [List.mem_cons, List.not_mem_nil, or_false] at hq
      rcases hq with rfl | rfl | rfl
      · exact ha
      · exact hb
      · obtain ⟨p, hp, e⟩ := List.mem_map.mp (ixD_last (xs := kvs.map (·.1)) (by rw [List.length_map]; exact f.pos))
        rw [← e]; exact f.ld p hp
    · exact (List.mem_filter.mp (List.mem_filter.mp (cut_mem hq)).1).2
theorem law_no {ch : List Str} {a s : Sq} {kvs : List (Sq × Int)} (f : Far ch a kvs) (hs : isLd ch s = true) (ha : isLd ch a = true)
    (h : (true = true ∧ ∃ t u : Option Int, IsDist ch s a t ∧ u = lookK kvs s ∧ (!true) = decide (t = u)) ∨ ((∃ t u : Option Int, IsDist ch s a t ∧ u = lookK kvs s ∧ (!false) = decide (t = u)) ∧ ∃ t u : Option Int, IsDist ch a s t ∧ u = lookK kvs s ∧ (!true) = decide (t = u))) : False := by
  have hd := f.dist s
  rcases h with ⟨_, t, u, h1, h2, h3⟩ | ⟨_, t, u, h1, h2, h3⟩
  · have : t = u := by rw [h2]; exact h1.inj (hd.symm ha hs)
    rw [decide_eq_true this] at h3; cases h3
  · have : t = u := by rw [h2]; exact h1.inj hd
    rw [decide_eq_true this] at h3; cases h3
end W

namespace W
open PySem PySem.Spec L2 Z
def top (i : Nat) : Stmt := PySem.Challenge.pw_landandwater_k25_distances.main.body.getD i (.Pass ⟨0, 0, 0, 0⟩)
structure Glb (mg : Str → Option Value) : Prop where
  len : mg "len" = none
  range : mg "range" = none
  abs : mg "abs" = none
  int : mg "int" = none
  bool : mg "bool" = none
  sum : mg "sum" = none
  min : mg "min" = none
  tuple : mg "tuple" = none
  list : mg "list" = none
  isinstance : mg "isinstance" = none
  c_LAND : ∃ t, mg "LAND" = some (.str "x" t)
abbrev s_is_square : Stmt := top 2
abbrev N_is_square : List Str := ["chart", "square", "row", "column"]
abbrev P_is_square : List Str := ["chart", "square"]
theorem sc_is_square : FnScope N_is_square P_is_square (defScope s_is_square) := ⟨rfl, rfl, rfl, by decide +kernel, rfl, by decide +kernel, by decide +kernel⟩
abbrev s_is_land : Stmt := top 3
abbrev N_is_land : List Str := ["chart", "square"]
abbrev P_is_land : List Str := ["chart", "square"]
theorem sc_is_land : FnScope N_is_land P_is_land (defScope s_is_land) := ⟨rfl, rfl, rfl, by decide +kernel, rfl, by decide +kernel, by decide +kernel⟩
abbrev s_side_neighbours : Stmt := top 4
abbrev N_side_neighbours : List Str := ["square", "row", "column"]
abbrev P_side_neighbours : List Str := ["square"]
theorem sc_side_neighbours : FnScope N_side_neighbours P_side_neighbours (defScope s_side_neighbours) := ⟨rfl, rfl, rfl, by decide +kernel, rfl, by decide +kernel, by decide +kernel⟩
abbrev s_land_beside : Stmt := top 6
abbrev N_land_beside : List Str := ["chart", "square", "other"]
abbrev P_land_beside : List Str := ["chart", "square"]
theorem sc_land_beside : FnScope N_land_beside P_land_beside (defScope s_land_beside) := ⟨rfl, rfl, rfl, by decide +kernel, rfl, by decide +kernel, by decide +kernel⟩
abbrev s_steps_from : Stmt := top 7
abbrev N_steps_from : List Str := ["chart", "start", "steps", "queue", "at", "square", "other"]
abbrev P_steps_from : List Str := ["chart", "start"]
theorem sc_steps_from : FnScope N_steps_from P_steps_from (defScope s_steps_from) := ⟨rfl, rfl, rfl, by decide +kernel, rfl, by decide +kernel, by decide +kernel⟩
abbrev s_distance : Stmt := top 8
abbrev N_distance : List Str := ["chart", "a", "b"]
abbrev P_distance : List Str := ["chart", "a", "b"]
theorem sc_distance : FnScope N_distance P_distance (defScope s_distance) := ⟨rfl, rfl, rfl, by decide +kernel, rfl, by decide +kernel, by decide +kernel⟩
abbrev s__law_in : Stmt := top 17
abbrev N__law_in : List Str := ["chart", "spot"]
abbrev P__law_in : List Str := ["chart", "spot"]
theorem sc__law_in : FnScope N__law_in P__law_in (defScope s__law_in) := ⟨rfl, rfl, rfl, by decide +kernel, rfl, by decide +kernel, by decide +kernel⟩
abbrev s__law_at : Stmt := top 18
abbrev N__law_at : List Str := ["chart", "spot"]
abbrev P__law_at : List Str := ["chart", "spot"]
theorem sc__law_at : FnScope N__law_at P__law_at (defScope s__law_at) := ⟨rfl, rfl, rfl, by decide +kernel, rfl, by decide +kernel, by decide +kernel⟩
abbrev s__law_all : Stmt := top 19
abbrev N__law_all : List Str := ["chart", "found", "r", "c"]
abbrev P__law_all : List Str := ["chart"]
theorem sc__law_all : FnScope N__law_all P__law_all (defScope s__law_all) := ⟨rfl, rfl, rfl, by decide +kernel, rfl, by decide +kernel, by decide +kernel⟩
abbrev s__law_dry : Stmt := top 20
abbrev N__law_dry : List Str := ["chart", "spot"]
abbrev P__law_dry : List Str := ["chart"]
theorem sc__law_dry : FnScope N__law_dry P__law_dry (defScope s__law_dry) := ⟨rfl, rfl, rfl, by decide +kernel, rfl, by decide +kernel, by decide +kernel⟩
abbrev s__law_sides : Stmt := top 21
abbrev N__law_sides : List Str := ["spot", "r", "c"]
abbrev P__law_sides : List Str := ["spot"]
theorem sc__law_sides : FnScope N__law_sides P__law_sides (defScope s__law_sides) := ⟨rfl, rfl, rfl, by decide +kernel, rfl, by decide +kernel, by decide +kernel⟩
abbrev s__law_whole : Stmt := top 23
abbrev N__law_whole : List Str := ["told"]
abbrev P__law_whole : List Str := ["told"]
theorem sc__law_whole : FnScope N__law_whole P__law_whole (defScope s__law_whole) := ⟨rfl, rfl, rfl, by decide +kernel, rfl, by decide +kernel, by decide +kernel⟩
abbrev s__law_number : Stmt := top 24
abbrev N__law_number : List Str := ["told", "due"]
abbrev P__law_number : List Str := ["told", "due"]
theorem sc__law_number : FnScope N__law_number P__law_number (defScope s__law_number) := ⟨rfl, rfl, rfl, by decide +kernel, rfl, by decide +kernel, by decide +kernel⟩
abbrev s__law_far : Stmt := top 22
abbrev N__law_far : List Str := ["chart", "a", "far", "met", "at", "last", "spot"]
abbrev P__law_far : List Str := ["chart", "a"]
theorem sc__law_far : FnScope N__law_far P__law_far (defScope s__law_far) := ⟨rfl, rfl, rfl, by decide +kernel, rfl, by decide +kernel, by decide +kernel⟩
abbrev s__law_set : Stmt := top 16
abbrev N__law_set : List Str := ["chart", "spot", "sign", "r", "c"]
abbrev P__law_set : List Str := ["chart", "spot", "sign"]
theorem sc__law_set : FnScope N__law_set P__law_set (defScope s__law_set) := ⟨rfl, rfl, rfl, by decide +kernel, rfl, by decide +kernel, by decide +kernel⟩
abbrev s__law_deal : Stmt := top 10
abbrev N__law_deal : List Str := ["script", "row", "k", "cell", "turn", "total"]
abbrev P__law_deal : List Str := ["script"]
theorem sc__law_deal : FnScope N__law_deal P__law_deal (defScope s__law_deal) := ⟨rfl, rfl, rfl, by decide +kernel, rfl, by decide +kernel, by decide +kernel⟩
abbrev s__law_take : Stmt := top 11
abbrev N__law_take : List Str := ["deal", "many", "at"]
abbrev P__law_take : List Str := ["deal", "many"]
theorem sc__law_take : FnScope N__law_take P__law_take (defScope s__law_take) := ⟨rfl, rfl, rfl, by decide +kernel, rfl, by decide +kernel, by decide +kernel⟩
abbrev s__law_pick : Stmt := top 12
abbrev N__law_pick : List Str := ["deal", "things"]
abbrev P__law_pick : List Str := ["deal", "things"]
theorem sc__law_pick : FnScope N__law_pick P__law_pick (defScope s__law_pick) := ⟨rfl, rfl, rfl, by decide +kernel, rfl, by decide +kernel, by decide +kernel⟩
abbrev s__law_place : Stmt := top 14
abbrev N__law_place : List Str := ["deal", "chart"]
abbrev P__law_place : List Str := ["deal", "chart"]
theorem sc__law_place : FnScope N__law_place P__law_place (defScope s__law_place) := ⟨rfl, rfl, rfl, by decide +kernel, rfl, by decide +kernel, by decide +kernel⟩
abbrev s__law_grid : Stmt := top 13
abbrev N__law_grid : List Str := ["deal", "rows", "columns", "style", "chance", "grid", "r", "row", "c", "land", "k"]
abbrev P__law_grid : List Str := ["deal", "rows", "columns"]
theorem sc__law_grid : FnScope N__law_grid P__law_grid (defScope s__law_grid) := ⟨rfl, rfl, rfl, by decide +kernel, rfl, by decide +kernel, by decide +kernel⟩
abbrev s__law_scene : Stmt := top 15
abbrev N__law_scene : List Str := ["deal", "most", "rows", "columns", "chart", "a", "b", "other"]
abbrev P__law_scene : List Str := ["deal", "most"]
theorem sc__law_scene : FnScope N__law_scene P__law_scene (defScope s__law_scene) := ⟨rfl, rfl, rfl, by decide +kernel, rfl, by decide +kernel, by decide +kernel⟩
abbrev s_law : Stmt := top 25
abbrev N_law : List Str := ["script", "deal", "most", "chart", "a", "b", "far", "dry", "asked", "turn", "spot", "due"]
abbrev P_law : List Str := ["script"]
theorem sc_law : FnScope N_law P_law (defScope s_law) := ⟨rfl, rfl, rfl, by decide +kernel, rfl, by decide +kernel, by decide +kernel⟩
section
variable {P : Program} {w : World} {K : PySem.W.Frag} {mg : Str → Option Value} {base : Heap}
def sp_is_square (K : PySem.W.Frag) : Sp := fun vs H Q _ => ∃ (a_chart : (List Str)) (a_square : Sq) (v_chart v_square : V), vs = [v_chart, v_square] ∧ Rp H a_chart v_chart ∧ Rp H a_square v_square ∧ (Ch a_chart) ∧ ∀ v H', ef0.R 0 H H' → isD (isSq a_chart a_square) H H' v → Q v H'
theorem ev_is_square {K : PySem.W.Frag} {e : Ef} {σ : L2.St} {H : Hp} {E : XK} {t0 t1 : TE} {j0 j1 : Nat} {a_chart : (List Str)} {a_square : Sq} (h0 : EvR e j0 t0 σ H (isD a_chart)) (h1 : EvR e j1 t1 σ H (isD a_square)) (hp : Ch a_chart) : EvR e (j0 + j1 + 0) (tCall (sp_is_square K) [] E (tCons t0 (tCons t1 tNil))) σ H (isD (isSq a_chart a_square)) := er_call (k := 0) (ea2 h0 stay_D h1 back_D) back_D fun l H1 H2 vs g g2 ⟨w0, w1, ev, r0, r1⟩ Q q E => ⟨a_chart, a_square, w0, w1, ev, r0, r1, hp, fun v H3 s r => q v H3 (e.ext s) r⟩
theorem ok_is_square (F : At K mg "is_square" s_is_square P_is_square) (G : Glb mg)  : Has P w K mg base "is_square" 1 P_is_square (sp_is_square K) := by
  refine Has.of F sc_is_square (fun vs H Q E h => ?_) (fun f cdv A outer s H0 vs Q E hr h => ?_)
  · obtain ⟨a_chart, a_square, v_chart, v_square, rfl, _⟩ := h
    rfl
  · obtain ⟨a_chart, a_square, v_chart, v_square, rfl, h_chart, h_square, hpre, kk⟩ := h
    have sc := sc_is_square
    refine ⟨_, (pss_cons (ps_asg (pv 1) (pg_tup rfl (pgs_cons (pg_name (i := 2) sc.nd rfl (Or.inl rfl)) (pgs_cons (pg_name (i := 3) sc.nd rfl (Or.inl rfl)) pgs_nil))))
          (pss_one (ps_ret (pe_and (pe_chain op_le op_lt pe_int (pv 2) (pe_callB call_len_seq (by rfl) G.len PySem.boot_len (pa_cons (pv 0) pa_nil))) (pe_one (pe_chain op_le op_lt pe_int (pv 3) (pe_callB call_len_str (by rfl) G.len PySem.boot_len (pa_cons (pe_ix ix_tup (pv 0) pe_int (fun _ _ => rfl)) pa_nil)))))))), ?_⟩
    have g0 : ef0.R 0 H0 H0 := ef0.refl H0
    have nS : ∀ {p : Addr}, H0 p = none → ¬ ef0.S p := fun _ z => z
    have hS : ∀ a, ef0.S a → ∃ o, H0 a = some o := fun _ z => z.elim
    refine q_un2 (e := ef0) (er_var rfl h_square) fun v_row v_column Hg1 g1 h_row h_column => ?_
    have h_chart := PyI.tm (ef0.tup g1) h_chart
    have h_square := PyI.tm (ef0.tup g1) h_square
    have g0 := ef0.trans g0 g1
    refine st_ret (e := ef0) (er_andV (er_chain (C := fun i j => decide (i ≤ j)) (C' := fun i j => decide (i < j)) er_int (er_var rfl h_row) fun _ => (er_lenT (er_var rfl h_chart))) fun hc => (er_chain (C := fun i j => decide (i ≤ j)) (C' := fun i j => decide (i < j)) er_int (er_var rfl h_column) fun _ => (er_lenS (er_ixT (er_var rfl h_chart) er_int (hpre.ok0)) (hpre.wl0)))) fun v Hg2 g2 r => ?_
    exact kk _ _ (ef0.trans g0 g2) (retD r (by first | rfl | assumption))
def sp_is_land (K : PySem.W.Frag) : Sp := fun vs H Q _ => ∃ (a_chart : (List Str)) (a_square : Sq) (v_chart v_square : V), vs = [v_chart, v_square] ∧ Rp H a_chart v_chart ∧ Rp H a_square v_square ∧ (Ch a_chart) ∧ ∀ v H', ef0.R 0 H H' → isD (isLd a_chart a_square) H H' v → Q v H'
theorem ev_is_land {K : PySem.W.Frag} {e : Ef} {σ : L2.St} {H : Hp} {E : XK} {t0 t1 : TE} {j0 j1 : Nat} {a_chart : (List Str)} {a_square : Sq} (h0 : EvR e j0 t0 σ H (isD a_chart)) (h1 : EvR e j1 t1 σ H (isD a_square)) (hp : Ch a_chart) : EvR e (j0 + j1 + 0) (tCall (sp_is_land K) [] E (tCons t0 (tCons t1 tNil))) σ H (isD (isLd a_chart a_square)) := er_call (k := 0) (ea2 h0 stay_D h1 back_D) back_D fun l H1 H2 vs g g2 ⟨w0, w1, ev, r0, r1⟩ Q q E => ⟨a_chart, a_square, w0, w1, ev, r0, r1, hp, fun v H3 s r => q v H3 (e.ext s) r⟩
theorem ok_is_land (F : At K mg "is_land" s_is_land P_is_land) (G : Glb mg) (H_is_square : Has P w K mg base "is_square" 1 P_is_square (sp_is_square K)) : Has P w K mg base "is_land" 2 P_is_land (sp_is_land K) := by
  refine Has.of F sc_is_land (fun vs H Q E h => ?_) (fun f cdv A outer s H0 vs Q E hr h => ?_)
  · obtain ⟨a_chart, a_square, v_chart, v_square, rfl, _⟩ := h
    rfl
  · obtain ⟨a_chart, a_square, v_chart, v_square, rfl, h_chart, h_square, hpre, kk⟩ := h
    have sc := sc_is_land
    refine ⟨_, (pss_one (ps_ret (pe_and (pe_user H_is_square (hr.mono (by decide)) rfl (pa_cons (pv 0) (pa_cons (pv 1) pa_nil))) (pe_one (pe_cmpR op_eq (pe_ix ix_str (pe_ix ix_tup (pv 0) (pe_ix ix_tup (pv 1) pe_int (fun _ _ => rfl)) (fun _ _ => rfl)) (pe_ix ix_tup (pv 1) pe_int (fun _ _ => rfl)) (fun _ _ => rfl)) (pe_glob (v := .str "x") rfl G.c_LAND.choose_spec ⟨_, rfl⟩) (nomark _)))))), ?_⟩
    have g0 : ef0.R 0 H0 H0 := ef0.refl H0
    have nS : ∀ {p : Addr}, H0 p = none → ¬ ef0.S p := fun _ z => z
    have hS : ∀ a, ef0.S a → ∃ o, H0 a = some o := fun _ z => z.elim
    refine st_ret (e := ef0) (er_andV (ev_is_square (er_var rfl h_chart) (er_var rfl h_square) (hpre)) fun hc => (er_eq (er_ixS (er_ixT (er_var rfl h_chart) (er_fst (er_var rfl h_square)) (hpre.ok1 hc)) (er_snd (er_var rfl h_square)) (hpre.wl1 hc) (hpre.ok2 hc)) er_str)) fun v Hg1 g1 r => ?_
    exact kk _ _ (ef0.trans g0 g1) (retD r (by first | rfl | assumption))
def sp_side_neighbours (K : PySem.W.Frag) : Sp := fun vs H Q _ => ∃ (a_square : Sq) (v_square : V), vs = [v_square] ∧ Rp H a_square v_square ∧ (True) ∧ ∀ v H', ef0.R 0 H H' → isL (sides a_square) H H' v → Q v H'
theorem ev_side_neighbours {K : PySem.W.Frag} {e : Ef} {σ : L2.St} {H : Hp} {E : XK} {t0 : TE} {j0 : Nat} {a_square : Sq} (h0 : EvR e j0 t0 σ H (isD a_square)) : EvR e (j0 + 0) (tCall (sp_side_neighbours K) [] E (tCons t0 tNil)) σ H (isL (sides a_square)) := er_call (k := 0) (ea1 h0) back_L fun l H1 H2 vs g g2 ⟨w0, ev, r0⟩ Q q E => ⟨a_square, w0, ev, r0, True.intro, fun v H3 s r => q v H3 (e.ext s) r⟩
theorem ok_side_neighbours (F : At K mg "side_neighbours" s_side_neighbours P_side_neighbours) (G : Glb mg)  : Has P w K mg base "side_neighbours" 1 P_side_neighbours (sp_side_neighbours K) := by
  refine Has.of F sc_side_neighbours (fun vs H Q E h => ?_) (fun f cdv A outer s H0 vs Q E hr h => ?_)
  · obtain ⟨a_square, v_square, rfl, _⟩ := h
    rfl
  · obtain ⟨a_square, v_square, rfl, h_square, hpre, kk⟩ := h
    have sc := sc_side_neighbours
    refine ⟨_, (pss_cons (ps_asg (pv 0) (pg_tup rfl (pgs_cons (pg_name (i := 1) sc.nd rfl (Or.inl rfl)) (pgs_cons (pg_name (i := 2) sc.nd rfl (Or.inl rfl)) pgs_nil))))
          (pss_one (ps_ret (pe_lst (pa_cons (pe_tup (pa_cons (pe_op op_sub (pv 1) pe_int) (pa_cons (pv 2) pa_nil))) (pa_cons (pe_tup (pa_cons (pv 1) (pa_cons (pe_op op_sub (pv 2) pe_int) pa_nil))) (pa_cons (pe_tup (pa_cons (pv 1) (pa_cons (pe_op op_add (pv 2) pe_int) pa_nil))) (pa_cons (pe_tup (pa_cons (pe_op op_add (pv 1) pe_int) (pa_cons (pv 2) pa_nil))) pa_nil)))))))), ?_⟩
    have g0 : ef0.R 0 H0 H0 := ef0.refl H0
    have nS : ∀ {p : Addr}, H0 p = none → ¬ ef0.S p := fun _ z => z
    have hS : ∀ a, ef0.S a → ∃ o, H0 a = some o := fun _ z => z.elim
    refine q_un2 (e := ef0) (er_var rfl h_square) fun v_row v_column Hg1 g1 h_row h_column => ?_
    have h_square := PyI.tm (ef0.tup g1) h_square
    have g0 := ef0.trans g0 g1
    refine st_ret (e := ef0) (er_lst (eas_cons (er_pair (er_sub (er_var rfl h_row) er_int) (er_var rfl h_column)) (eas_cons (er_pair (er_var rfl h_row) (er_sub (er_var rfl h_column) er_int)) (eas_cons (er_pair (er_var rfl h_row) (er_add (er_var rfl h_column) er_int)) (eas_cons (er_pair (er_add (er_var rfl h_row) er_int) (er_var rfl h_column)) eas_nil)))) (by simp)) fun v Hg2 g2 r => ?_
    exact kk _ _ (ef0.trans g0 g2) (retL g0 r (by first | rfl | assumption))
def sp_land_beside (K : PySem.W.Frag) : Sp := fun vs H Q _ => ∃ (a_chart : (List Str)) (a_square : Sq) (v_chart v_square : V), vs = [v_chart, v_square] ∧ Rp H a_chart v_chart ∧ Rp H a_square v_square ∧ (Ch a_chart) ∧ ∀ v H', ef0.R 0 H H' → isL (ldBeside a_chart a_square) H H' v → Q v H'
theorem ev_land_beside {K : PySem.W.Frag} {e : Ef} {σ : L2.St} {H : Hp} {E : XK} {t0 t1 : TE} {j0 j1 : Nat} {a_chart : (List Str)} {a_square : Sq} (h0 : EvR e j0 t0 σ H (isD a_chart)) (h1 : EvR e j1 t1 σ H (isD a_square)) (hp : Ch a_chart) : EvR e (j0 + j1 + 0) (tCall (sp_land_beside K) [] E (tCons t0 (tCons t1 tNil))) σ H (isL (ldBeside a_chart a_square)) := er_call (k := 0) (ea2 h0 stay_D h1 back_D) back_L fun l H1 H2 vs g g2 ⟨w0, w1, ev, r0, r1⟩ Q q E => ⟨a_chart, a_square, w0, w1, ev, r0, r1, hp, fun v H3 s r => q v H3 (e.ext s) r⟩
theorem ok_land_beside (F : At K mg "land_beside" s_land_beside P_land_beside) (G : Glb mg) (H_is_land : Has P w K mg base "is_land" 2 P_is_land (sp_is_land K)) (H_side_neighbours : Has P w K mg base "side_neighbours" 1 P_side_neighbours (sp_side_neighbours K)) : Has P w K mg base "land_beside" 3 P_land_beside (sp_land_beside K) := by
  refine Has.of F sc_land_beside (fun vs H Q E h => ?_) (fun f cdv A outer s H0 vs Q E hr h => ?_)
  · obtain ⟨a_chart, a_square, v_chart, v_square, rfl, _⟩ := h
    rfl
  · obtain ⟨a_chart, a_square, v_chart, v_square, rfl, h_chart, h_square, hpre, kk⟩ := h
    have sc := sc_land_beside
    refine ⟨_, (pss_one (ps_ret (pe_lc (own := [("other", 2)]) (g := gName 2) rfl sc.nd (pi_list (pe_user H_side_neighbours (hr.mono (by decide)) rfl (pa_cons (pv 1) pa_nil))) (blkOk_by (N := N_land_beside) (sc := defScope s_land_beside) (by decide +kernel)) (fun _ _ _ _ _ => pg_name (i := 2) sc.nd rfl (Or.inl rfl)) (fun _ _ _ _ _ => (pts_one (pt_val (pe_user H_is_land (hr.mono (by decide)) rfl (pa_cons (pv 0) (pa_cons (pv 2) pa_nil)))))) (fun _ _ _ _ _ => (pv 2))))), ?_⟩
    have g0 : ef0.R 0 H0 H0 := ef0.refl H0
    have nS : ∀ {p : Addr}, H0 p = none → ¬ ef0.S p := fun _ z => z
    have hS : ∀ a, ef0.S a → ∃ o, H0 a = some o := fun _ z => z.elim
    refine st_ret (e := ef0) (er_lcF (isLd a_chart) (.inl (ev_side_neighbours (er_var rfl h_square))) (by simp [sides]) (fun _ => rfl) (fun a_other v_other _ _ m_other gc h_other => by have h_chart := PyI.tm (ef0.tup gc) h_chart; have h_square := PyI.tm (ef0.tup gc) h_square; exact (et_BD (ev_is_land (er_var rfl h_chart) (er_var rfl h_other) (hpre)))) (fun a_other v_other _ _ m_other c_other gc h_other => by have h_chart := PyI.tm (ef0.tup gc) h_chart; have h_square := PyI.tm (ef0.tup gc) h_square; exact (er_var rfl h_other))) fun v Hg1 g1 r => ?_
    exact kk _ _ (ef0.trans g0 g1) (retL g0 r (by first | rfl | assumption))
def sp_steps_from (K : PySem.W.Frag) : Sp := fun vs H Q _ => ∃ (a_chart : (List Str)) (a_start : Sq) (v_chart v_start : V), vs = [v_chart, v_start] ∧ Rp H a_chart v_chart ∧ Rp H a_start v_start ∧ (Ch a_chart ∧ isLd a_chart a_start = true) ∧ ∀ v H', ef0.R 0 H H' → isDctA (Far a_chart a_start) H H' v → Q v H'
theorem ev_steps_from {K : PySem.W.Frag} {e : Ef} {σ : L2.St} {H : Hp} {E : XK} {t0 t1 : TE} {j0 j1 : Nat} {a_chart : (List Str)} {a_start : Sq} (h0 : EvR e j0 t0 σ H (isD a_chart)) (h1 : EvR e j1 t1 σ H (isD a_start)) (hp : Ch a_chart ∧ isLd a_chart a_start = true) : EvR e (j0 + j1 + 0) (tCall (sp_steps_from K) [] E (tCons t0 (tCons t1 tNil))) σ H (isDctA (Far a_chart a_start)) := er_call (k := 0) (ea2 h0 stay_D h1 back_D) back_dctA fun l H1 H2 vs g g2 ⟨w0, w1, ev, r0, r1⟩ Q q E => ⟨a_chart, a_start, w0, w1, ev, r0, r1, hp, fun v H3 s r => q v H3 (e.ext s) r⟩
theorem ok_steps_from (F : At K mg "steps_from" s_steps_from P_steps_from) (G : Glb mg) (H_land_beside : Has P w K mg base "land_beside" 3 P_land_beside (sp_land_beside K)) : Has P w K mg base "steps_from" 4 P_steps_from (sp_steps_from K) := by
  refine Has.of F sc_steps_from (fun vs H Q E h => ?_) (fun f cdv A outer s H0 vs Q E hr h => ?_)
  · obtain ⟨a_chart, a_start, v_chart, v_start, rfl, _⟩ := h
    rfl
  · obtain ⟨a_chart, a_start, v_chart, v_start, rfl, h_chart, h_start, hpre, kk⟩ := h
    have sc := sc_steps_from
    refine ⟨_, (pss_cons (ps_set (i := 2) sc.nd rfl (Or.inl rfl) (pe_disp1T (hu_of hr) (pv 1) pe_int))
          (pss_cons (ps_set (i := 3) sc.nd rfl (Or.inl rfl) (pe_lst (pa_cons (pv 1) pa_nil)))
          (pss_cons (ps_set (i := 4) sc.nd rfl (Or.inl rfl) pe_int)
          (pss_cons (ps_while PassesOwn.never (pt_cmpR op_lt (pv 4) (pe_callB call_len_seq (by rfl) G.len PySem.boot_len (pa_cons (pv 3) pa_nil)) (nomark _))
          (pss_cons (ps_set (i := 5) sc.nd rfl (Or.inl rfl) (pe_ix ix_list (pv 3) (pv 4) (fun _ _ => rfl)))
          (pss_cons (ps_for PassesOwn.never rfl (pi_list (pe_user H_land_beside (hr.mono (by decide)) rfl (pa_cons (pv 0) (pa_cons (pv 5) pa_nil)))) (pg_name (i := 6) sc.nd rfl (Or.inl rfl))
          (pss_one (ps_if (pt_cmp (pc_dnotin (hu_of hr) (pv 6) (pv 2))) (pss_cons (ps_dput (hu_of hr) (pv 2) (pv 6) (pe_op op_add (pe_dget (hu_of hr) (pv 2) (pv 5) (fun _ _ => rfl)) pe_int) rfl)
          (pss_one (ps_expr (pe_bm PySem.F.plainAttrs_list PySem.F.slot_list_append PySem.F.type_list_append mt_append (pv 3) (pa_cons (pv 6) pa_nil))))) pss_nil)))
          (pss_one (ps_aug (i := 4) sc.nd rfl (Or.inl rfl) pe_int ip_add)))))
          (pss_one (ps_ret (pv 2))))))), ?_⟩
    have g0 : ef0.R 0 H0 H0 := ef0.refl H0
    have nS : ∀ {p : Addr}, H0 p = none → ¬ ef0.S p := fun _ z => z
    have hS : ∀ a, ef0.S a → ∃ o, H0 a = some o := fun _ z => z.elim
    have hSc := live_of hS g0
    refine q_asg (e := ef0) (er_disp1 hSc (er_var rfl h_start) er_int) fun v_steps Hg1 g1 ⟨p_steps, e_steps, hn_steps, hp_steps⟩ => ?_
    subst e_steps
    have hn_steps := ef0.free g0 hn_steps
    have h_chart := PyI.tm (ef0.tup g1) h_chart
    have h_start := PyI.tm (ef0.tup g1) h_start
    have g0 := ef0.trans g0 g1
    refine q_asg (e := ef0) (er_lst (eas_cons (er_var rfl h_start) eas_nil) (by simp)) fun v_queue Hg2 g2 ⟨p_queue, vs_queue, e_queue, hn_queue, hp_queue, hr_queue⟩ => ?_
    subst e_queue
    have ne_steps_queue := ne_of_none hp_steps hn_queue
    have hn_queue := ef0.free g0 hn_queue
    have h_chart := PyI.tm (ef0.tup g2) h_chart
    have h_start := PyI.tm (ef0.tup g2) h_start
    have hp_steps := ef0.oth g2 _ _ hp_steps (nS hn_steps)
    have g0 := ef0.trans g0 g2
    refine q_asg (e := ef0) er_int fun v_at Hg3 g3 h_at => ?_
    have h_chart := PyI.tm (ef0.tup g3) h_chart
    have h_start := PyI.tm (ef0.tup g3) h_start
    have hp_steps := ef0.oth g3 _ _ hp_steps (nS hn_steps)
    have hp_queue := ef0.oth g3 _ _ hp_queue (nS hn_queue)
    have hr_queue := Rps.tm (ef0.tup g3) hr_queue
    have g0 := ef0.trans g0 g3
    refine q_whileC (e := ef0) ?Pv0 ?m0 ?h0_0 (fun m0 σ0 Hi0 hP0 => ?hs_0)
    case Pv0 => exact fun i σ' H' => ∃ (a_at : Int) (v_at : V) (xs_queue : List Sq) (vs_queue : List V) (xs_steps : List (Sq × Int)) (o_square : Option V) (o_other : Option V), σ' = [some v_chart, some v_start, some (.ref p_steps), some (.ref p_queue), some v_at, o_square, o_other] ∧ i = 10001 - a_at.toNat ∧ ef0.R 0 H0 H' ∧ Tg Hg3 H' ∧ Rp H' a_at v_at ∧ H' p_queue = some (.lst vs_queue) ∧ Rps H' xs_queue vs_queue ∧ H' p_steps = some (.dT (DI xs_steps)) ∧ ∃ n : Nat, a_at = (n : Int) ∧ xs_queue = xs_steps.map (·.1) ∧ Bfs a_chart a_start xs_steps n
    case m0 => exact 10001
    case h0_0 =>
      refine ⟨_, _, _, _, _, _, _, rfl, ?_, g0, Tg.refl _, h_at, hp_queue, hr_queue, hp_steps, ?_⟩
      · rfl
      · exact ⟨0, rfl, rfl, Bfs.start hpre.2⟩
    case hs_0 =>
      obtain ⟨a_at, v_at, xs_queue, vs_queue, xs_steps, o_square, o_other, rfl, hm0, g0, tg0, h_at, hp_queue, hr_queue, hp_steps, hI0⟩ := hP0
      have h_chart := PyI.tm tg0 h_chart
      have h_start := PyI.tm tg0 h_start
      obtain ⟨n, rfl, eqq, hB⟩ := hI0
      subst eqq
      have hkl := keys_len hB
      have har := area_le hpre.1
      refine ⟨_, _, Nat.le_of_ble_eq_true rfl, (et_tD (er_lt (er_var rfl h_at) (er_lenL (er_varL rfl (lsr_of hp_queue (nS hn_queue) hr_queue))))), fun cc4 Hc4 gc4 => ?_, fun cc4 Hc4 gc4 => ?_⟩
      ·
        have h_chart := PyI.tm (ef0.tup gc4) h_chart
        have h_start := PyI.tm (ef0.tup gc4) h_start
        have hp_steps := ef0.oth gc4 _ _ hp_steps (nS hn_steps)
        have hp_queue := ef0.oth gc4 _ _ hp_queue (nS hn_queue)
        have hr_queue := Rps.tm (ef0.tup gc4) hr_queue
        have h_at := PyI.tm (ef0.tup gc4) h_at
        have tg0 := tg0.trans (ef0.tup gc4)
        have g0 := ef0.trans g0 gc4
        have hlt : n < xs_steps.length := by have := of_decide_eq_true cc4.symm; rw [List.length_map] at this; omega
        obtain ⟨⟨c, d⟩, hcd⟩ : ∃ p, xs_steps[n]? = some p := ⟨_, List.getElem?_eq_getElem hlt⟩
        have hix := ixD_fst hcd
        refine q_asg (e := ef0) (er_ixL (er_varL rfl (lsr_of hp_queue (nS hn_queue) hr_queue)) (er_var rfl h_at) (by rw [List.length_map]; exact ⟨by omega, by omega⟩)) fun v_square Hg5 g5 h_square => ?_
        have h_chart := PyI.tm (ef0.tup g5) h_chart
        have h_start := PyI.tm (ef0.tup g5) h_start
        have hp_steps := ef0.oth g5 _ _ hp_steps (nS hn_steps)
        have hp_queue := ef0.oth g5 _ _ hp_queue (nS hn_queue)
        have hr_queue := Rps.tm (ef0.tup g5) hr_queue
        have h_at := PyI.tm (ef0.tup g5) h_at
        have tg0 := tg0.trans (ef0.tup g5)
        have g0 := ef0.trans g0 g5
        rw [hix] at h_square
        refine q_forN (e := ef0) (ev_land_beside (er_var rfl h_chart) (er_var rfl h_square) (hpre.1)) fun p_it1 vs_it1 Hl1 g6 hn_it1 hp_it1 hr_it1 => ?_
        have ne_steps_it1 := ne_of_none hp_steps hn_it1
        have ne_queue_it1 := ne_of_none hp_queue hn_it1
        have hn_it1 := ef0.free g0 hn_it1
        have h_chart := PyI.tm (ef0.tup g6) h_chart
        have h_start := PyI.tm (ef0.tup g6) h_start
        have hp_steps := ef0.oth g6 _ _ hp_steps (nS hn_steps)
        have hp_queue := ef0.oth g6 _ _ hp_queue (nS hn_queue)
        have hr_queue := Rps.tm (ef0.tup g6) hr_queue
        have h_at := PyI.tm (ef0.tup g6) h_at
        have h_square := PyI.tm (ef0.tup g6) h_square
        have tg0 := tg0.trans (ef0.tup g6)
        have g0 := ef0.trans g0 g6
        refine ⟨?Pv1, ?h0_1, fun i1 σ1 Hi1 hP1 => ?hl_1, fun i1 a_other v_other σ1 Hi1 hi1 ra1 hP1 => ?hs_1, fun σ1 Hi1 hP1 => ?hd_1⟩
        case Pv1 => exact fun i σ' H' => ∃ (xs_queue : List Sq) (vs_queue : List V) (xs_steps : List (Sq × Int)) (o_other : Option V), σ' = [some v_chart, some v_start, some (.ref p_steps), some (.ref p_queue), some v_at, some v_square, o_other] ∧ ef0.R 0 H0 H' ∧ Tg Hl1 H' ∧ H' p_queue = some (.lst vs_queue) ∧ Rps H' xs_queue vs_queue ∧ H' p_steps = some (.dT (DI xs_steps)) ∧ H' p_it1 = some (.lst vs_it1) ∧ xs_queue = xs_steps.map (·.1) ∧ BfsI a_chart a_start xs_steps n c d (ldBeside a_chart c) i
        case h0_1 =>
          refine ⟨_, _, _, _, rfl, g0, Tg.refl _, hp_queue, hr_queue, hp_steps, hp_it1, ?_⟩
          · exact ⟨rfl, hB.open hcd⟩
        case hl_1 =>
          obtain ⟨xs_queue, vs_queue, xs_steps, o_other, rfl, g0, tg1, hp_queue, hr_queue, hp_steps, hp_it1, hI1⟩ := hP1
          exact hp_it1
        case hs_1 =>
          obtain ⟨xs_queue, vs_queue, xs_steps, o_other, rfl, g0, tg1, hp_queue, hr_queue, hp_steps, hp_it1, hI1⟩ := hP1
          have h_chart := PyI.tm tg1 h_chart
          have h_start := PyI.tm tg1 h_start
          have h_at := PyI.tm tg1 h_at
          have h_square := PyI.tm tg1 h_square
          have hr_it1 := Rps.tm tg1 hr_it1
          have tg0 := tg0.trans tg1
          have h_other := PyI.tm tg1 ra1
          obtain ⟨eqq, hB1⟩ := hI1
          subst eqq
          have hkl1 := keys_len hB1.toBfs
          have hget := getK_of hB1.nd (List.mem_of_getElem? hB1.cur)
          refine st_if (e := ef0) (et_BD (er_dnotin rfl hp_steps (nS hn_steps) (er_var rfl h_other))) (fun cc7 Hc7 gc7 => ?_) (fun cc7 Hc7 gc7 => ?_)
          ·
            have h_chart := PyI.tm (ef0.tup gc7) h_chart
            have h_start := PyI.tm (ef0.tup gc7) h_start
            have hp_steps := ef0.oth gc7 _ _ hp_steps (nS hn_steps)
            have hp_queue := ef0.oth gc7 _ _ hp_queue (nS hn_queue)
            have hr_queue := Rps.tm (ef0.tup gc7) hr_queue
            have h_at := PyI.tm (ef0.tup gc7) h_at
            have h_square := PyI.tm (ef0.tup gc7) h_square
            have h_other := PyI.tm (ef0.tup gc7) h_other
            have hp_it1 := ef0.oth gc7 _ _ hp_it1 (nS hn_it1)
            have hr_it1 := Rps.tm (ef0.tup gc7) hr_it1
            have tg0 := tg0.trans (ef0.tup gc7)
            have tg1 := tg1.trans (ef0.tup gc7)
            have g0 := ef0.trans g0 gc7
            have hn : hasK xs_steps a_other = false := not_true_of cc7
            refine q_dput (e := ef0) rfl hp_steps (nS hn_steps) (by omega) (er_add (er_dget rfl hp_steps (nS hn_steps) (er_var rfl h_square) (hget.1)) er_int) (er_var rfl h_other) hn fun Hg8 Hcg8 g8 cg8 => ?_
            have h_chart := PyI.tm (ef0.tup g8) h_chart
            have h_start := PyI.tm (ef0.tup g8) h_start
            have hp_steps := ef0.oth g8 _ _ hp_steps (nS hn_steps)
            have hp_queue := ef0.oth g8 _ _ hp_queue (nS hn_queue)
            have hr_queue := Rps.tm (ef0.tup g8) hr_queue
            have h_at := PyI.tm (ef0.tup g8) h_at
            have h_square := PyI.tm (ef0.tup g8) h_square
            have h_other := PyI.tm (ef0.tup g8) h_other
            have hp_it1 := ef0.oth g8 _ _ hp_it1 (nS hn_it1)
            have hr_it1 := Rps.tm (ef0.tup g8) hr_it1
            have tg0 := tg0.trans (ef0.tup g8)
            have tg1 := tg1.trans (ef0.tup g8)
            have g0 := ef0.trans g0 g8
            have h_chart := PyI.tm cg8.t h_chart
            have h_start := PyI.tm cg8.t h_start
            have hp_queue := cg8.lst ne_steps_queue.symm hp_queue
            have hr_queue := Rps.tm cg8.t hr_queue
            have h_at := PyI.tm cg8.t h_at
            have h_square := PyI.tm cg8.t h_square
            have h_other := PyI.tm cg8.t h_other
            have hp_it1 := cg8.lst ne_steps_it1.symm hp_it1
            have hr_it1 := Rps.tm cg8.t hr_it1
            have tg0 := tg0.trans cg8.t
            have tg1 := tg1.trans cg8.t
            have g0 := cg8.g g0 hn_steps
            have hp_steps := cg8.here
            refine st_appC (e := ef0) rfl hp_queue (nS hn_queue) (by rw [← hr_queue.len, List.length_map]; omega) (er_var rfl h_other) fun v Hg9 Hcg9 g9 r cg9 => ?_
            have h_chart := PyI.tm (ef0.tup g9) h_chart
            have h_start := PyI.tm (ef0.tup g9) h_start
            have hp_steps := ef0.oth g9 _ _ hp_steps (nS hn_steps)
            have hp_queue := ef0.oth g9 _ _ hp_queue (nS hn_queue)
            have hr_queue := Rps.tm (ef0.tup g9) hr_queue
            have h_at := PyI.tm (ef0.tup g9) h_at
            have h_square := PyI.tm (ef0.tup g9) h_square
            have h_other := PyI.tm (ef0.tup g9) h_other
            have hp_it1 := ef0.oth g9 _ _ hp_it1 (nS hn_it1)
            have hr_it1 := Rps.tm (ef0.tup g9) hr_it1
            have tg0 := tg0.trans (ef0.tup g9)
            have tg1 := tg1.trans (ef0.tup g9)
            have g0 := ef0.trans g0 g9
            have h_chart := PyI.tm cg9.t h_chart
            have h_start := PyI.tm cg9.t h_start
            have hp_steps := cg9.lst ne_steps_queue hp_steps
            have h_at := PyI.tm cg9.t h_at
            have h_square := PyI.tm cg9.t h_square
            have h_other := PyI.tm cg9.t h_other
            have hp_it1 := cg9.lst ne_queue_it1.symm hp_it1
            have hr_it1 := Rps.tm cg9.t hr_it1
            have tg0 := tg0.trans cg9.t
            have tg1 := tg1.trans cg9.t
            have g0 := cg9.g g0 hn_queue
            have hp_queue := cg9.here
            have hr_queue := Rps.snoc (Rps.tm cg9.t hr_queue) (PyI.tm cg9.t r)
            refine ⟨_, _, _, _, rfl, g0, tg1, hp_queue, hr_queue, hp_steps, hp_it1, ?_⟩
            · exact ⟨by simp, by rw [hget.2]; exact hB1.new hi1 (mem_ld (List.mem_of_getElem? hi1)).1 (mem_ld (List.mem_of_getElem? hi1)).2 hn⟩
          ·
            have h_chart := PyI.tm (ef0.tup gc7) h_chart
            have h_start := PyI.tm (ef0.tup gc7) h_start
            have hp_steps := ef0.oth gc7 _ _ hp_steps (nS hn_steps)
            have hp_queue := ef0.oth gc7 _ _ hp_queue (nS hn_queue)
            have hr_queue := Rps.tm (ef0.tup gc7) hr_queue
            have h_at := PyI.tm (ef0.tup gc7) h_at
            have h_square := PyI.tm (ef0.tup gc7) h_square
            have h_other := PyI.tm (ef0.tup gc7) h_other
            have hp_it1 := ef0.oth gc7 _ _ hp_it1 (nS hn_it1)
            have hr_it1 := Rps.tm (ef0.tup gc7) hr_it1
            have tg0 := tg0.trans (ef0.tup gc7)
            have tg1 := tg1.trans (ef0.tup gc7)
            have g0 := ef0.trans g0 gc7
            refine st_next ?_
            have hh : hasK xs_steps a_other = true := not_false_of cc7
            refine ⟨_, _, _, _, rfl, g0, tg1, hp_queue, hr_queue, hp_steps, hp_it1, ?_⟩
            · exact ⟨rfl, hB1.old hi1 fun _ => hh⟩
        case hd_1 =>
          obtain ⟨xs_queue, vs_queue, xs_steps, o_other, rfl, g0, tg1, hp_queue, hr_queue, hp_steps, hp_it1, hI1⟩ := hP1
          have h_chart := PyI.tm tg1 h_chart
          have h_start := PyI.tm tg1 h_start
          have h_at := PyI.tm tg1 h_at
          have h_square := PyI.tm tg1 h_square
          have hr_it1 := Rps.tm tg1 hr_it1
          have tg0 := tg0.trans tg1
          obtain ⟨eqq, hB1⟩ := hI1
          subst eqq
          have hB2 := hB1.close fun q h1 h2 => mem_ld' h1 h2
          refine st_aug (e := ef0) rfl h_at er_int fun v_at Hg10 g10 h_at => ?_
          have h_chart := PyI.tm (ef0.tup g10) h_chart
          have h_start := PyI.tm (ef0.tup g10) h_start
          have hp_steps := ef0.oth g10 _ _ hp_steps (nS hn_steps)
          have hp_queue := ef0.oth g10 _ _ hp_queue (nS hn_queue)
          have hr_queue := Rps.tm (ef0.tup g10) hr_queue
          have h_square := PyI.tm (ef0.tup g10) h_square
          have tg0 := tg0.trans (ef0.tup g10)
          have g0 := ef0.trans g0 g10
          refine ⟨_, ?_, _, _, _, _, _, _, _, rfl, rfl, g0, tg0, h_at, hp_queue, hr_queue, hp_steps, ?_⟩
          · omega
          · exact ⟨n + 1, by omega, rfl, hB2⟩
      ·
        have h_chart := PyI.tm (ef0.tup gc4) h_chart
        have h_start := PyI.tm (ef0.tup gc4) h_start
        have hp_steps := ef0.oth gc4 _ _ hp_steps (nS hn_steps)
        have hp_queue := ef0.oth gc4 _ _ hp_queue (nS hn_queue)
        have hr_queue := Rps.tm (ef0.tup gc4) hr_queue
        have h_at := PyI.tm (ef0.tup gc4) h_at
        have tg0 := tg0.trans (ef0.tup gc4)
        have g0 := ef0.trans g0 gc4
        have hge : xs_steps.length ≤ n := by have := of_decide_eq_false cc4.symm; rw [List.length_map] at this; omega
        refine st_retV rfl ?_
        exact kk _ _ (g0) (retDctA hn_steps hp_steps (hB.far hge))
def sp_distance (K : PySem.W.Frag) : Sp := fun vs H Q _ => ∃ (a_chart : (List Str)) (a_a : Sq) (a_b : Sq) (v_chart v_a v_b : V), vs = [v_chart, v_a, v_b] ∧ Rp H a_chart v_chart ∧ Rp H a_a v_a ∧ Rp H a_b v_b ∧ (Ch a_chart ∧ isLd a_chart a_b = true) ∧ ∀ v H', ef0.R 0 H H' → isA (fun o : Option Int => IsDist a_chart a_b a_a o) H H' v → Q v H'
theorem ev_distance {K : PySem.W.Frag} {e : Ef} {σ : L2.St} {H : Hp} {E : XK} {t0 t1 t2 : TE} {j0 j1 j2 : Nat} {a_chart : (List Str)} {a_a : Sq} {a_b : Sq} (h0 : EvR e j0 t0 σ H (isD a_chart)) (h1 : EvR e j1 t1 σ H (isD a_a)) (h2 : EvR e j2 t2 σ H (isD a_b)) (hp : Ch a_chart ∧ isLd a_chart a_b = true) : EvR e (j0 + j1 + j2 + 0) (tCall (sp_distance K) [] E (tCons t0 (tCons t1 (tCons t2 tNil)))) σ H (isA (fun o : Option Int => IsDist a_chart a_b a_a o)) := er_call (k := 0) (ea3 h0 stay_D h1 stay_D back_D h2 back_D) back_A fun l H1 H2 vs g g2 ⟨w0, w1, w2, ev, r0, r1, r2⟩ Q q E => ⟨a_chart, a_a, a_b, w0, w1, w2, ev, r0, r1, r2, hp, fun v H3 s r => q v H3 (e.ext s) r⟩
theorem ok_distance (F : At K mg "distance" s_distance P_distance) (G : Glb mg) (H_steps_from : Has P w K mg base "steps_from" 4 P_steps_from (sp_steps_from K)) : Has P w K mg base "distance" 5 P_distance (sp_distance K) := by
  refine Has.of F sc_distance (fun vs H Q E h => ?_) (fun f cdv A outer s H0 vs Q E hr h => ?_)
  · obtain ⟨a_chart, a_a, a_b, v_chart, v_a, v_b, rfl, _⟩ := h
    rfl
  · obtain ⟨a_chart, a_a, a_b, v_chart, v_a, v_b, rfl, h_chart, h_a, h_b, hpre, kk⟩ := h
    have sc := sc_distance
    refine ⟨_, (pss_one (ps_ret (pe_dget1 (hu_of hr) (pe_user H_steps_from (hr.mono (by decide)) rfl (pa_cons (pv 0) (pa_cons (pv 2) pa_nil))) (pv 1) ⟨rfl, rfl, rfl, rfl⟩))), ?_⟩
    have g0 : ef0.R 0 H0 H0 := ef0.refl H0
    have nS : ∀ {p : Addr}, H0 p = none → ¬ ef0.S p := fun _ z => z
    have hS : ∀ a, ef0.S a → ∃ o, H0 a = some o := fun _ z => z.elim
    refine st_ret (e := ef0) (er_dget1 (live_of hS g0) (ev_steps_from (er_var rfl h_chart) (er_var rfl h_b) (hpre)) (er_var rfl h_a)) fun v Hg1 g1 r => ?_
    exact kk _ _ (ef0.trans g0 g1) (retAA r (fun o ⟨kvs, f, e⟩ => e ▸ f.dist a_a))
def sp__law_in (K : PySem.W.Frag) : Sp := fun vs H Q _ => ∃ (a_chart : (List Str)) (a_spot : Sq) (v_chart v_spot : V), vs = [v_chart, v_spot] ∧ Rp H a_chart v_chart ∧ Rp H a_spot v_spot ∧ (Ch a_chart) ∧ ∀ v H', ef0.R 0 H H' → isD (isSq a_chart a_spot) H H' v → Q v H'
theorem ev__law_in {K : PySem.W.Frag} {e : Ef} {σ : L2.St} {H : Hp} {E : XK} {t0 t1 : TE} {j0 j1 : Nat} {a_chart : (List Str)} {a_spot : Sq} (h0 : EvR e j0 t0 σ H (isD a_chart)) (h1 : EvR e j1 t1 σ H (isD a_spot)) (hp : Ch a_chart) : EvR e (j0 + j1 + 0) (tCall (sp__law_in K) [] E (tCons t0 (tCons t1 tNil))) σ H (isD (isSq a_chart a_spot)) := er_call (k := 0) (ea2 h0 stay_D h1 back_D) back_D fun l H1 H2 vs g g2 ⟨w0, w1, ev, r0, r1⟩ Q q E => ⟨a_chart, a_spot, w0, w1, ev, r0, r1, hp, fun v H3 s r => q v H3 (e.ext s) r⟩
theorem ok__law_in (F : At K mg "_law_in" s__law_in P__law_in) (G : Glb mg)  : Has P w K mg base "_law_in" 1 P__law_in (sp__law_in K) := by
  refine Has.of F sc__law_in (fun vs H Q E h => ?_) (fun f cdv A outer s H0 vs Q E hr h => ?_)
  · obtain ⟨a_chart, a_spot, v_chart, v_spot, rfl, _⟩ := h
    rfl
  · obtain ⟨a_chart, a_spot, v_chart, v_spot, rfl, h_chart, h_spot, hpre, kk⟩ := h
    have sc := sc__law_in
    refine ⟨_, (pss_one (ps_ret (pe_and (pe_chain op_le op_lt pe_int (pe_ix ix_tup (pv 1) pe_int (fun _ _ => rfl)) (pe_callB call_len_seq (by rfl) G.len PySem.boot_len (pa_cons (pv 0) pa_nil))) (pe_one (pe_chain op_le op_lt pe_int (pe_ix ix_tup (pv 1) pe_int (fun _ _ => rfl)) (pe_callB call_len_str (by rfl) G.len PySem.boot_len (pa_cons (pe_ix ix_tup (pv 0) pe_int (fun _ _ => rfl)) pa_nil))))))), ?_⟩
    have g0 : ef0.R 0 H0 H0 := ef0.refl H0
    have nS : ∀ {p : Addr}, H0 p = none → ¬ ef0.S p := fun _ z => z
    have hS : ∀ a, ef0.S a → ∃ o, H0 a = some o := fun _ z => z.elim
    refine st_ret (e := ef0) (er_andV (er_chain (C := fun i j => decide (i ≤ j)) (C' := fun i j => decide (i < j)) er_int (er_fst (er_var rfl h_spot)) fun _ => (er_lenT (er_var rfl h_chart))) fun hc => (er_chain (C := fun i j => decide (i ≤ j)) (C' := fun i j => decide (i < j)) er_int (er_snd (er_var rfl h_spot)) fun _ => (er_lenS (er_ixT (er_var rfl h_chart) er_int (hpre.ok0)) (hpre.wl0)))) fun v Hg1 g1 r => ?_
    exact kk _ _ (ef0.trans g0 g1) (retD r (by first | rfl | assumption))
def sp__law_at (K : PySem.W.Frag) : Sp := fun vs H Q _ => ∃ (a_chart : (List Str)) (a_spot : Sq) (v_chart v_spot : V), vs = [v_chart, v_spot] ∧ Rp H a_chart v_chart ∧ Rp H a_spot v_spot ∧ (Ch a_chart) ∧ ∀ v H', ef0.R 0 H H' → isD (isLd a_chart a_spot) H H' v → Q v H'
theorem ev__law_at {K : PySem.W.Frag} {e : Ef} {σ : L2.St} {H : Hp} {E : XK} {t0 t1 : TE} {j0 j1 : Nat} {a_chart : (List Str)} {a_spot : Sq} (h0 : EvR e j0 t0 σ H (isD a_chart)) (h1 : EvR e j1 t1 σ H (isD a_spot)) (hp : Ch a_chart) : EvR e (j0 + j1 + 0) (tCall (sp__law_at K) [] E (tCons t0 (tCons t1 tNil))) σ H (isD (isLd a_chart a_spot)) := er_call (k := 0) (ea2 h0 stay_D h1 back_D) back_D fun l H1 H2 vs g g2 ⟨w0, w1, ev, r0, r1⟩ Q q E => ⟨a_chart, a_spot, w0, w1, ev, r0, r1, hp, fun v H3 s r => q v H3 (e.ext s) r⟩
theorem ok__law_at (F : At K mg "_law_at" s__law_at P__law_at) (G : Glb mg) (H__law_in : Has P w K mg base "_law_in" 1 P__law_in (sp__law_in K)) : Has P w K mg base "_law_at" 2 P__law_at (sp__law_at K) := by
  refine Has.of F sc__law_at (fun vs H Q E h => ?_) (fun f cdv A outer s H0 vs Q E hr h => ?_)
  · obtain ⟨a_chart, a_spot, v_chart, v_spot, rfl, _⟩ := h
    rfl
  · obtain ⟨a_chart, a_spot, v_chart, v_spot, rfl, h_chart, h_spot, hpre, kk⟩ := h
    have sc := sc__law_at
    refine ⟨_, (pss_one (ps_ret (pe_and (pe_user H__law_in (hr.mono (by decide)) rfl (pa_cons (pv 0) (pa_cons (pv 1) pa_nil))) (pe_one (pe_cmpR op_eq (pe_ix ix_str (pe_ix ix_tup (pv 0) (pe_ix ix_tup (pv 1) pe_int (fun _ _ => rfl)) (fun _ _ => rfl)) (pe_ix ix_tup (pv 1) pe_int (fun _ _ => rfl)) (fun _ _ => rfl)) pe_str (nomark _)))))), ?_⟩
    have g0 : ef0.R 0 H0 H0 := ef0.refl H0
    have nS : ∀ {p : Addr}, H0 p = none → ¬ ef0.S p := fun _ z => z
    have hS : ∀ a, ef0.S a → ∃ o, H0 a = some o := fun _ z => z.elim
    refine st_ret (e := ef0) (er_andV (ev__law_in (er_var rfl h_chart) (er_var rfl h_spot) (hpre)) fun hc => (er_eq (er_ixS (er_ixT (er_var rfl h_chart) (er_fst (er_var rfl h_spot)) (hpre.ok1 hc)) (er_snd (er_var rfl h_spot)) (hpre.wl1 hc) (hpre.ok2 hc)) er_str)) fun v Hg1 g1 r => ?_
    exact kk _ _ (ef0.trans g0 g1) (retD r (by first | rfl | assumption))
def sp__law_all (K : PySem.W.Frag) : Sp := fun vs H Q _ => ∃ (a_chart : (List Str)) (v_chart : V), vs = [v_chart] ∧ Rp H a_chart v_chart ∧ (Ch a_chart) ∧ ∀ v H', ef0.R 0 H H' → isL (allSq a_chart) H H' v → Q v H'
theorem ev__law_all {K : PySem.W.Frag} {e : Ef} {σ : L2.St} {H : Hp} {E : XK} {t0 : TE} {j0 : Nat} {a_chart : (List Str)} (h0 : EvR e j0 t0 σ H (isD a_chart)) (hp : Ch a_chart) : EvR e (j0 + 0) (tCall (sp__law_all K) [] E (tCons t0 tNil)) σ H (isL (allSq a_chart)) := er_call (k := 0) (ea1 h0) back_L fun l H1 H2 vs g g2 ⟨w0, ev, r0⟩ Q q E => ⟨a_chart, w0, ev, r0, hp, fun v H3 s r => q v H3 (e.ext s) r⟩
theorem ok__law_all (F : At K mg "_law_all" s__law_all P__law_all) (G : Glb mg)  : Has P w K mg base "_law_all" 1 P__law_all (sp__law_all K) := by
  refine Has.of F sc__law_all (fun vs H Q E h => ?_) (fun f cdv A outer s H0 vs Q E hr h => ?_)
  · obtain ⟨a_chart, v_chart, rfl, _⟩ := h
    rfl
  · obtain ⟨a_chart, v_chart, rfl, h_chart, hpre, kk⟩ := h
    have sc := sc__law_all
    refine ⟨_, (pss_cons (ps_set (i := 1) sc.nd rfl (Or.inl rfl) (pe_lst pa_nil))
          (pss_cons (ps_for PassesOwn.never rfl (pi_range1 rfl G.range (pa_cons (pe_callB call_len_seq (by rfl) G.len PySem.boot_len (pa_cons (pv 0) pa_nil)) pa_nil)) (pg_name (i := 2) sc.nd rfl (Or.inl rfl))
          (pss_one (ps_for PassesOwn.never rfl (pi_range1 rfl G.range (pa_cons (pe_callB call_len_str (by rfl) G.len PySem.boot_len (pa_cons (pe_ix ix_tup (pv 0) pe_int (fun _ _ => rfl)) pa_nil)) pa_nil)) (pg_name (i := 3) sc.nd rfl (Or.inl rfl))
          (pss_one (ps_expr (pe_bm PySem.F.plainAttrs_list PySem.F.slot_list_append PySem.F.type_list_append mt_append (pv 1) (pa_cons (pe_tup (pa_cons (pv 2) (pa_cons (pv 3) pa_nil))) pa_nil)))))))
          (pss_one (ps_ret (pv 1))))), ?_⟩
    have g0 : ef0.R 0 H0 H0 := ef0.refl H0
    have nS : ∀ {p : Addr}, H0 p = none → ¬ ef0.S p := fun _ z => z
    have hS : ∀ a, ef0.S a → ∃ o, H0 a = some o := fun _ z => z.elim
    refine q_asg (e := ef0) (er_lst (eas_nil (α := Sq)) (by simp)) fun v_found Hg1 g1 ⟨p_found, vs_found, e_found, hn_found, hp_found, hr_found⟩ => ?_
    subst e_found
    have hn_found := ef0.free g0 hn_found
    have h_chart := PyI.tm (ef0.tup g1) h_chart
    have g0 := ef0.trans g0 g1
    refine q_forR1C (e := ef0) (ea1v (er_lenT (er_var rfl h_chart))) (by have := hpre.hl; omega) (by omega) fun Hl0 g2 => ?_
    have h_chart := PyI.tm (ef0.tup g2) h_chart
    have hp_found := ef0.oth g2 _ _ hp_found (nS hn_found)
    have hr_found := Rps.tm (ef0.tup g2) hr_found
    have g0 := ef0.trans g0 g2
    refine ⟨?Pv0, ?h0_0, fun i0 σ0 Hi0 hi0 hP0 => ?hs_0, fun σ0 Hi0 hP0 => ?hd_0⟩
    case Pv0 => exact fun i σ' H' => ∃ (xs_found : List Sq) (vs_found : List V) (o_r : Option V) (o_c : Option V), σ' = [some v_chart, some (.ref p_found), o_r, o_c] ∧ ef0.R 0 H0 H' ∧ Tg Hl0 H' ∧ H' p_found = some (.lst vs_found) ∧ Rps H' xs_found vs_found ∧ xs_found = rowsTo a_chart i
    case h0_0 =>
      refine ⟨_, _, _, _, rfl, g0, Tg.refl _, hp_found, hr_found, ?_⟩
      · rfl
    case hs_0 =>
      obtain ⟨xs_found, vs_found, o_r, o_c, rfl, g0, tg0, hp_found, hr_found, hI0⟩ := hP0
      have h_chart := PyI.tm tg0 h_chart
      obtain ⟨v_r, ev_r⟩ : ∃ v : V, v = V.int (i0 : Int) := ⟨_, rfl⟩
      rw [← ev_r]
      have h_r : Rp Hi0 (i0 : Int) v_r := ev_r
      refine st_forR1C (e := ef0) (ea1v (er_lenS (er_ixT (er_var rfl h_chart) er_int (hpre.ok0)) (hpre.wl0))) (by have := hpre.wl; unfold wid at this; omega) (by omega) fun Hl1 g3 => ?_
      have h_chart := PyI.tm (ef0.tup g3) h_chart
      have hp_found := ef0.oth g3 _ _ hp_found (nS hn_found)
      have hr_found := Rps.tm (ef0.tup g3) hr_found
      have h_r := PyI.tm (ef0.tup g3) h_r
      have tg0 := tg0.trans (ef0.tup g3)
      have g0 := ef0.trans g0 g3
      refine ⟨?Pv1, ?h0_1, fun i1 σ1 Hi1 hi1 hP1 => ?hs_1, fun σ1 Hi1 hP1 => ?hd_1⟩
      case Pv1 => exact fun i σ' H' => ∃ (xs_found : List Sq) (vs_found : List V) (o_c : Option V), σ' = [some v_chart, some (.ref p_found), some v_r, o_c] ∧ ef0.R 0 H0 H' ∧ Tg Hl1 H' ∧ H' p_found = some (.lst vs_found) ∧ Rps H' xs_found vs_found ∧ xs_found = rowsTo a_chart i0 ++ colsTo i0 i
      case h0_1 =>
        refine ⟨_, _, _, rfl, g0, Tg.refl _, hp_found, hr_found, ?_⟩
        · rw [hI0]; simp [colsTo]
      case hs_1 =>
        obtain ⟨xs_found, vs_found, o_c, rfl, g0, tg1, hp_found, hr_found, hI1⟩ := hP1
        have h_chart := PyI.tm tg1 h_chart
        have h_r := PyI.tm tg1 h_r
        have tg0 := tg0.trans tg1
        obtain ⟨v_c, ev_c⟩ : ∃ v : V, v = V.int (i1 : Int) := ⟨_, rfl⟩
        rw [← ev_c]
        have h_c : Rp Hi1 (i1 : Int) v_c := ev_c
        have hw : i1 < wid a_chart := by unfold wid; omega
        refine st_appC (e := ef0) rfl hp_found (nS hn_found) (by rw [← hr_found.len, hI1]; exact all_small hpre (by omega) (by omega)) (er_pair (er_var rfl h_r) (er_var rfl h_c)) fun v Hg4 Hcg4 g4 r cg4 => ?_
        have h_chart := PyI.tm (ef0.tup g4) h_chart
        have hp_found := ef0.oth g4 _ _ hp_found (nS hn_found)
        have hr_found := Rps.tm (ef0.tup g4) hr_found
        have h_r := PyI.tm (ef0.tup g4) h_r
        have h_c := PyI.tm (ef0.tup g4) h_c
        have tg0 := tg0.trans (ef0.tup g4)
        have tg1 := tg1.trans (ef0.tup g4)
        have g0 := ef0.trans g0 g4
        have h_chart := PyI.tm cg4.t h_chart
        have h_r := PyI.tm cg4.t h_r
        have h_c := PyI.tm cg4.t h_c
        have tg0 := tg0.trans cg4.t
        have tg1 := tg1.trans cg4.t
        have g0 := cg4.g g0 hn_found
        have hp_found := cg4.here
        have hr_found := Rps.snoc (Rps.tm cg4.t hr_found) (PyI.tm cg4.t r)
        refine ⟨_, _, _, rfl, g0, tg1, hp_found, hr_found, ?_⟩
        · rw [hI1, List.append_assoc, ← colsTo_succ]
      case hd_1 =>
        obtain ⟨xs_found, vs_found, o_c, rfl, g0, tg1, hp_found, hr_found, hI1⟩ := hP1
        have h_chart := PyI.tm tg1 h_chart
        have h_r := PyI.tm tg1 h_r
        have tg0 := tg0.trans tg1
        refine ⟨_, _, _, _, rfl, g0, tg0, hp_found, hr_found, ?_⟩
        · rw [hI1]; exact rowsTo_succ
    case hd_0 =>
      obtain ⟨xs_found, vs_found, o_r, o_c, rfl, g0, tg0, hp_found, hr_found, hI0⟩ := hP0
      have h_chart := PyI.tm tg0 h_chart
      refine st_retV rfl ?_
      exact kk _ _ (g0) (retO hn_found hp_found hr_found (hI0.trans (rowsTo_all _)))
def sp__law_dry (K : PySem.W.Frag) : Sp := fun vs H Q _ => ∃ (a_chart : (List Str)) (v_chart : V), vs = [v_chart] ∧ Rp H a_chart v_chart ∧ (Ch a_chart) ∧ ∀ v H', ef0.R 0 H H' → isL ((allSq a_chart).filter (isLd a_chart)) H H' v → Q v H'
theorem ev__law_dry {K : PySem.W.Frag} {e : Ef} {σ : L2.St} {H : Hp} {E : XK} {t0 : TE} {j0 : Nat} {a_chart : (List Str)} (h0 : EvR e j0 t0 σ H (isD a_chart)) (hp : Ch a_chart) : EvR e (j0 + 0) (tCall (sp__law_dry K) [] E (tCons t0 tNil)) σ H (isL ((allSq a_chart).filter (isLd a_chart))) := er_call (k := 0) (ea1 h0) back_L fun l H1 H2 vs g g2 ⟨w0, ev, r0⟩ Q q E => ⟨a_chart, w0, ev, r0, hp, fun v H3 s r => q v H3 (e.ext s) r⟩
theorem ok__law_dry (F : At K mg "_law_dry" s__law_dry P__law_dry) (G : Glb mg) (H__law_all : Has P w K mg base "_law_all" 1 P__law_all (sp__law_all K)) (H__law_at : Has P w K mg base "_law_at" 2 P__law_at (sp__law_at K)) : Has P w K mg base "_law_dry" 3 P__law_dry (sp__law_dry K) := by
  refine Has.of F sc__law_dry (fun vs H Q E h => ?_) (fun f cdv A outer s H0 vs Q E hr h => ?_)
  · obtain ⟨a_chart, v_chart, rfl, _⟩ := h
    rfl
  · obtain ⟨a_chart, v_chart, rfl, h_chart, hpre, kk⟩ := h
    have sc := sc__law_dry
    refine ⟨_, (pss_one (ps_ret (pe_lc (own := [("spot", 1)]) (g := gName 1) rfl sc.nd (pi_list (pe_user H__law_all (hr.mono (by decide)) rfl (pa_cons (pv 0) pa_nil))) (blkOk_by (N := N__law_dry) (sc := defScope s__law_dry) (by decide +kernel)) (fun _ _ _ _ _ => pg_name (i := 1) sc.nd rfl (Or.inl rfl)) (fun _ _ _ _ _ => (pts_one (pt_val (pe_user H__law_at (hr.mono (by decide)) rfl (pa_cons (pv 0) (pa_cons (pv 1) pa_nil)))))) (fun _ _ _ _ _ => (pv 1))))), ?_⟩
    have g0 : ef0.R 0 H0 H0 := ef0.refl H0
    have nS : ∀ {p : Addr}, H0 p = none → ¬ ef0.S p := fun _ z => z
    have hS : ∀ a, ef0.S a → ∃ o, H0 a = some o := fun _ z => z.elim
    refine st_ret (e := ef0) (er_lcF (isLd a_chart) (.inl (ev__law_all (er_var rfl h_chart) (hpre))) (allSq_small hpre) (fun _ => rfl) (fun a_spot v_spot _ _ m_spot gc h_spot => by have h_chart := PyI.tm (ef0.tup gc) h_chart; exact (et_BD (ev__law_at (er_var rfl h_chart) (er_var rfl h_spot) (hpre)))) (fun a_spot v_spot _ _ m_spot c_spot gc h_spot => by have h_chart := PyI.tm (ef0.tup gc) h_chart; exact (er_var rfl h_spot))) fun v Hg1 g1 r => ?_
    exact kk _ _ (ef0.trans g0 g1) (retL g0 r (by first | rfl | assumption))
def sp__law_sides (K : PySem.W.Frag) : Sp := fun vs H Q _ => ∃ (a_spot : Sq) (v_spot : V), vs = [v_spot] ∧ Rp H a_spot v_spot ∧ (True) ∧ ∀ v H', ef0.R 0 H H' → isL (sides a_spot) H H' v → Q v H'
theorem ev__law_sides {K : PySem.W.Frag} {e : Ef} {σ : L2.St} {H : Hp} {E : XK} {t0 : TE} {j0 : Nat} {a_spot : Sq} (h0 : EvR e j0 t0 σ H (isD a_spot)) : EvR e (j0 + 0) (tCall (sp__law_sides K) [] E (tCons t0 tNil)) σ H (isL (sides a_spot)) := er_call (k := 0) (ea1 h0) back_L fun l H1 H2 vs g g2 ⟨w0, ev, r0⟩ Q q E => ⟨a_spot, w0, ev, r0, True.intro, fun v H3 s r => q v H3 (e.ext s) r⟩
theorem ok__law_sides (F : At K mg "_law_sides" s__law_sides P__law_sides) (G : Glb mg)  : Has P w K mg base "_law_sides" 1 P__law_sides (sp__law_sides K) := by
  refine Has.of F sc__law_sides (fun vs H Q E h => ?_) (fun f cdv A outer s H0 vs Q E hr h => ?_)
  · obtain ⟨a_spot, v_spot, rfl, _⟩ := h
    rfl
  · obtain ⟨a_spot, v_spot, rfl, h_spot, hpre, kk⟩ := h
    have sc := sc__law_sides
    refine ⟨_, (pss_cons (ps_asg (pv 0) (pg_tup rfl (pgs_cons (pg_name (i := 1) sc.nd rfl (Or.inl rfl)) (pgs_cons (pg_name (i := 2) sc.nd rfl (Or.inl rfl)) pgs_nil))))
          (pss_one (ps_ret (pe_lst (pa_cons (pe_tup (pa_cons (pe_op op_sub (pv 1) pe_int) (pa_cons (pv 2) pa_nil))) (pa_cons (pe_tup (pa_cons (pv 1) (pa_cons (pe_op op_sub (pv 2) pe_int) pa_nil))) (pa_cons (pe_tup (pa_cons (pv 1) (pa_cons (pe_op op_add (pv 2) pe_int) pa_nil))) (pa_cons (pe_tup (pa_cons (pe_op op_add (pv 1) pe_int) (pa_cons (pv 2) pa_nil))) pa_nil)))))))), ?_⟩
    have g0 : ef0.R 0 H0 H0 := ef0.refl H0
    have nS : ∀ {p : Addr}, H0 p = none → ¬ ef0.S p := fun _ z => z
    have hS : ∀ a, ef0.S a → ∃ o, H0 a = some o := fun _ z => z.elim
    refine q_un2 (e := ef0) (er_var rfl h_spot) fun v_r v_c Hg1 g1 h_r h_c => ?_
    have h_spot := PyI.tm (ef0.tup g1) h_spot
    have g0 := ef0.trans g0 g1
    refine st_ret (e := ef0) (er_lst (eas_cons (er_pair (er_sub (er_var rfl h_r) er_int) (er_var rfl h_c)) (eas_cons (er_pair (er_var rfl h_r) (er_sub (er_var rfl h_c) er_int)) (eas_cons (er_pair (er_var rfl h_r) (er_add (er_var rfl h_c) er_int)) (eas_cons (er_pair (er_add (er_var rfl h_r) er_int) (er_var rfl h_c)) eas_nil)))) (by simp)) fun v Hg2 g2 r => ?_
    exact kk _ _ (ef0.trans g0 g2) (retL g0 r (by first | rfl | assumption))
def sp__law_whole (K : PySem.W.Frag) : Sp := fun vs H Q _ => ∃ (a_told : (Option Int)) (v_told : V), vs = [v_told] ∧ Rp H a_told v_told ∧ (True) ∧ ∀ v H', ef0.R 0 H H' → isD a_told.isSome H H' v → Q v H'
theorem ev__law_whole {K : PySem.W.Frag} {e : Ef} {σ : L2.St} {H : Hp} {E : XK} {t0 : TE} {j0 : Nat} {a_told : (Option Int)} (h0 : EvR e j0 t0 σ H (isD a_told)) : EvR e (j0 + 0) (tCall (sp__law_whole K) [] E (tCons t0 tNil)) σ H (isD a_told.isSome) := er_call (k := 0) (ea1 h0) back_D fun l H1 H2 vs g g2 ⟨w0, ev, r0⟩ Q q E => ⟨a_told, w0, ev, r0, True.intro, fun v H3 s r => q v H3 (e.ext s) r⟩
theorem ok__law_whole (F : At K mg "_law_whole" s__law_whole P__law_whole) (G : Glb mg)  : Has P w K mg base "_law_whole" 1 P__law_whole (sp__law_whole K) := by
  refine Has.of F sc__law_whole (fun vs H Q E h => ?_) (fun f cdv A outer s H0 vs Q E hr h => ?_)
  · obtain ⟨a_told, v_told, rfl, _⟩ := h
    rfl
  · obtain ⟨a_told, v_told, rfl, h_told, hpre, kk⟩ := h
    have sc := sc__law_whole
    refine ⟨_, (pss_one (ps_ret (pe_and (pe_callB call_isi (by rfl) G.isinstance (by decide +kernel) (pa_cons (pv 0) (pa_cons (pe_bltn (v := .ty "int") (u := .type "int") rfl G.int (by decide +kernel) rfl) pa_nil))) (pe_one (pe_not (pe_callB call_isi (by rfl) G.isinstance (by decide +kernel) (pa_cons (pv 0) (pa_cons (pe_bltn (v := .ty "bool") (u := .type "bool") rfl G.bool (by decide +kernel) rfl) pa_nil)))))))), ?_⟩
    have g0 : ef0.R 0 H0 H0 := ef0.refl H0
    have nS : ∀ {p : Addr}, H0 p = none → ¬ ef0.S p := fun _ z => z
    have hS : ∀ a, ef0.S a → ∃ o, H0 a = some o := fun _ z => z.elim
    refine st_ret (e := ef0) (er_andV (er_isiO_int (er_var rfl h_told)) fun hc => (er_notV (er_isiO_bool (er_var rfl h_told)))) fun v Hg1 g1 r => ?_
    exact kk _ _ (ef0.trans g0 g1) (retD r (by simp))
def sp__law_number (K : PySem.W.Frag) : Sp := fun vs H Q _ => ∃ (a_told : (Option Int)) (a_due : (Option Int)) (v_told v_due : V), vs = [v_told, v_due] ∧ Rp H a_told v_told ∧ Rp H a_due v_due ∧ (True) ∧ ∀ v H', ef0.R 0 H H' → isD (decide (a_told = a_due)) H H' v → Q v H'
theorem ev__law_number {K : PySem.W.Frag} {e : Ef} {σ : L2.St} {H : Hp} {E : XK} {t0 t1 : TE} {j0 j1 : Nat} {a_told : (Option Int)} {a_due : (Option Int)} (h0 : EvR e j0 t0 σ H (isD a_told)) (h1 : EvR e j1 t1 σ H (isD a_due)) : EvR e (j0 + j1 + 0) (tCall (sp__law_number K) [] E (tCons t0 (tCons t1 tNil))) σ H (isD (decide (a_told = a_due))) := er_call (k := 0) (ea2 h0 stay_D h1 back_D) back_D fun l H1 H2 vs g g2 ⟨w0, w1, ev, r0, r1⟩ Q q E => ⟨a_told, a_due, w0, w1, ev, r0, r1, True.intro, fun v H3 s r => q v H3 (e.ext s) r⟩
theorem ev__law_numberA {K : PySem.W.Frag} {e : Ef} {σ : L2.St} {H : Hp} {E : XK} {t0 t1 : TE} {j0 j1 : Nat} {P0 : (Option Int) → Prop} {P1 : (Option Int) → Prop} (h0 : EvR e j0 t0 σ H (isA P0)) (h1 : EvR e j1 t1 σ H (isA P1)) : EvR e (j0 + j1 + 0) (tCall (sp__law_number K) [] E (tCons t0 (tCons t1 tNil))) σ H (isA fun c : Bool => ∃ a_told a_due, P0 a_told ∧ P1 a_due ∧ c = decide (a_told = a_due)) := er_call (k := 0) (ea2 h0 stay_A h1 back_A) back_A fun l H1 H2 vs g g2 ⟨w0, w1, ev, ⟨x0, p0, r0⟩, ⟨x1, p1, r1⟩⟩ Q q E => ⟨x0, x1, w0, w1, ev, r0, r1, True.intro, fun v H3 s r => q v H3 (e.ext s) ⟨_, ⟨x0, x1, p0, p1, rfl⟩, r⟩⟩
theorem ok__law_number (F : At K mg "_law_number" s__law_number P__law_number) (G : Glb mg) (H__law_whole : Has P w K mg base "_law_whole" 1 P__law_whole (sp__law_whole K)) : Has P w K mg base "_law_number" 2 P__law_number (sp__law_number K) := by
  refine Has.of F sc__law_number (fun vs H Q E h => ?_) (fun f cdv A outer s H0 vs Q E hr h => ?_)
  · obtain ⟨a_told, a_due, v_told, v_due, rfl, _⟩ := h
    rfl
  · obtain ⟨a_told, a_due, v_told, v_due, rfl, h_told, h_due, hpre, kk⟩ := h
    have sc := sc__law_number
    refine ⟨_, (pss_cons (ps_if (pt_cmp (pc_isN (pv 1))) (pss_one (ps_ret (pe_cmp (pc_isN (pv 0))))) pss_nil)
          (pss_one (ps_ret (pe_and (pe_user H__law_whole (hr.mono (by decide)) rfl (pa_cons (pv 0) pa_nil)) (pe_one (pe_cmpR op_eq (pv 0) (pv 1) (nomark _))))))), ?_⟩
    have g0 : ef0.R 0 H0 H0 := ef0.refl H0
    have nS : ∀ {p : Addr}, H0 p = none → ¬ ef0.S p := fun _ z => z
    have hS : ∀ a, ef0.S a → ∃ o, H0 a = some o := fun _ z => z.elim
    refine q_if (e := ef0) (et_BD (er_isN (er_var rfl h_due))) (fun cc1 Hc1 gc1 => ?_) (fun cc1 Hc1 gc1 => ?_)
    ·
      have h_told := PyI.tm (ef0.tup gc1) h_told
      have h_due := PyI.tm (ef0.tup gc1) h_due
      have g0 := ef0.trans g0 gc1
      refine st_ret (e := ef0) (er_isN (er_var rfl h_told)) fun v Hg2 g2 r => ?_
      exact kk _ _ (ef0.trans g0 g2) (retD r (num_none cc1))
    ·
      have h_told := PyI.tm (ef0.tup gc1) h_told
      have h_due := PyI.tm (ef0.tup gc1) h_due
      have g0 := ef0.trans g0 gc1
      refine st_next ?_
      refine st_ret (e := ef0) (er_andV (ev__law_whole (er_var rfl h_told)) fun hc => (er_eqO (er_var rfl h_told) (er_var rfl h_due) (hc) (due_some cc1))) fun v Hg3 g3 r => ?_
      exact kk _ _ (ef0.trans g0 g3) (retD r (num_some cc1))
def sp__law_far (K : PySem.W.Frag) : Sp := fun vs H Q _ => ∃ (a_chart : (List Str)) (a_a : Sq) (v_chart v_a : V), vs = [v_chart, v_a] ∧ Rp H a_chart v_chart ∧ Rp H a_a v_a ∧ (Ch a_chart ∧ isLd a_chart a_a = true) ∧ ∀ v H', ef0.R 0 H H' → isDctA (Far a_chart a_a) H H' v → Q v H'
theorem ev__law_far {K : PySem.W.Frag} {e : Ef} {σ : L2.St} {H : Hp} {E : XK} {t0 t1 : TE} {j0 j1 : Nat} {a_chart : (List Str)} {a_a : Sq} (h0 : EvR e j0 t0 σ H (isD a_chart)) (h1 : EvR e j1 t1 σ H (isD a_a)) (hp : Ch a_chart ∧ isLd a_chart a_a = true) : EvR e (j0 + j1 + 0) (tCall (sp__law_far K) [] E (tCons t0 (tCons t1 tNil))) σ H (isDctA (Far a_chart a_a)) := er_call (k := 0) (ea2 h0 stay_D h1 back_D) back_dctA fun l H1 H2 vs g g2 ⟨w0, w1, ev, r0, r1⟩ Q q E => ⟨a_chart, a_a, w0, w1, ev, r0, r1, hp, fun v H3 s r => q v H3 (e.ext s) r⟩
theorem ok__law_far (F : At K mg "_law_far" s__law_far P__law_far) (G : Glb mg) (H__law_at : Has P w K mg base "_law_at" 2 P__law_at (sp__law_at K)) (H__law_sides : Has P w K mg base "_law_sides" 1 P__law_sides (sp__law_sides K)) : Has P w K mg base "_law_far" 3 P__law_far (sp__law_far K) := by
  refine Has.of F sc__law_far (fun vs H Q E h => ?_) (fun f cdv A outer s H0 vs Q E hr h => ?_)
  · obtain ⟨a_chart, a_a, v_chart, v_a, rfl, _⟩ := h
    rfl
  · obtain ⟨a_chart, a_a, v_chart, v_a, rfl, h_chart, h_a, hpre, kk⟩ := h
    have sc := sc__law_far
    refine ⟨_, (pss_cons (ps_set (i := 2) sc.nd rfl (Or.inl rfl) (pe_disp1T (hu_of hr) (pv 1) pe_int))
          (pss_cons (ps_set (i := 3) sc.nd rfl (Or.inl rfl) (pe_lst (pa_cons (pv 1) pa_nil)))
          (pss_cons (ps_for PassesOwn.never rfl (pi_range1 rfl G.range (pa_cons (pe_op op_mul (pe_callB call_len_seq (by rfl) G.len PySem.boot_len (pa_cons (pv 0) pa_nil)) (pe_callB call_len_str (by rfl) G.len PySem.boot_len (pa_cons (pe_ix ix_tup (pv 0) pe_int (fun _ _ => rfl)) pa_nil))) pa_nil)) (pg_name (i := 4) sc.nd rfl (Or.inl rfl))
          (pss_one (ps_if (pt_cmpR op_lt (pv 4) (pe_callB call_len_seq (by rfl) G.len PySem.boot_len (pa_cons (pv 3) pa_nil)) (nomark _)) (pss_cons (ps_set (i := 5) sc.nd rfl (Or.inl rfl) (pe_ix ix_list (pv 3) (pv 4) (fun _ _ => rfl)))
          (pss_one (ps_for PassesOwn.never rfl (pi_list (pe_user H__law_sides (hr.mono (by decide)) rfl (pa_cons (pv 5) pa_nil))) (pg_name (i := 6) sc.nd rfl (Or.inl rfl))
          (pss_one (ps_if (PW.pt (pw_and (pt_cmp (pc_dnotin (hu_of hr) (pv 6) (pv 2))) (pw_and1 (pt_val (pe_user H__law_at (hr.mono (by decide)) rfl (pa_cons (pv 0) (pa_cons (pv 6) pa_nil))))))) (pss_cons (ps_dput (hu_of hr) (pv 2) (pv 6) (pe_op op_add (pe_dget (hu_of hr) (pv 2) (pv 5) (fun _ _ => rfl)) pe_int) rfl)
          (pss_one (ps_expr (pe_bm PySem.F.plainAttrs_list PySem.F.slot_list_append PySem.F.type_list_append mt_append (pv 3) (pa_cons (pv 6) pa_nil))))) pss_nil))))) pss_nil)))
          (pss_one (ps_ret (pv 2)))))), ?_⟩
    have g0 : ef0.R 0 H0 H0 := ef0.refl H0
    have nS : ∀ {p : Addr}, H0 p = none → ¬ ef0.S p := fun _ z => z
    have hS : ∀ a, ef0.S a → ∃ o, H0 a = some o := fun _ z => z.elim
    have hSc := live_of hS g0
    refine q_asg (e := ef0) (er_disp1 hSc (er_var rfl h_a) er_int) fun v_far Hg1 g1 ⟨p_far, e_far, hn_far, hp_far⟩ => ?_
    subst e_far
    have hn_far := ef0.free g0 hn_far
    have h_chart := PyI.tm (ef0.tup g1) h_chart
    have h_a := PyI.tm (ef0.tup g1) h_a
    have g0 := ef0.trans g0 g1
    refine q_asg (e := ef0) (er_lst (eas_cons (er_var rfl h_a) eas_nil) (by simp)) fun v_met Hg2 g2 ⟨p_met, vs_met, e_met, hn_met, hp_met, hr_met⟩ => ?_
    subst e_met
    have ne_far_met := ne_of_none hp_far hn_met
    have hn_met := ef0.free g0 hn_met
    have h_chart := PyI.tm (ef0.tup g2) h_chart
    have h_a := PyI.tm (ef0.tup g2) h_a
    have hp_far := ef0.oth g2 _ _ hp_far (nS hn_far)
    have g0 := ef0.trans g0 g2
    refine q_forR1C (e := ef0) (ea1v (er_mul (er_lenT (er_var rfl h_chart)) (er_lenS (er_ixT (er_var rfl h_chart) er_int (hpre.1.ok0)) (hpre.1.wl0)) (area_mul hpre.1))) (area_hi hpre.1) (area_lo _) fun Hl0 g3 => ?_
    have h_chart := PyI.tm (ef0.tup g3) h_chart
    have h_a := PyI.tm (ef0.tup g3) h_a
    have hp_far := ef0.oth g3 _ _ hp_far (nS hn_far)
    have hp_met := ef0.oth g3 _ _ hp_met (nS hn_met)
    have hr_met := Rps.tm (ef0.tup g3) hr_met
    have g0 := ef0.trans g0 g3
    refine ⟨?Pv0, ?h0_0, fun i0 σ0 Hi0 hi0 hP0 => ?hs_0, fun σ0 Hi0 hP0 => ?hd_0⟩
    case Pv0 => exact fun i σ' H' => ∃ (xs_met : List Sq) (vs_met : List V) (xs_far : List (Sq × Int)) (o_at : Option V) (o_last : Option V) (o_spot : Option V), σ' = [some v_chart, some v_a, some (.ref p_far), some (.ref p_met), o_at, o_last, o_spot] ∧ ef0.R 0 H0 H' ∧ Tg Hl0 H' ∧ H' p_met = some (.lst vs_met) ∧ Rps H' xs_met vs_met ∧ H' p_far = some (.dT (DI xs_far)) ∧ xs_met = xs_far.map (·.1) ∧ Bfs a_chart a_a xs_far (min i xs_far.length)
    case h0_0 =>
      refine ⟨_, _, _, _, _, _, rfl, g0, Tg.refl _, hp_met, hr_met, hp_far, ?_⟩
      · exact ⟨rfl, by rw [Nat.zero_min]; exact Bfs.start hpre.2⟩
    case hs_0 =>
      obtain ⟨xs_met, vs_met, xs_far, o_at, o_last, o_spot, rfl, g0, tg0, hp_met, hr_met, hp_far, hI0⟩ := hP0
      have h_chart := PyI.tm tg0 h_chart
      have h_a := PyI.tm tg0 h_a
      obtain ⟨v_at, ev_at⟩ : ∃ v : V, v = V.int (i0 : Int) := ⟨_, rfl⟩
      rw [← ev_at]
      have h_at : Rp Hi0 (i0 : Int) v_at := ev_at
      obtain ⟨eqq, hB⟩ := hI0
      subst eqq
      have hkl := keys_len hB
      have har := area_le hpre.1
      refine st_if (e := ef0) (et_tD (er_lt (er_var rfl h_at) (er_lenL (er_varL rfl (lsr_of hp_met (nS hn_met) hr_met))))) (fun cc4 Hc4 gc4 => ?_) (fun cc4 Hc4 gc4 => ?_)
      ·
        have h_chart := PyI.tm (ef0.tup gc4) h_chart
        have h_a := PyI.tm (ef0.tup gc4) h_a
        have hp_far := ef0.oth gc4 _ _ hp_far (nS hn_far)
        have hp_met := ef0.oth gc4 _ _ hp_met (nS hn_met)
        have hr_met := Rps.tm (ef0.tup gc4) hr_met
        have h_at := PyI.tm (ef0.tup gc4) h_at
        have tg0 := tg0.trans (ef0.tup gc4)
        have g0 := ef0.trans g0 gc4
        have hlt : i0 < xs_far.length := by have := of_decide_eq_true cc4.symm; rw [List.length_map] at this; omega
        rw [Nat.min_eq_left (Nat.le_of_lt hlt)] at hB
        obtain ⟨⟨c, d⟩, hcd⟩ : ∃ p, xs_far[i0]? = some p := ⟨_, List.getElem?_eq_getElem hlt⟩
        have hix := ixD_fst hcd
        refine q_asg (e := ef0) (er_ixL (er_varL rfl (lsr_of hp_met (nS hn_met) hr_met)) (er_var rfl h_at) (by rw [List.length_map]; exact ⟨by omega, by omega⟩)) fun v_last Hg5 g5 h_last => ?_
        have h_chart := PyI.tm (ef0.tup g5) h_chart
        have h_a := PyI.tm (ef0.tup g5) h_a
        have hp_far := ef0.oth g5 _ _ hp_far (nS hn_far)
        have hp_met := ef0.oth g5 _ _ hp_met (nS hn_met)
        have hr_met := Rps.tm (ef0.tup g5) hr_met
        have h_at := PyI.tm (ef0.tup g5) h_at
        have tg0 := tg0.trans (ef0.tup g5)
        have g0 := ef0.trans g0 g5
        rw [hix] at h_last
        refine st_forN (e := ef0) (ev__law_sides (er_var rfl h_last)) fun p_it1 vs_it1 Hl1 g6 hn_it1 hp_it1 hr_it1 => ?_
        have ne_far_it1 := ne_of_none hp_far hn_it1
        have ne_met_it1 := ne_of_none hp_met hn_it1
        have hn_it1 := ef0.free g0 hn_it1
        have h_chart := PyI.tm (ef0.tup g6) h_chart
        have h_a := PyI.tm (ef0.tup g6) h_a
        have hp_far := ef0.oth g6 _ _ hp_far (nS hn_far)
        have hp_met := ef0.oth g6 _ _ hp_met (nS hn_met)
        have hr_met := Rps.tm (ef0.tup g6) hr_met
        have h_at := PyI.tm (ef0.tup g6) h_at
        have h_last := PyI.tm (ef0.tup g6) h_last
        have tg0 := tg0.trans (ef0.tup g6)
        have g0 := ef0.trans g0 g6
        refine ⟨?Pv1, ?h0_1, fun i1 σ1 Hi1 hP1 => ?hl_1, fun i1 a_spot v_spot σ1 Hi1 hi1 ra1 hP1 => ?hs_1, fun σ1 Hi1 hP1 => ?hd_1⟩
        case Pv1 => exact fun i σ' H' => ∃ (xs_met : List Sq) (vs_met : List V) (xs_far : List (Sq × Int)) (o_spot : Option V), σ' = [some v_chart, some v_a, some (.ref p_far), some (.ref p_met), some v_at, some v_last, o_spot] ∧ ef0.R 0 H0 H' ∧ Tg Hl1 H' ∧ H' p_met = some (.lst vs_met) ∧ Rps H' xs_met vs_met ∧ H' p_far = some (.dT (DI xs_far)) ∧ H' p_it1 = some (.lst vs_it1) ∧ xs_met = xs_far.map (·.1) ∧ BfsI a_chart a_a xs_far i0 c d (sides c) i
        case h0_1 =>
          refine ⟨_, _, _, _, rfl, g0, Tg.refl _, hp_met, hr_met, hp_far, hp_it1, ?_⟩
          · exact ⟨rfl, hB.open hcd⟩
        case hl_1 =>
          obtain ⟨xs_met, vs_met, xs_far, o_spot, rfl, g0, tg1, hp_met, hr_met, hp_far, hp_it1, hI1⟩ := hP1
          exact hp_it1
        case hs_1 =>
          obtain ⟨xs_met, vs_met, xs_far, o_spot, rfl, g0, tg1, hp_met, hr_met, hp_far, hp_it1, hI1⟩ := hP1
          have h_chart := PyI.tm tg1 h_chart
          have h_a := PyI.tm tg1 h_a
          have h_at := PyI.tm tg1 h_at
          have h_last := PyI.tm tg1 h_last
          have hr_it1 := Rps.tm tg1 hr_it1
          have tg0 := tg0.trans tg1
          have h_spot := PyI.tm tg1 ra1
          obtain ⟨eqq, hB1⟩ := hI1
          subst eqq
          have hkl1 := keys_len hB1.toBfs
          have hget := getK_of hB1.nd (List.mem_of_getElem? hB1.cur)
          refine st_if (e := ef0) (et_andD (et_BD (er_dnotin rfl hp_far (nS hn_far) (er_var rfl h_spot))) fun hc => (et_BD (ev__law_at (er_var rfl h_chart) (er_var rfl h_spot) (hpre.1)))) (fun cc7 Hc7 gc7 => ?_) (fun cc7 Hc7 gc7 => ?_)
          ·
            have h_chart := PyI.tm (ef0.tup gc7) h_chart
            have h_a := PyI.tm (ef0.tup gc7) h_a
            have hp_far := ef0.oth gc7 _ _ hp_far (nS hn_far)
            have hp_met := ef0.oth gc7 _ _ hp_met (nS hn_met)
            have hr_met := Rps.tm (ef0.tup gc7) hr_met
            have h_at := PyI.tm (ef0.tup gc7) h_at
            have h_last := PyI.tm (ef0.tup gc7) h_last
            have h_spot := PyI.tm (ef0.tup gc7) h_spot
            have hp_it1 := ef0.oth gc7 _ _ hp_it1 (nS hn_it1)
            have hr_it1 := Rps.tm (ef0.tup gc7) hr_it1
            have tg0 := tg0.trans (ef0.tup gc7)
            have tg1 := tg1.trans (ef0.tup gc7)
            have g0 := ef0.trans g0 gc7
            have hn := and_l cc7
            have hl := and_r cc7
            refine q_dput (e := ef0) rfl hp_far (nS hn_far) (by omega) (er_add (er_dget rfl hp_far (nS hn_far) (er_var rfl h_last) (hget.1)) er_int) (er_var rfl h_spot) hn fun Hg8 Hcg8 g8 cg8 => ?_
            have h_chart := PyI.tm (ef0.tup g8) h_chart
            have h_a := PyI.tm (ef0.tup g8) h_a
            have hp_far := ef0.oth g8 _ _ hp_far (nS hn_far)
            have hp_met := ef0.oth g8 _ _ hp_met (nS hn_met)
            have hr_met := Rps.tm (ef0.tup g8) hr_met
            have h_at := PyI.tm (ef0.tup g8) h_at
            have h_last := PyI.tm (ef0.tup g8) h_last
            have h_spot := PyI.tm (ef0.tup g8) h_spot
            have hp_it1 := ef0.oth g8 _ _ hp_it1 (nS hn_it1)
            have hr_it1 := Rps.tm (ef0.tup g8) hr_it1
            have tg0 := tg0.trans (ef0.tup g8)
            have tg1 := tg1.trans (ef0.tup g8)
            have g0 := ef0.trans g0 g8
            have h_chart := PyI.tm cg8.t h_chart
            have h_a := PyI.tm cg8.t h_a
            have hp_met := cg8.lst ne_far_met.symm hp_met
            have hr_met := Rps.tm cg8.t hr_met
            have h_at := PyI.tm cg8.t h_at
            have h_last := PyI.tm cg8.t h_last
            have h_spot := PyI.tm cg8.t h_spot
            have hp_it1 := cg8.lst ne_far_it1.symm hp_it1
            have hr_it1 := Rps.tm cg8.t hr_it1
            have tg0 := tg0.trans cg8.t
            have tg1 := tg1.trans cg8.t
            have g0 := cg8.g g0 hn_far
            have hp_far := cg8.here
            refine st_appC (e := ef0) rfl hp_met (nS hn_met) (by rw [← hr_met.len, List.length_map]; omega) (er_var rfl h_spot) fun v Hg9 Hcg9 g9 r cg9 => ?_
            have h_chart := PyI.tm (ef0.tup g9) h_chart
            have h_a := PyI.tm (ef0.tup g9) h_a
            have hp_far := ef0.oth g9 _ _ hp_far (nS hn_far)
            have hp_met := ef0.oth g9 _ _ hp_met (nS hn_met)
            have hr_met := Rps.tm (ef0.tup g9) hr_met
            have h_at := PyI.tm (ef0.tup g9) h_at
            have h_last := PyI.tm (ef0.tup g9) h_last
            have h_spot := PyI.tm (ef0.tup g9) h_spot
            have hp_it1 := ef0.oth g9 _ _ hp_it1 (nS hn_it1)
            have hr_it1 := Rps.tm (ef0.tup g9) hr_it1
            have tg0 := tg0.trans (ef0.tup g9)
            have tg1 := tg1.trans (ef0.tup g9)
            have g0 := ef0.trans g0 g9
            have h_chart := PyI.tm cg9.t h_chart
            have h_a := PyI.tm cg9.t h_a
            have hp_far := cg9.lst ne_far_met hp_far
            have h_at := PyI.tm cg9.t h_at
            have h_last := PyI.tm cg9.t h_last
            have h_spot := PyI.tm cg9.t h_spot
            have hp_it1 := cg9.lst ne_met_it1.symm hp_it1
            have hr_it1 := Rps.tm cg9.t hr_it1
            have tg0 := tg0.trans cg9.t
            have tg1 := tg1.trans cg9.t
            have g0 := cg9.g g0 hn_met
            have hp_met := cg9.here
            have hr_met := Rps.snoc (Rps.tm cg9.t hr_met) (PyI.tm cg9.t r)
            refine ⟨_, _, _, _, rfl, g0, tg1, hp_met, hr_met, hp_far, hp_it1, ?_⟩
            · exact ⟨by simp, by rw [hget.2]; exact hB1.new hi1 (List.mem_of_getElem? hi1) hl hn⟩
          ·
            have h_chart := PyI.tm (ef0.tup gc7) h_chart
            have h_a := PyI.tm (ef0.tup gc7) h_a
            have hp_far := ef0.oth gc7 _ _ hp_far (nS hn_far)
            have hp_met := ef0.oth gc7 _ _ hp_met (nS hn_met)
            have hr_met := Rps.tm (ef0.tup gc7) hr_met
            have h_at := PyI.tm (ef0.tup gc7) h_at
            have h_last := PyI.tm (ef0.tup gc7) h_last
            have h_spot := PyI.tm (ef0.tup gc7) h_spot
            have hp_it1 := ef0.oth gc7 _ _ hp_it1 (nS hn_it1)
            have hr_it1 := Rps.tm (ef0.tup gc7) hr_it1
            have tg0 := tg0.trans (ef0.tup gc7)
            have tg1 := tg1.trans (ef0.tup gc7)
            have g0 := ef0.trans g0 gc7
            refine st_next ?_
            have hh := and_no cc7
            refine ⟨_, _, _, _, rfl, g0, tg1, hp_met, hr_met, hp_far, hp_it1, ?_⟩
            · exact ⟨rfl, hB1.old hi1 hh⟩
        case hd_1 =>
          obtain ⟨xs_met, vs_met, xs_far, o_spot, rfl, g0, tg1, hp_met, hr_met, hp_far, hp_it1, hI1⟩ := hP1
          have h_chart := PyI.tm tg1 h_chart
          have h_a := PyI.tm tg1 h_a
          have h_at := PyI.tm tg1 h_at
          have h_last := PyI.tm tg1 h_last
          have hr_it1 := Rps.tm tg1 hr_it1
          have tg0 := tg0.trans tg1
          obtain ⟨eqq, hB1⟩ := hI1
          subst eqq
          have hB2 := hB1.close fun q h1 h2 => h1
          refine ⟨_, _, _, _, _, _, rfl, g0, tg0, hp_met, hr_met, hp_far, ?_⟩
          · exact ⟨rfl, by rw [Nat.min_eq_left hB2.le]; exact hB2⟩
      ·
        have h_chart := PyI.tm (ef0.tup gc4) h_chart
        have h_a := PyI.tm (ef0.tup gc4) h_a
        have hp_far := ef0.oth gc4 _ _ hp_far (nS hn_far)
        have hp_met := ef0.oth gc4 _ _ hp_met (nS hn_met)
        have hr_met := Rps.tm (ef0.tup gc4) hr_met
        have h_at := PyI.tm (ef0.tup gc4) h_at
        have tg0 := tg0.trans (ef0.tup gc4)
        have g0 := ef0.trans g0 gc4
        refine st_next ?_
        have hge : ¬ i0 < xs_far.length := by have := of_decide_eq_false cc4.symm; rw [List.length_map] at this; omega
        refine ⟨_, _, _, _, _, _, rfl, g0, tg0, hp_met, hr_met, hp_far, ?_⟩
        · exact ⟨rfl, by rw [Nat.min_eq_right (by omega)] at hB ⊢; exact hB⟩
    case hd_0 =>
      obtain ⟨xs_met, vs_met, xs_far, o_at, o_last, o_spot, rfl, g0, tg0, hp_met, hr_met, hp_far, hI0⟩ := hP0
      have h_chart := PyI.tm tg0 h_chart
      have h_a := PyI.tm tg0 h_a
      obtain ⟨eqq, hB⟩ := hI0
      have hkl := keys_len hB
      refine st_retV rfl ?_
      exact kk _ _ (g0) (retDctA hn_far hp_far (hB.far (far_end hkl)))
def sp__law_set (K : PySem.W.Frag) : Sp := fun vs H Q _ => ∃ (a_chart : (List Str)) (a_spot : Sq) (a_sign : Str) (v_chart v_spot v_sign : V), vs = [v_chart, v_spot, v_sign] ∧ Rp H a_chart v_chart ∧ Rp H a_spot v_spot ∧ Rp H a_sign v_sign ∧ (Ch a_chart ∧ isSq a_chart a_spot = true ∧ a_sign = "x") ∧ ∀ v H', ef0.R 0 H H' → isA (SetOk a_chart a_spot) H H' v → Q v H'
theorem ev__law_set {K : PySem.W.Frag} {e : Ef} {σ : L2.St} {H : Hp} {E : XK} {t0 t1 t2 : TE} {j0 j1 j2 : Nat} {a_chart : (List Str)} {a_spot : Sq} {a_sign : Str} (h0 : EvR e j0 t0 σ H (isD a_chart)) (h1 : EvR e j1 t1 σ H (isD a_spot)) (h2 : EvR e j2 t2 σ H (isD a_sign)) (hp : Ch a_chart ∧ isSq a_chart a_spot = true ∧ a_sign = "x") : EvR e (j0 + j1 + j2 + 0) (tCall (sp__law_set K) [] E (tCons t0 (tCons t1 (tCons t2 tNil)))) σ H (isA (SetOk a_chart a_spot)) := er_call (k := 0) (ea3 h0 stay_D h1 stay_D back_D h2 back_D) back_A fun l H1 H2 vs g g2 ⟨w0, w1, w2, ev, r0, r1, r2⟩ Q q E => ⟨a_chart, a_spot, a_sign, w0, w1, w2, ev, r0, r1, r2, hp, fun v H3 s r => q v H3 (e.ext s) r⟩
theorem ev__law_setA {K : PySem.W.Frag} {e : Ef} {σ : L2.St} {H : Hp} {E : XK} {t0 t1 t2 : TE} {j0 j1 j2 : Nat} {P0 : (List Str) → Prop} {P1 : Sq → Prop} {P2 : Str → Prop} (h0 : EvR e j0 t0 σ H (isA P0)) (h1 : EvR e j1 t1 σ H (isA P1)) (h2 : EvR e j2 t2 σ H (isA P2)) (hp : ∀ a_chart a_spot a_sign, P0 a_chart → P1 a_spot → P2 a_sign → Ch a_chart ∧ isSq a_chart a_spot = true ∧ a_sign = "x") : EvR e (j0 + j1 + j2 + 0) (tCall (sp__law_set K) [] E (tCons t0 (tCons t1 (tCons t2 tNil)))) σ H (isA fun c : (List Str) => ∃ a_chart a_spot a_sign, P0 a_chart ∧ P1 a_spot ∧ P2 a_sign ∧ SetOk a_chart a_spot c) := er_call (k := 0) (ea3 h0 stay_A h1 stay_A back_A h2 back_A) back_A fun l H1 H2 vs g g2 ⟨w0, w1, w2, ev, ⟨x0, p0, r0⟩, ⟨x1, p1, r1⟩, ⟨x2, p2, r2⟩⟩ Q q E => ⟨x0, x1, x2, w0, w1, w2, ev, r0, r1, r2, hp x0 x1 x2 p0 p1 p2, fun v H3 s r => q v H3 (e.ext s) (by obtain ⟨c, hc, rc⟩ := r; exact ⟨c, ⟨x0, x1, x2, p0, p1, p2, hc⟩, rc⟩)⟩
theorem ok__law_set (F : At K mg "_law_set" s__law_set P__law_set) (G : Glb mg)  : Has P w K mg base "_law_set" 1 P__law_set (sp__law_set K) := by
  refine Has.of F sc__law_set (fun vs H Q E h => ?_) (fun f cdv A outer s H0 vs Q E hr h => ?_)
  · obtain ⟨a_chart, a_spot, a_sign, v_chart, v_spot, v_sign, rfl, _⟩ := h
    rfl
  · obtain ⟨a_chart, a_spot, a_sign, v_chart, v_spot, v_sign, rfl, h_chart, h_spot, h_sign, hpre, kk⟩ := h
    have sc := sc__law_set
    refine ⟨_, (pss_cons (ps_asg (pv 1) (pg_tup rfl (pgs_cons (pg_name (i := 3) sc.nd rfl (Or.inl rfl)) (pgs_cons (pg_name (i := 4) sc.nd rfl (Or.inl rfl)) pgs_nil))))
          (pss_one (ps_ret (pe_op op_catA (pe_op op_catA (pe_slice sl_tupA (pv 0) po_none (po_some (pv 3))) (pe_tup (pa_cons (pe_op op_add_str (pe_op op_add_str (pe_slice sl_str (pe_ix ix_tup (pv 0) (pv 3) (fun _ _ => rfl)) po_none (po_some (pv 4))) (pv 2)) (pe_slice sl_str (pe_ix ix_tup (pv 0) (pv 3) (fun _ _ => rfl)) (po_some (pe_op op_add (pv 4) pe_int)) po_none)) pa_nil))) (pe_slice sl_tupA (pv 0) (po_some (pe_op op_add (pv 3) pe_int)) po_none))))), ?_⟩
    have g0 : ef0.R 0 H0 H0 := ef0.refl H0
    have nS : ∀ {p : Addr}, H0 p = none → ¬ ef0.S p := fun _ z => z
    have hS : ∀ a, ef0.S a → ∃ o, H0 a = some o := fun _ z => z.elim
    refine q_un2 (e := ef0) (er_var rfl h_spot) fun v_r v_c Hg1 g1 h_r h_c => ?_
    have h_chart := PyI.tm (ef0.tup g1) h_chart
    have h_spot := PyI.tm (ef0.tup g1) h_spot
    have h_sign := PyI.tm (ef0.tup g1) h_sign
    have g0 := ef0.trans g0 g1
    refine st_ret (e := ef0) (er_catA (er_catA (er_slA (er_var rfl h_chart) eo_none (eo_some (er_var rfl h_r))) (er_tup (eas_cons (er_lcat (er_lcat (er_slS (er_ixT (er_var rfl h_chart) (er_var rfl h_r) (hpre.1.ok1 hpre.2.1)) eo_none (eo_some (er_var rfl h_c)) (hpre.1.wl1 hpre.2.1)) (er_var rfl h_sign) (set_ob1 hpre.1 hpre.2.1 hpre.2.2)) (er_slS (er_ixT (er_var rfl h_chart) (er_var rfl h_r) (hpre.1.ok1 hpre.2.1)) (eo_some (er_add (er_var rfl h_c) er_int)) eo_none (hpre.1.wl1 hpre.2.1)) (set_ob2 hpre.1 hpre.2.1 hpre.2.2)) eas_nil) (by simp)) (set_ob3 hpre.1 hpre.2.1)) (er_slA (er_var rfl h_chart) (eo_some (er_add (er_var rfl h_r) er_int)) eo_none) (set_ob4 hpre.1 hpre.2.1)) fun v Hg2 g2 r => ?_
    exact kk _ _ (ef0.trans g0 g2) (retA r (set_ok hpre.1 hpre.2.1 hpre.2.2))
theorem ok__law_deal (F : At K mg "_law_deal" s__law_deal P__law_deal) (G : Glb mg)  : Has P w K mg base "_law_deal" 1 P__law_deal (sp_deal K) := by
  refine Has.of F sc__law_deal (fun vs H Q E h => ?_) (fun f cdv A outer s H0 vs Q E hr h => ?_)
  · obtain ⟨a_script, ns, rfl, _⟩ := h
    rfl
  · obtain ⟨a_script, ns, rfl, h_script, hpre, kk⟩ := h
    have sc := sc__law_deal
    refine ⟨_, (pss_cons (ps_set (i := 1) sc.nd rfl (Or.inl rfl) (pe_lst pa_nil))
          (pss_cons (ps_for PassesOwn.never rfl (pi_range1 rfl G.range (pa_cons (pe_callB (call_min2 rfl) (by rfl) G.min (by decide +kernel) (pa_cons (pe_callB call_len_seq (by rfl) G.len PySem.boot_len (pa_cons (pv 0) pa_nil)) (pa_cons pe_int pa_nil))) pa_nil)) (pg_name (i := 2) sc.nd rfl (Or.inl rfl))
          (pss_cons (ps_set (i := 3) sc.nd rfl (Or.inl rfl) (pe_callB call_abs (by rfl) G.abs (by decide +kernel) (pa_cons (pe_callTy call_int1 (by rfl) G.int (by decide +kernel) (pa_cons (pe_ix ix_list (pv 0) (pv 2) (fun _ _ => rfl)) pa_nil)) pa_nil)))
          (pss_one (ps_if (pt_cmpR op_ge (pv 3) (pe_op op_pow pe_int pe_int) (nomark _)) (pss_one (ps_for PassesOwn.never rfl (pi_range1 rfl G.range (pa_cons pe_int pa_nil)) (pg_name (i := 4) sc.nd rfl (Or.inl rfl))
          (pss_one (ps_if (pt_cmpR op_gt (pv 3) pe_int (nomark _)) (pss_cons (ps_expr (pe_bm PySem.F.plainAttrs_list PySem.F.slot_list_append PySem.F.type_list_append mt_append (pv 1) (pa_cons (pe_op op_mod (pv 3) pe_int) pa_nil)))
          (pss_one (ps_set (i := 3) sc.nd rfl (Or.inl rfl) (pe_op op_fdiv (pv 3) pe_int)))) pss_nil)))) (pss_cons (ps_set (i := 3) sc.nd rfl (Or.inl rfl) (pe_op op_add (pe_op op_add (pe_op op_mul (pe_op op_mod (pv 3) pe_int) pe_int) (pe_op op_mul (pv 2) pe_int)) pe_int))
          (pss_one (ps_for PassesOwn.never rfl (pi_range1 rfl G.range (pa_cons pe_int pa_nil)) (pg_name (i := 4) sc.nd rfl (Or.inl rfl))
          (pss_cons (ps_set (i := 3) sc.nd rfl (Or.inl rfl) (pe_op op_mod (pe_op op_add (pe_op op_add (pe_op op_mul (pv 3) pe_int) pe_int) (pv 4)) pe_int))
          (pss_one (ps_expr (pe_bm PySem.F.plainAttrs_list PySem.F.slot_list_append PySem.F.type_list_append mt_append (pv 1) (pa_cons (pe_op op_mod (pe_op op_fdiv (pv 3) pe_int) pe_int) pa_nil))))))))))))
          (pss_cons (ps_set (i := 5) sc.nd rfl (Or.inl rfl) (pe_op op_add (pe_callB (cr_sum rfl) (by rfl) G.sum (by decide +kernel) (pa_cons (pv 1) pa_nil)) (pe_callB call_len_seq (by rfl) G.len PySem.boot_len (pa_cons (pv 0) pa_nil))))
          (pss_one (ps_ret (pe_lst (pa_cons (pv 1) (pa_cons (pe_lst (pa_cons pe_int pa_nil)) (pa_cons (pv 5) pa_nil))))))))), ?_⟩
    have g0 : ef0.R 0 H0 H0 := ef0.refl H0
    have nS : ∀ {p : Addr}, H0 p = none → ¬ ef0.S p := fun _ z => z
    have hS : ∀ a, ef0.S a → ∃ o, H0 a = some o := fun _ z => z.elim
    refine q_asg (e := ef0) (er_lst (eas_nil (α := Int)) (by simp)) fun v_row Hg1 g1 ⟨p_row, vs_row, e_row, hn_row, hp_row, hr_row⟩ => ?_
    subst e_row
    have hn_row := ef0.free g0 hn_row
    have g0 := ef0.trans g0 g1
    refine q_forR1C (e := ef0) (ea1v (er_min2 (er_lenQ rfl (sqL_go g0 h_script)) er_int)) (by split <;> omega) (by split <;> omega) fun Hl0 g2 => ?_
    have hp_row := ef0.oth g2 _ _ hp_row (nS hn_row)
    have hr_row := Rps.tm (ef0.tup g2) hr_row
    have g0 := ef0.trans g0 g2
    refine ⟨?Pv0, ?h0_0, fun i0 σ0 Hi0 hi0 hP0 => ?hs_0, fun σ0 Hi0 hP0 => ?hd_0⟩
    case Pv0 => exact fun i σ' H' => ∃ (xs_row : List Int) (vs_row : List V) (o_k : Option V) (o_cell : Option V) (o_turn : Option V), σ' = [some (.ref a_script), some (.ref p_row), o_k, o_cell, o_turn, none] ∧ ef0.R 0 H0 H' ∧ Tg Hl0 H' ∧ H' p_row = some (.lst vs_row) ∧ Rps H' xs_row vs_row ∧ xs_row.length ≤ 40 * i
    case h0_0 =>
      refine ⟨_, _, _, _, _, rfl, g0, Tg.refl _, hp_row, hr_row, ?_⟩
      · exact Nat.zero_le _
    case hs_0 =>
      obtain ⟨xs_row, vs_row, o_k, o_cell, o_turn, rfl, g0, tg0, hp_row, hr_row, hI0⟩ := hP0
      obtain ⟨v_k, ev_k⟩ : ∃ v : V, v = V.int (i0 : Int) := ⟨_, rfl⟩
      rw [← ev_k]
      have h_k : Rp Hi0 (i0 : Int) v_k := ev_k
      have hi63 := deal_63 hi0
      refine q_asg (e := ef0) (er_abs (er_int1 (er_ixQ rfl (sqL_go g0 h_script) (er_var rfl h_k) (deal_ok hi0)))) fun v_cell Hg3 g3 h_cell => ?_
      have hp_row := ef0.oth g3 _ _ hp_row (nS hn_row)
      have hr_row := Rps.tm (ef0.tup g3) hr_row
      have h_k := PyI.tm (ef0.tup g3) h_k
      have tg0 := tg0.trans (ef0.tup g3)
      have g0 := ef0.trans g0 g3
      refine st_if (e := ef0) (et_tD (er_ge (er_var rfl h_cell) (er_pow er_int er_int (⟨by decide, by decide, by decide⟩)))) (fun cc4 Hc4 gc4 => ?_) (fun cc4 Hc4 gc4 => ?_)
      ·
        have hp_row := ef0.oth gc4 _ _ hp_row (nS hn_row)
        have hr_row := Rps.tm (ef0.tup gc4) hr_row
        have h_k := PyI.tm (ef0.tup gc4) h_k
        have h_cell := PyI.tm (ef0.tup gc4) h_cell
        have tg0 := tg0.trans (ef0.tup gc4)
        have g0 := ef0.trans g0 gc4
        refine st_forR1C (e := ef0) (ea1v er_int) (by first | assumption | omega | decide) (by first | assumption | omega | decide) fun Hl1 g5 => ?_
        have hp_row := ef0.oth g5 _ _ hp_row (nS hn_row)
        have hr_row := Rps.tm (ef0.tup g5) hr_row
        have h_k := PyI.tm (ef0.tup g5) h_k
        have h_cell := PyI.tm (ef0.tup g5) h_cell
        have tg0 := tg0.trans (ef0.tup g5)
        have g0 := ef0.trans g0 g5
        refine ⟨?Pv1, ?h0_1, fun i1 σ1 Hi1 hi1 hP1 => ?hs_1, fun σ1 Hi1 hP1 => ?hd_1⟩
        case Pv1 => exact fun i σ' H' => ∃ (a_cell : Int) (v_cell : V) (xs_row : List Int) (vs_row : List V) (o_turn : Option V), σ' = [some (.ref a_script), some (.ref p_row), some v_k, some v_cell, o_turn, none] ∧ ef0.R 0 H0 H' ∧ Tg Hl1 H' ∧ Rp H' a_cell v_cell ∧ H' p_row = some (.lst vs_row) ∧ Rps H' xs_row vs_row ∧ xs_row.length ≤ 40 * i0 + i
        case h0_1 =>
          refine ⟨_, _, _, _, _, rfl, g0, Tg.refl _, h_cell, hp_row, hr_row, ?_⟩
          · exact hI0
        case hs_1 =>
          obtain ⟨a_cell, v_cell, xs_row, vs_row, o_turn, rfl, g0, tg1, h_cell, hp_row, hr_row, hI1⟩ := hP1
          have h_k := PyI.tm tg1 h_k
          have tg0 := tg0.trans tg1
          obtain ⟨v_turn, ev_turn⟩ : ∃ v : V, v = V.int (i1 : Int) := ⟨_, rfl⟩
          rw [← ev_turn]
          have h_turn : Rp Hi1 (i1 : Int) v_turn := ev_turn
          have hi40 : i1 < 40 := by omega
          refine st_if (e := ef0) (et_tD (er_gt (er_var rfl h_cell) er_int)) (fun cc6 Hc6 gc6 => ?_) (fun cc6 Hc6 gc6 => ?_)
          ·
            have hp_row := ef0.oth gc6 _ _ hp_row (nS hn_row)
            have hr_row := Rps.tm (ef0.tup gc6) hr_row
            have h_k := PyI.tm (ef0.tup gc6) h_k
            have h_cell := PyI.tm (ef0.tup gc6) h_cell
            have h_turn := PyI.tm (ef0.tup gc6) h_turn
            have tg0 := tg0.trans (ef0.tup gc6)
            have tg1 := tg1.trans (ef0.tup gc6)
            have g0 := ef0.trans g0 gc6
            refine q_appC (e := ef0) rfl hp_row (nS hn_row) (by rw [← hr_row.len]; omega) (er_mod (er_var rfl h_cell) er_int (by decide)) fun v Hg7 Hcg7 g7 r cg7 => ?_
            have hp_row := ef0.oth g7 _ _ hp_row (nS hn_row)
            have hr_row := Rps.tm (ef0.tup g7) hr_row
            have h_k := PyI.tm (ef0.tup g7) h_k
            have h_cell := PyI.tm (ef0.tup g7) h_cell
            have h_turn := PyI.tm (ef0.tup g7) h_turn
            have tg0 := tg0.trans (ef0.tup g7)
            have tg1 := tg1.trans (ef0.tup g7)
            have g0 := ef0.trans g0 g7
            have h_k := PyI.tm cg7.t h_k
            have h_cell := PyI.tm cg7.t h_cell
            have h_turn := PyI.tm cg7.t h_turn
            have tg0 := tg0.trans cg7.t
            have tg1 := tg1.trans cg7.t
            have g0 := cg7.g g0 hn_row
            have hp_row := cg7.here
            have hr_row := Rps.snoc (Rps.tm cg7.t hr_row) (PyI.tm cg7.t r)
            refine st_asg (e := ef0) (er_fdiv (er_var rfl h_cell) er_int (⟨by decide, by decide⟩)) fun v_cell Hg8 g8 h_cell => ?_
            have hp_row := ef0.oth g8 _ _ hp_row (nS hn_row)
            have hr_row := Rps.tm (ef0.tup g8) hr_row
            have h_k := PyI.tm (ef0.tup g8) h_k
            have h_turn := PyI.tm (ef0.tup g8) h_turn
            have tg0 := tg0.trans (ef0.tup g8)
            have tg1 := tg1.trans (ef0.tup g8)
            have g0 := ef0.trans g0 g8
            refine ⟨_, _, _, _, _, rfl, g0, tg1, h_cell, hp_row, hr_row, ?_⟩
            · rw [List.length_append, List.length_singleton]; omega
          ·
            have hp_row := ef0.oth gc6 _ _ hp_row (nS hn_row)
            have hr_row := Rps.tm (ef0.tup gc6) hr_row
            have h_k := PyI.tm (ef0.tup gc6) h_k
            have h_cell := PyI.tm (ef0.tup gc6) h_cell
            have h_turn := PyI.tm (ef0.tup gc6) h_turn
            have tg0 := tg0.trans (ef0.tup gc6)
            have tg1 := tg1.trans (ef0.tup gc6)
            have g0 := ef0.trans g0 gc6
            refine st_next ?_
            refine ⟨_, _, _, _, _, rfl, g0, tg1, h_cell, hp_row, hr_row, ?_⟩
            · omega
        case hd_1 =>
          obtain ⟨a_cell, v_cell, xs_row, vs_row, o_turn, rfl, g0, tg1, h_cell, hp_row, hr_row, hI1⟩ := hP1
          have h_k := PyI.tm tg1 h_k
          have tg0 := tg0.trans tg1
          have e40 : (40 : Int).toNat = 40 := rfl
          rw [e40] at hI1
          refine ⟨_, _, _, _, _, rfl, g0, tg0, hp_row, hr_row, ?_⟩
          · omega
      ·
        have hp_row := ef0.oth gc4 _ _ hp_row (nS hn_row)
        have hr_row := Rps.tm (ef0.tup gc4) hr_row
        have h_k := PyI.tm (ef0.tup gc4) h_k
        have h_cell := PyI.tm (ef0.tup gc4) h_cell
        have tg0 := tg0.trans (ef0.tup gc4)
        have g0 := ef0.trans g0 gc4
        refine q_asg (e := ef0) (er_add (er_add (er_mul (er_mod (er_var rfl h_cell) er_int (by decide)) er_int (.inr ⟨by decide, by decide⟩)) (er_mul (er_var rfl h_k) er_int (.inr ⟨by decide, by decide⟩))) er_int) fun v_cell Hg9 g9 h_cell => ?_
        have hp_row := ef0.oth g9 _ _ hp_row (nS hn_row)
        have hr_row := Rps.tm (ef0.tup g9) hr_row
        have h_k := PyI.tm (ef0.tup g9) h_k
        have tg0 := tg0.trans (ef0.tup g9)
        have g0 := ef0.trans g0 g9
        refine st_forR1C (e := ef0) (ea1v er_int) (by first | assumption | omega | decide) (by first | assumption | omega | decide) fun Hl2 g10 => ?_
        have hp_row := ef0.oth g10 _ _ hp_row (nS hn_row)
        have hr_row := Rps.tm (ef0.tup g10) hr_row
        have h_k := PyI.tm (ef0.tup g10) h_k
        have h_cell := PyI.tm (ef0.tup g10) h_cell
        have tg0 := tg0.trans (ef0.tup g10)
        have g0 := ef0.trans g0 g10
        refine ⟨?Pv2, ?h0_2, fun i2 σ2 Hi2 hi2 hP2 => ?hs_2, fun σ2 Hi2 hP2 => ?hd_2⟩
        case Pv2 => exact fun i σ' H' => ∃ (a_cell : Int) (v_cell : V) (xs_row : List Int) (vs_row : List V) (o_turn : Option V), σ' = [some (.ref a_script), some (.ref p_row), some v_k, some v_cell, o_turn, none] ∧ ef0.R 0 H0 H' ∧ Tg Hl2 H' ∧ Rp H' a_cell v_cell ∧ H' p_row = some (.lst vs_row) ∧ Rps H' xs_row vs_row ∧ xs_row.length ≤ 40 * i0 + i
        case h0_2 =>
          refine ⟨_, _, _, _, _, rfl, g0, Tg.refl _, h_cell, hp_row, hr_row, ?_⟩
          · exact hI0
        case hs_2 =>
          obtain ⟨a_cell, v_cell, xs_row, vs_row, o_turn, rfl, g0, tg2, h_cell, hp_row, hr_row, hI2⟩ := hP2
          have h_k := PyI.tm tg2 h_k
          have tg0 := tg0.trans tg2
          obtain ⟨v_turn, ev_turn⟩ : ∃ v : V, v = V.int (i2 : Int) := ⟨_, rfl⟩
          rw [← ev_turn]
          have h_turn : Rp Hi2 (i2 : Int) v_turn := ev_turn
          have hi5 : i2 < 5 := by omega
          refine q_asg (e := ef0) (er_mod (er_add (er_add (er_mul (er_var rfl h_cell) er_int (.inr ⟨by decide, by decide⟩)) er_int) (er_var rfl h_turn)) er_int (by decide)) fun v_cell Hg11 g11 h_cell => ?_
          have hp_row := ef0.oth g11 _ _ hp_row (nS hn_row)
          have hr_row := Rps.tm (ef0.tup g11) hr_row
          have h_k := PyI.tm (ef0.tup g11) h_k
          have h_turn := PyI.tm (ef0.tup g11) h_turn
          have tg0 := tg0.trans (ef0.tup g11)
          have tg2 := tg2.trans (ef0.tup g11)
          have g0 := ef0.trans g0 g11
          refine st_appC (e := ef0) rfl hp_row (nS hn_row) (by rw [← hr_row.len]; omega) (er_mod (er_fdiv (er_var rfl h_cell) er_int (⟨by decide, by decide⟩)) er_int (by decide)) fun v Hg12 Hcg12 g12 r cg12 => ?_
          have hp_row := ef0.oth g12 _ _ hp_row (nS hn_row)
          have hr_row := Rps.tm (ef0.tup g12) hr_row
          have h_k := PyI.tm (ef0.tup g12) h_k
          have h_cell := PyI.tm (ef0.tup g12) h_cell
          have h_turn := PyI.tm (ef0.tup g12) h_turn
          have tg0 := tg0.trans (ef0.tup g12)
          have tg2 := tg2.trans (ef0.tup g12)
          have g0 := ef0.trans g0 g12
          have h_k := PyI.tm cg12.t h_k
          have h_cell := PyI.tm cg12.t h_cell
          have h_turn := PyI.tm cg12.t h_turn
          have tg0 := tg0.trans cg12.t
          have tg2 := tg2.trans cg12.t
          have g0 := cg12.g g0 hn_row
          have hp_row := cg12.here
          have hr_row := Rps.snoc (Rps.tm cg12.t hr_row) (PyI.tm cg12.t r)
          refine ⟨_, _, _, _, _, rfl, g0, tg2, h_cell, hp_row, hr_row, ?_⟩
          · rw [List.length_append, List.length_singleton]; omega
        case hd_2 =>
          obtain ⟨a_cell, v_cell, xs_row, vs_row, o_turn, rfl, g0, tg2, h_cell, hp_row, hr_row, hI2⟩ := hP2
          have h_k := PyI.tm tg2 h_k
          have tg0 := tg0.trans tg2
          have e5 : (5 : Int).toNat = 5 := rfl
          rw [e5] at hI2
          refine ⟨_, _, _, _, _, rfl, g0, tg0, hp_row, hr_row, ?_⟩
          · omega
    case hd_0 =>
      obtain ⟨xs_row, vs_row, o_k, o_cell, o_turn, rfl, g0, tg0, hp_row, hr_row, hI0⟩ := hP0
      refine q_asg (e := ef0) (er_add (er_sum (er_varL rfl (lsr_of hp_row (nS hn_row) hr_row))) (er_lenQ rfl (sqL_go g0 h_script))) fun v_total Hg13 g13 h_total => ?_
      have hp_row := ef0.oth g13 _ _ hp_row (nS hn_row)
      have hr_row := Rps.tm (ef0.tup g13) hr_row
      have g0 := ef0.trans g0 g13
      refine st_ret (e := ef0) (er_mkdeal rfl hp_row hr_row (er_var rfl h_total)) fun v Hg14 g14 ⟨d, e1, n1, e2, n2, hA, hL⟩ => ?_
      exact kk _ _ (ef0.trans g0 g14) ⟨d, e1, ef0.free g0 n1, by rw [e2]; exact hn_row, ef0.free g0 n2, hA, hL⟩
theorem ok__law_take (F : At K mg "_law_take" s__law_take P__law_take) (G : Glb mg) : Has P w K mg base "_law_take" 1 P__law_take sp_take := by
  refine Has.of F sc__law_take (fun vs H Q E h => ?_) (fun f cdv A outer s H0 vs Q E hr h => ?_)
  · obtain ⟨d, many, rfl, _⟩ := h
    rfl
  · obtain ⟨d, many, rfl, hA, hle, hpos, kk⟩ := h
    have sc := sc__law_take
    obtain ⟨n, hn, hb⟩ := hle
    have hp := hA.p
    have h1 := hA.l1
    refine ⟨_, pss_cons (ps_set (i := 2) sc.nd rfl (Or.inl rfl) (pe_ix ix_list (pe_ix ix_list (pv 0) pe_int (fun _ _ => rfl)) pe_int (fun _ _ => rfl)))
      (pss_cons (ps_asg (pe_op op_add (pv 2) pe_int) (pg_sub (pe_ix ix_list (pv 0) pe_int (fun _ _ => rfl)) pe_int set_list))
      (pss_cons (ps_if (pt_cmpR op_lt (pv 2) (pe_callB call_len_seq (by rfl) G.len PySem.boot_len (pa_cons (pe_ix ix_list (pv 0) pe_int (fun _ _ => rfl)) pa_nil)) (nomark _))
        (pss_one (ps_ret (pe_op op_mod (pe_ix ix_list (pe_ix ix_list (pv 0) pe_int (fun _ _ => rfl)) (pv 2) (fun _ _ => rfl)) (pv 1)))) pss_nil)
      (pss_one (ps_ret (pe_op op_mod (pe_op op_fdiv (pe_op op_add (pe_op op_add (pe_op op_mul (pv 2) pe_int) (pe_op op_mul (pe_ix ix_list (pv 0) pe_int (fun _ _ => rfl)) pe_int)) (pe_op op_mul (pe_op op_mul (pv 2) (pv 2)) pe_int)) pe_int) (pv 1)))))), ?_⟩
    -- at = deal[1][0]
    refine ⟨_, rfl, d.p, _, 1, .ref d.l2, rfl, rfl, SqL.of hp, rfl, d.l2, _, 0, .int (n : Int), rfl, rfl, SqL.of hn, rfl, ?_⟩
    -- deal[1][0] = at + 1
    refine ⟨_, rfl, (n : Int), 1, rfl, rfl, ?_⟩
    refine ⟨_, rfl, d.p, _, 1, .ref d.l2, rfl, rfl, SqL.of hp, rfl, d.l2, _, 0, 0, rfl, rfl, hn, rfl, ?_⟩
    have hp' : (upd H0 d.l2 (.lst [.int ((n : Int) + 1)])) d.p = some (.lst [.ref d.l1, .ref d.l2, .int d.tot]) := by rw [upd_ne hA.np]; exact hp
    have h1' : (upd H0 d.l2 (.lst [.int ((n : Int) + 1)])) d.l1 = some (.lst (d.row.map V.int)) := by rw [upd_ne hA.n1]; exact h1
    have gg : (efD d).R 1 H0 (upd H0 d.l2 (.lst [.int ((n : Int) + 1)])) := by
      refine ⟨Tg.upd hn (fun _ z => by cases z), fun a u ha hne => by rw [upd_ne hne]; exact ha, fun m hm => ⟨n + 1, ?_, ?_, upd_same⟩, fun a u ha => ?_⟩
      · rw [hn] at hm
        have : (n : Int) = (m : Int) := by injection hm with hm; injection hm with hm; injection hm with hm _; injection hm
        omega
      · rw [hn] at hm
        have : (n : Int) = (m : Int) := by injection hm with hm; injection hm with hm; injection hm with hm _; injection hm
        omega
      · by_cases e : a = d.l2
        · subst e; exact ⟨_, upd_same⟩
        · rw [upd_ne e]; exact ⟨u, ha⟩
    have fin : ∀ x : Int, isA (drawn many) H0 (upd H0 d.l2 (.lst [.int ((n : Int) + 1)])) (.int (x % many)) := fun x => ⟨x % many, ⟨Int.emod_nonneg _ (by omega), Int.emod_lt_of_pos _ hpos⟩, rfl⟩
    -- if at < len(deal[0])
    refine ⟨_, rfl, _, rfl, d.p, _, 0, .ref d.l1, rfl, rfl, SqL.of hp', rfl, d.l1, _, rfl, .inl (SqL.of h1'), (n : Int), _, rfl, rfl, _, rfl, ?_⟩
    refine ite2 (fun hc => ?_) (fun hc => ?_)
    · have hlt : n < d.row.length := by
        have := of_decide_eq_true hc
        rw [List.length_map] at this
        omega
      have hx : atI (d.row.map V.int) (n : Int) = some (.int d.row[n]) := by
        refine atI_nat ?_
        rw [List.getElem?_map, List.getElem?_eq_getElem hlt]; rfl
      refine ⟨_, rfl, d.p, _, 0, .ref d.l1, rfl, rfl, SqL.of hp', rfl, _, rfl, d.l1, _, (n : Int), .int d.row[n], rfl, rfl, SqL.of h1', hx, _, rfl, d.row[n], many, rfl, rfl, hpos, ?_⟩
      exact kk _ _ gg (fin _)
    · have big : -(2 ^ 64 : Int) < (n : Int) ∧ (n : Int) < 2 ^ 64 := ⟨by omega, by omega⟩
      refine ⟨_, rfl, _, _, rfl, rfl, .inl big, ?_⟩
      refine ⟨_, rfl, d.p, _, 2, .int d.tot, rfl, rfl, SqL.of hp', rfl, _, _, rfl, rfl, .inr ⟨by decide, by decide⟩, _, _, rfl, rfl, ?_⟩
      refine ⟨_, rfl, _, rfl, _, _, rfl, rfl, .inl big, _, _, rfl, rfl, .inr ⟨by decide, by decide⟩, _, _, rfl, rfl, _, _, rfl, rfl, ⟨by decide, by decide⟩, _, rfl, _, many, rfl, rfl, hpos, ?_⟩
      exact kk _ _ gg (fin _)

def sp__law_pick (K : PySem.W.Frag) : Sp := fun vs H Q _ => ∃ (d : Dl) (a_things : (List Sq)) (v_things : V), vs = [.ref d.p, v_things] ∧ d.At H ∧ d.Le H (2 ^ 50) ∧ LsR K (efD d).S H a_things v_things ∧ (0 < a_things.length) ∧ ∀ v H', (efD d).R (10) H H' → isA (· ∈ a_things) H H' v → Q v H'
theorem ev__law_pick {K : PySem.W.Frag} {d : Dl} {σ : L2.St} {H : Hp} {E : XK} {t0 t1 : TE} {j0 j1 b : Nat} {a_things : (List Sq)} (hd : d.At H) (hle : d.Le H b) (h0 : EvR (efD d) j0 t0 σ H (isDl d)) (h1 : EvR (efD d) j1 t1 σ H (isLr K (efD d).S a_things)) (hp : 0 < a_things.length) (hb : b + 1000000 ≤ 2 ^ 50 := by exact Nat.le_of_ble_eq_true rfl) : EvR (efD d) (j0 + j1 + 10) (tCall (sp__law_pick K) [] E (tCons t0 (tCons t1 tNil))) σ H (isA (· ∈ a_things)) := fun l H1 hm g Q q => by
  refine (ea2 h0 stay_Dl h1 back_Lr) l H1 (by omega) g _ fun vs H2 g2 ⟨w0, w1, ev, r0, r1⟩ => ?_
  cases r0; subst ev
  have gg := (efD d).trans g g2
  have hM : (efD d).M = 1000000 := rfl
  exact ⟨d, a_things, w1, rfl, hd.go gg, (hle.go gg).up (by omega), r1, hp, fun v H3 g3 r3 => q v H3 ((efD d).trans g2 g3) (back_A _ _ _ _ _ g2 r3)⟩
theorem ok__law_pick (F : At K mg "_law_pick" s__law_pick P__law_pick) (G : Glb mg) (H__law_take : Has P w K mg base "_law_take" 1 P__law_take sp_take) : Has P w K mg base "_law_pick" 2 P__law_pick (sp__law_pick K) := by
  refine Has.of F sc__law_pick (fun vs H Q E h => ?_) (fun f cdv A outer s H0 vs Q E hr h => ?_)
  · obtain ⟨d, a_things, v_things, rfl, _⟩ := h
    rfl
  · obtain ⟨d, a_things, v_things, rfl, hd, hle, h_things, hpre, kk⟩ := h
    have sc := sc__law_pick
    refine ⟨_, (pss_one (ps_ret (pe_ix ix_list (pv 1) (pe_user H__law_take (hr.mono (by decide)) rfl (pa_cons (pv 0) (pa_cons (pe_callB call_len_seq (by rfl) G.len PySem.boot_len (pa_cons (pv 1) pa_nil)) pa_nil))) (fun _ _ => rfl)))), ?_⟩
    have g0 : (efD d).R 0 H0 H0 := (efD d).refl H0
    have hd0 := hd
    have hle0 := hle
    have nS : ∀ {p : Addr}, H0 p = none → ¬ (efD d).S p := fun h => nS_D hd0 h
    have hS := live_D hd
    refine st_ret (e := (efD d)) (er_ixLA (er_varL rfl (LsR.go g0 h_things)) (ev_take hd hle (er_deal rfl) (er_lenL (er_varL rfl (LsR.go g0 h_things))) (by omega)) (fun x h => ⟨by have := h.1; omega, h.2⟩)) fun v Hg1 g1 r => ?_
    exact kk _ _ ((efD d).mono ((efD d).trans g0 g1) (Nat.le_of_ble_eq_true rfl)) (retAA r (fun a h => h))
def sp__law_place (K : PySem.W.Frag) : Sp := fun vs H Q _ => ∃ (d : Dl) (a_chart : (List Str)) (v_chart : V), vs = [.ref d.p, v_chart] ∧ d.At H ∧ d.Le H (2 ^ 50) ∧ Rp H a_chart v_chart ∧ (Ch a_chart) ∧ ∀ v H', (efD d).R (10) H H' → isA (fun q : Sq => isSq a_chart q = true) H H' v → Q v H'
theorem ev__law_place {K : PySem.W.Frag} {d : Dl} {σ : L2.St} {H : Hp} {E : XK} {t0 t1 : TE} {j0 j1 b : Nat} {a_chart : (List Str)} (hd : d.At H) (hle : d.Le H b) (h0 : EvR (efD d) j0 t0 σ H (isDl d)) (h1 : EvR (efD d) j1 t1 σ H (isD a_chart)) (hp : Ch a_chart) (hb : b + 1000000 ≤ 2 ^ 50 := by exact Nat.le_of_ble_eq_true rfl) : EvR (efD d) (j0 + j1 + 10) (tCall (sp__law_place K) [] E (tCons t0 (tCons t1 tNil))) σ H (isA (fun q : Sq => isSq a_chart q = true)) := fun l H1 hm g Q q => by
  refine (ea2 h0 stay_Dl h1 back_D) l H1 (by omega) g _ fun vs H2 g2 ⟨w0, w1, ev, r0, r1⟩ => ?_
  cases r0; subst ev
  have gg := (efD d).trans g g2
  have hM : (efD d).M = 1000000 := rfl
  exact ⟨d, a_chart, w1, rfl, hd.go gg, (hle.go gg).up (by omega), r1, hp, fun v H3 g3 r3 => q v H3 ((efD d).trans g2 g3) (back_A _ _ _ _ _ g2 r3)⟩
theorem ok__law_place (F : At K mg "_law_place" s__law_place P__law_place) (G : Glb mg) (H__law_take : Has P w K mg base "_law_take" 1 P__law_take sp_take) : Has P w K mg base "_law_place" 2 P__law_place (sp__law_place K) := by
  refine Has.of F sc__law_place (fun vs H Q E h => ?_) (fun f cdv A outer s H0 vs Q E hr h => ?_)
  · obtain ⟨d, a_chart, v_chart, rfl, _⟩ := h
    rfl
  · obtain ⟨d, a_chart, v_chart, rfl, hd, hle, h_chart, hpre, kk⟩ := h
    have sc := sc__law_place
    refine ⟨_, (pss_one (ps_ret (pe_tup (pa_cons (pe_user H__law_take (hr.mono (by decide)) rfl (pa_cons (pv 0) (pa_cons (pe_callB call_len_seq (by rfl) G.len PySem.boot_len (pa_cons (pv 1) pa_nil)) pa_nil))) (pa_cons (pe_user H__law_take (hr.mono (by decide)) rfl (pa_cons (pv 0) (pa_cons (pe_callB call_len_str (by rfl) G.len PySem.boot_len (pa_cons (pe_ix ix_tup (pv 1) pe_int (fun _ _ => rfl)) pa_nil)) pa_nil))) pa_nil))))), ?_⟩
    have g0 : (efD d).R 0 H0 H0 := (efD d).refl H0
    have hd0 := hd
    have hle0 := hle
    have nS : ∀ {p : Addr}, H0 p = none → ¬ (efD d).S p := fun h => nS_D hd0 h
    have hS := live_D hd
    refine st_ret (e := (efD d)) (er_pairA (ev_take hd hle (er_deal rfl) (er_lenT (er_var rfl h_chart)) (by have := hpre.ne; omega)) (ev_take hd hle (er_deal rfl) (er_lenS (er_ixT (er_var rfl h_chart) er_int (hpre.ok0)) (hpre.wl0)) (by have := hpre.w0; unfold wid at this; omega))) fun v Hg1 g1 r => ?_
    exact kk _ _ ((efD d).mono ((efD d).trans g0 g1) (Nat.le_of_ble_eq_true rfl)) (retAA r (fun q h => isSq_iff.mpr ⟨h.1.1, h.1.2, h.2.1, h.2.2⟩))
def sp__law_grid (K : PySem.W.Frag) : Sp := fun vs H Q _ => ∃ (d : Dl) (a_rows : Int) (a_columns : Int) (v_rows v_columns : V), vs = [.ref d.p, v_rows, v_columns] ∧ d.At H ∧ d.Le H (2 ^ 50) ∧ Rp H a_rows v_rows ∧ Rp H a_columns v_columns ∧ (1 ≤ a_rows ∧ a_rows ≤ 40 ∧ 1 ≤ a_columns ∧ a_columns ≤ 40) ∧ ∀ v H', (efD d).R (2000) H H' → isA (ChartOf a_rows a_columns) H H' v → Q v H'
theorem ev__law_grid {K : PySem.W.Frag} {d : Dl} {σ : L2.St} {H : Hp} {E : XK} {t0 t1 t2 : TE} {j0 j1 j2 b : Nat} {a_rows : Int} {a_columns : Int} (hd : d.At H) (hle : d.Le H b) (h0 : EvR (efD d) j0 t0 σ H (isDl d)) (h1 : EvR (efD d) j1 t1 σ H (isD a_rows)) (h2 : EvR (efD d) j2 t2 σ H (isD a_columns)) (hp : 1 ≤ a_rows ∧ a_rows ≤ 40 ∧ 1 ≤ a_columns ∧ a_columns ≤ 40) (hb : b + 1000000 ≤ 2 ^ 50 := by exact Nat.le_of_ble_eq_true rfl) : EvR (efD d) (j0 + j1 + j2 + 2000) (tCall (sp__law_grid K) [] E (tCons t0 (tCons t1 (tCons t2 tNil)))) σ H (isA (ChartOf a_rows a_columns)) := fun l H1 hm g Q q => by
  refine (ea3 h0 stay_Dl h1 stay_D back_D h2 back_D) l H1 (by omega) g _ fun vs H2 g2 ⟨w0, w1, w2, ev, r0, r1, r2⟩ => ?_
  cases r0; subst ev
  have gg := (efD d).trans g g2
  have hM : (efD d).M = 1000000 := rfl
  exact ⟨d, a_rows, a_columns, w1, w2, rfl, hd.go gg, (hle.go gg).up (by omega), r1, r2, hp, fun v H3 g3 r3 => q v H3 ((efD d).trans g2 g3) (back_A _ _ _ _ _ g2 r3)⟩
theorem ok__law_grid (F : At K mg "_law_grid" s__law_grid P__law_grid) (G : Glb mg) (H__law_take : Has P w K mg base "_law_take" 1 P__law_take sp_take) : Has P w K mg base "_law_grid" 2 P__law_grid (sp__law_grid K) := by
  refine Has.of F sc__law_grid (fun vs H Q E h => ?_) (fun f cdv A outer s H0 vs Q E hr h => ?_)
  · obtain ⟨d, a_rows, a_columns, v_rows, v_columns, rfl, _⟩ := h
    rfl
  · obtain ⟨d, a_rows, a_columns, v_rows, v_columns, rfl, hd, hle, h_rows, h_columns, hpre, kk⟩ := h
    have sc := sc__law_grid
    refine ⟨_, (pss_cons (ps_set (i := 3) sc.nd rfl (Or.inl rfl) (pe_user H__law_take (hr.mono (by decide)) rfl (pa_cons (pv 0) (pa_cons pe_int pa_nil))))
          (pss_cons (ps_set (i := 4) sc.nd rfl (Or.inl rfl) (pe_op op_add pe_int (pe_user H__law_take (hr.mono (by decide)) rfl (pa_cons (pv 0) (pa_cons pe_int pa_nil)))))
          (pss_cons (ps_set (i := 5) sc.nd rfl (Or.inl rfl) (pe_lst pa_nil))
          (pss_cons (ps_for PassesOwn.never rfl (pi_range1 rfl G.range (pa_cons (pv 1) pa_nil)) (pg_name (i := 6) sc.nd rfl (Or.inl rfl))
          (pss_cons (ps_set (i := 7) sc.nd rfl (Or.inl rfl) (pe_lst pa_nil))
          (pss_cons (ps_for PassesOwn.never rfl (pi_range1 rfl G.range (pa_cons (pv 2) pa_nil)) (pg_name (i := 8) sc.nd rfl (Or.inl rfl))
          (pss_cons (ps_set (i := 9) sc.nd rfl (Or.inl rfl) (pe_cmpR op_gt (pe_user H__law_take (hr.mono (by decide)) rfl (pa_cons (pv 0) (pa_cons (pv 4) pa_nil))) pe_int (nomark _)))
          (pss_cons (ps_if (pt_cmpR op_in_seq (pv 3) (pe_tup (pa_cons pe_int (pa_cons pe_int pa_nil))) (by rfl)) (pss_one (ps_set (i := 9) sc.nd rfl (Or.inl rfl) (pe_not (pv 9)))) pss_nil)
          (pss_cons (ps_if (pt_cmpR op_eq (pv 3) pe_int (nomark _)) (pss_one (ps_set (i := 9) sc.nd rfl (Or.inl rfl) (pe_cmpR op_eq (pe_op op_mod (pe_callB (call_min4 rfl) (by rfl) G.min (by decide +kernel) (pa_cons (pv 6) (pa_cons (pv 8) (pa_cons (pe_op op_sub (pe_op op_sub (pv 1) pe_int) (pv 6)) (pa_cons (pe_op op_sub (pe_op op_sub (pv 2) pe_int) (pv 8)) pa_nil))))) pe_int) pe_int (nomark _)))) pss_nil)
          (pss_cons (ps_if (pt_cmpR op_eq (pv 3) pe_int (nomark _)) (pss_one (ps_set (i := 9) sc.nd rfl (Or.inl rfl) (pe_or (pe_cmpR op_eq (pe_op op_mod (pv 6) pe_int) pe_int (nomark _)) (pe_one (pe_cmpR op_eq (pv 8) (pe_ix ix_list (pe_lst (pa_cons pe_int (pa_cons (pe_op op_sub (pv 2) pe_int) pa_nil))) (pe_op op_mod (pe_op op_fdiv (pv 6) pe_int) pe_int) (fun _ _ => rfl)) (nomark _)))))) pss_nil)
          (pss_cons (ps_if (pt_cmpR op_eq (pv 3) pe_int (nomark _)) (pss_one (ps_set (i := 9) sc.nd rfl (Or.inl rfl) (pe_cmpR op_eq (pe_op op_mod (pv 8) pe_int) pe_int (nomark _)))) pss_nil)
          (pss_cons (ps_if (pt_cmpR op_eq (pv 3) pe_int (nomark _)) (pss_one (ps_set (i := 9) sc.nd rfl (Or.inl rfl) pe_bl)) pss_nil)
          (pss_cons (ps_if (pt_cmpR op_eq (pv 3) pe_int (nomark _)) (pss_one (ps_set (i := 9) sc.nd rfl (Or.inl rfl) pe_bl)) pss_nil)
          (pss_one (ps_expr (pe_bm PySem.F.plainAttrs_list PySem.F.slot_list_append PySem.F.type_list_append mt_append (pv 7) (pa_cons (pe_ifExp (pt_val (pv 9)) pe_str pe_str) pa_nil))))))))))))
          (pss_one (ps_expr (pe_bm PySem.F.plainAttrs_list PySem.F.slot_list_append PySem.F.type_list_append mt_append (pv 5) (pa_cons (pv 7) pa_nil)))))))
          (pss_cons (ps_for PassesOwn.never rfl (pi_range1 rfl G.range (pa_cons (pe_user H__law_take (hr.mono (by decide)) rfl (pa_cons (pv 0) (pa_cons pe_int pa_nil))) pa_nil)) (pg_name (i := 10) sc.nd rfl (Or.inl rfl))
          (pss_cons (ps_set (i := 6) sc.nd rfl (Or.inl rfl) (pe_user H__law_take (hr.mono (by decide)) rfl (pa_cons (pv 0) (pa_cons (pv 1) pa_nil))))
          (pss_cons (ps_set (i := 8) sc.nd rfl (Or.inl rfl) (pe_user H__law_take (hr.mono (by decide)) rfl (pa_cons (pv 0) (pa_cons (pv 2) pa_nil))))
          (pss_one (ps_asg (pe_ifExp (pt_cmpR op_eq (pe_ix ix_list (pe_ix ix_list (pv 5) (pv 6) (fun _ _ => rfl)) (pv 8) (fun _ _ => rfl)) pe_str (nomark _)) pe_str pe_str) (pg_sub (pe_ix ix_list (pv 5) (pv 6) (fun _ _ => rfl)) (pv 8) set_list))))))
          (pss_one (ps_ret (pe_callTy call_tuple_of (by rfl) G.tuple (by decide +kernel) (pa_cons (pe_lc (own := [("row", 7)]) (g := gName 7) (tt := tYes) rfl sc.nd (pi_list (pv 5)) (blkOk_by (N := N__law_grid) (sc := defScope s__law_grid) (by decide +kernel)) (fun _ _ _ _ _ => pg_name (i := 7) sc.nd rfl (Or.inl rfl)) (fun _ _ _ _ _ => pts_nil) (fun _ _ _ _ _ => pe_joinK (K := K) rfl pe_str (pv 7))) pa_nil))))))))), ?_⟩
    have g0 : (efD d).R 0 H0 H0 := (efD d).refl H0
    have hd0 := hd
    have hle0 := hle
    have nS : ∀ {p : Addr}, H0 p = none → ¬ (efD d).S p := fun h => nS_D hd0 h
    have hS := live_D hd
    obtain ⟨hr1, hr2, hc1, hc2⟩ := hpre
    refine q_asg (e := (efD d)) (ev_take hd hle (er_deal rfl) er_int (by decide)) fun v_style Hg1 g1 ⟨a_style, q_style, h_style⟩ => ?_
    have h_rows := PyI.tm ((efD d).tup g1) h_rows
    have h_columns := PyI.tm ((efD d).tup g1) h_columns
    have hd := hd.go g1
    have hle := hle.go g1
    have g0 := (efD d).trans g0 g1
    refine q_asg (e := (efD d)) (er_addA (er_d er_int) (ev_take hd hle (er_deal rfl) er_int (by decide))) fun v_chance Hg2 g2 ⟨a_chance, q_chance, h_chance⟩ => ?_
    have h_rows := PyI.tm ((efD d).tup g2) h_rows
    have h_columns := PyI.tm ((efD d).tup g2) h_columns
    have h_style := PyI.tm ((efD d).tup g2) h_style
    have hd := hd.go g2
    have hle := hle.go g2
    have g0 := (efD d).trans g0 g2
    obtain ⟨_, ch0, rfl, ⟨hch1, hch2⟩, rfl⟩ := q_chance
    refine q_asg (e := (efD d)) (er_lst (eas_nil (α := (List Str))) (by simp)) fun v_grid Hg3 g3 ⟨p_grid, vs_grid, e_grid, hn_grid, hp_grid, hr_grid⟩ => ?_
    subst e_grid
    have hn_grid := (efD d).free g0 hn_grid
    have h_rows := PyI.tm ((efD d).tup g3) h_rows
    have h_columns := PyI.tm ((efD d).tup g3) h_columns
    have h_style := PyI.tm ((efD d).tup g3) h_style
    have h_chance := PyI.tm ((efD d).tup g3) h_chance
    have hd := hd.go g3
    have hle := hle.go g3
    have g0 := (efD d).trans g0 g3
    cases hr_grid
    have hG_grid : GridOk H0 _ p_grid 0 a_columns.toNat := GridOk.nil hn_grid hp_grid
    refine q_forR1C (e := (efD d)) (ea1v (er_var rfl h_rows)) (by omega) (by omega) fun Hl0 g4 => ?_
    have h_rows := PyI.tm ((efD d).tup g4) h_rows
    have h_columns := PyI.tm ((efD d).tup g4) h_columns
    have h_style := PyI.tm ((efD d).tup g4) h_style
    have h_chance := PyI.tm ((efD d).tup g4) h_chance
    have hd := hd.go g4
    have hle := hle.go g4
    have hG_grid := hG_grid.go g4 nS
    have g0 := (efD d).trans g0 g4
    refine ⟨?Pv0, ?h0_0, fun i0 σ0 Hi0 hi0 hP0 => ?hs_0, fun σ0 Hi0 hP0 => ?hd_0⟩
    case Pv0 => exact fun i σ' H' => ∃ (o_r : Option V) (o_row : Option V) (o_c : Option V) (o_land : Option V), σ' = [some (.ref d.p), some v_rows, some v_columns, some v_style, some v_chance, some (.ref p_grid), o_r, o_row, o_c, o_land, none] ∧ (efD d).R (2 + i * 40) H0 H' ∧ Tg Hl0 H' ∧ GridOk H0 H' p_grid i a_columns.toNat ∧ True
    case h0_0 =>
      refine ⟨_, _, _, _, rfl, (efD d).mono g0 (by omega), Tg.refl _, hG_grid, ?_⟩
      · exact True.intro
    case hs_0 =>
      obtain ⟨o_r, o_row, o_c, o_land, rfl, g0, tg0, hG_grid, hI0⟩ := hP0
      have h_rows := PyI.tm tg0 h_rows
      have h_columns := PyI.tm tg0 h_columns
      have h_style := PyI.tm tg0 h_style
      have h_chance := PyI.tm tg0 h_chance
      have hd := hd0.go g0
      have hle := (hle0.go g0).up (c := 2 ^ 50 + 4000) (by omega)
      obtain ⟨v_r, ev_r⟩ : ∃ v : V, v = V.int (i0 : Int) := ⟨_, rfl⟩
      rw [← ev_r]
      have h_r : Rp Hi0 (i0 : Int) v_r := ev_r
      refine q_asg (e := (efD d)) (er_lst (eas_nil (α := Str)) (by simp)) fun v_row Hg5 g5 ⟨p_row, vs_row, e_row, hn_row, hp_row, hr_row⟩ => ?_
      subst e_row
      have hG_grid := hG_grid.born hn_row
      have hn_row := (efD d).free g0 hn_row
      have h_rows := PyI.tm ((efD d).tup g5) h_rows
      have h_columns := PyI.tm ((efD d).tup g5) h_columns
      have h_style := PyI.tm ((efD d).tup g5) h_style
      have h_chance := PyI.tm ((efD d).tup g5) h_chance
      have h_r := PyI.tm ((efD d).tup g5) h_r
      have tg0 := tg0.trans ((efD d).tup g5)
      have hd := hd.go g5
      have hle := hle.go g5
      have hG_grid := hG_grid.go g5 nS
      have g0 := (efD d).trans g0 g5
      refine q_forR1C (e := (efD d)) (ea1v (er_var rfl h_columns)) (by omega) (by omega) fun Hl1 g6 => ?_
      have h_rows := PyI.tm ((efD d).tup g6) h_rows
      have h_columns := PyI.tm ((efD d).tup g6) h_columns
      have h_style := PyI.tm ((efD d).tup g6) h_style
      have h_chance := PyI.tm ((efD d).tup g6) h_chance
      have h_r := PyI.tm ((efD d).tup g6) h_r
      have hp_row := (efD d).oth g6 _ _ hp_row (nS hn_row)
      have hr_row := Rps.tm ((efD d).tup g6) hr_row
      have tg0 := tg0.trans ((efD d).tup g6)
      have hd := hd.go g6
      have hle := hle.go g6
      have hG_grid := hG_grid.go g6 nS
      have g0 := (efD d).trans g0 g6
      refine ⟨?Pv1, ?h0_1, fun i1 σ1 Hi1 hi1 hP1 => ?hs_1, fun σ1 Hi1 hP1 => ?hd_1⟩
      case Pv1 => exact fun i σ' H' => ∃ (xs_row : List Str) (vs_row : List V) (o_c : Option V) (o_land : Option V), σ' = [some (.ref d.p), some v_rows, some v_columns, some v_style, some v_chance, some (.ref p_grid), some v_r, some (.ref p_row), o_c, o_land, none] ∧ (efD d).R (2 + i0 * 40 + i * 1) H0 H' ∧ Tg Hl1 H' ∧ H' p_row = some (.lst vs_row) ∧ Rps H' xs_row vs_row ∧ GridX H0 H' p_grid i0 a_columns.toNat p_row ∧ xs_row.length = i ∧ ∀ s ∈ xs_row, Sg s
      case h0_1 =>
        refine ⟨_, _, _, _, rfl, (efD d).mono g0 (by omega), Tg.refl _, hp_row, hr_row, hG_grid, ?_⟩
        · exact ⟨rfl, fun _ h => nomatch h⟩
      case hs_1 =>
        obtain ⟨xs_row, vs_row, o_c, o_land, rfl, g0, tg1, hp_row, hr_row, hG_grid, hI1⟩ := hP1
        have h_rows := PyI.tm tg1 h_rows
        have h_columns := PyI.tm tg1 h_columns
        have h_style := PyI.tm tg1 h_style
        have h_chance := PyI.tm tg1 h_chance
        have h_r := PyI.tm tg1 h_r
        have tg0 := tg0.trans tg1
        have hd := hd0.go g0
        have hle := (hle0.go g0).up (c := 2 ^ 50 + 4000) (by omega)
        obtain ⟨v_c, ev_c⟩ : ∃ v : V, v = V.int (i1 : Int) := ⟨_, rfl⟩
        rw [← ev_c]
        have h_c : Rp Hi1 (i1 : Int) v_c := ev_c
        refine q_asg (e := (efD d)) (er_gtA (ev_take hd hle (er_deal rfl) (er_var rfl h_chance) (by omega)) (er_d er_int)) fun v_land Hg7 g7 ⟨a_land, q_land, h_land⟩ => ?_
        have h_rows := PyI.tm ((efD d).tup g7) h_rows
        have h_columns := PyI.tm ((efD d).tup g7) h_columns
        have h_style := PyI.tm ((efD d).tup g7) h_style
        have h_chance := PyI.tm ((efD d).tup g7) h_chance
        have h_r := PyI.tm ((efD d).tup g7) h_r
        have hp_row := (efD d).oth g7 _ _ hp_row (nS hn_row)
        have hr_row := Rps.tm ((efD d).tup g7) hr_row
        have h_c := PyI.tm ((efD d).tup g7) h_c
        have tg0 := tg0.trans ((efD d).tup g7)
        have tg1 := tg1.trans ((efD d).tup g7)
        have hd := hd.go g7
        have hle := hle.go g7
        have hG_grid := hG_grid.go g7 nS
        have g0 := (efD d).trans g0 g7
        refine q_ifA (e := (efD d)) (P1 := fun _ => True) (et_tD (er_inI (er_var rfl h_style) (er_tup (eas_cons er_int (eas_cons er_int eas_nil)) (by simp)))) (fun c => (er_dA (er_notV (er_var rfl h_land)) True.intro)) rfl h_land (fun c => True.intro) fun a_land v_land Hg8 g8 q_land h_land => ?_
        have h_rows := PyI.tm ((efD d).tup g8) h_rows
        have h_columns := PyI.tm ((efD d).tup g8) h_columns
        have h_style := PyI.tm ((efD d).tup g8) h_style
        have h_chance := PyI.tm ((efD d).tup g8) h_chance
        have h_r := PyI.tm ((efD d).tup g8) h_r
        have hp_row := (efD d).oth g8 _ _ hp_row (nS hn_row)
        have hr_row := Rps.tm ((efD d).tup g8) hr_row
        have h_c := PyI.tm ((efD d).tup g8) h_c
        have tg0 := tg0.trans ((efD d).tup g8)
        have tg1 := tg1.trans ((efD d).tup g8)
        have hd := hd.go g8
        have hle := hle.go g8
        have hG_grid := hG_grid.go g8 nS
        have g0 := (efD d).trans g0 g8
        refine q_ifA (e := (efD d)) (P1 := fun _ => True) (et_tD (er_eq (er_var rfl h_style) er_int)) (fun c => (er_dA (er_eq (er_mod (er_min4 (er_var rfl h_r) (er_var rfl h_c) (er_sub (er_sub (er_var rfl h_rows) er_int) (er_var rfl h_r)) (er_sub (er_sub (er_var rfl h_columns) er_int) (er_var rfl h_c))) er_int (by decide)) er_int) True.intro)) rfl h_land (fun c => True.intro) fun a_land v_land Hg9 g9 q_land h_land => ?_
        have h_rows := PyI.tm ((efD d).tup g9) h_rows
        have h_columns := PyI.tm ((efD d).tup g9) h_columns
        have h_style := PyI.tm ((efD d).tup g9) h_style
        have h_chance := PyI.tm ((efD d).tup g9) h_chance
        have h_r := PyI.tm ((efD d).tup g9) h_r
        have hp_row := (efD d).oth g9 _ _ hp_row (nS hn_row)
        have hr_row := Rps.tm ((efD d).tup g9) hr_row
        have h_c := PyI.tm ((efD d).tup g9) h_c
        have tg0 := tg0.trans ((efD d).tup g9)
        have tg1 := tg1.trans ((efD d).tup g9)
        have hd := hd.go g9
        have hle := hle.go g9
        have hG_grid := hG_grid.go g9 nS
        have g0 := (efD d).trans g0 g9
        refine q_ifA (e := (efD d)) (P1 := fun _ => True) (et_tD (er_eq (er_var rfl h_style) er_int)) (fun c => (er_dA (er_orV (er_eq (er_mod (er_var rfl h_r) er_int (by decide)) er_int) fun hc => (er_eq (er_var rfl h_c) (er_ixL (er_rd (live_of hS g0) (er_lst (eas_cons er_int (eas_cons (er_sub (er_var rfl h_columns) er_int) eas_nil)) (by simp))) (er_mod (er_fdiv (er_var rfl h_r) er_int (⟨by decide, by decide⟩)) er_int (by decide)) (mod2_ok _)))) True.intro)) rfl h_land (fun c => True.intro) fun a_land v_land Hg10 g10 q_land h_land => ?_
        have h_rows := PyI.tm ((efD d).tup g10) h_rows
        have h_columns := PyI.tm ((efD d).tup g10) h_columns
        have h_style := PyI.tm ((efD d).tup g10) h_style
        have h_chance := PyI.tm ((efD d).tup g10) h_chance
        have h_r := PyI.tm ((efD d).tup g10) h_r
        have hp_row := (efD d).oth g10 _ _ hp_row (nS hn_row)
        have hr_row := Rps.tm ((efD d).tup g10) hr_row
        have h_c := PyI.tm ((efD d).tup g10) h_c
        have tg0 := tg0.trans ((efD d).tup g10)
        have tg1 := tg1.trans ((efD d).tup g10)
        have hd := hd.go g10
        have hle := hle.go g10
        have hG_grid := hG_grid.go g10 nS
        have g0 := (efD d).trans g0 g10
        refine q_ifA (e := (efD d)) (P1 := fun _ => True) (et_tD (er_eq (er_var rfl h_style) er_int)) (fun c => (er_dA (er_eq (er_mod (er_var rfl h_c) er_int (by decide)) er_int) True.intro)) rfl h_land (fun c => True.intro) fun a_land v_land Hg11 g11 q_land h_land => ?_
        have h_rows := PyI.tm ((efD d).tup g11) h_rows
        have h_columns := PyI.tm ((efD d).tup g11) h_columns
        have h_style := PyI.tm ((efD d).tup g11) h_style
        have h_chance := PyI.tm ((efD d).tup g11) h_chance
        have h_r := PyI.tm ((efD d).tup g11) h_r
        have hp_row := (efD d).oth g11 _ _ hp_row (nS hn_row)
        have hr_row := Rps.tm ((efD d).tup g11) hr_row
        have h_c := PyI.tm ((efD d).tup g11) h_c
        have tg0 := tg0.trans ((efD d).tup g11)
        have tg1 := tg1.trans ((efD d).tup g11)
        have hd := hd.go g11
        have hle := hle.go g11
        have hG_grid := hG_grid.go g11 nS
        have g0 := (efD d).trans g0 g11
        refine q_ifA (e := (efD d)) (P1 := fun _ => True) (et_tD (er_eq (er_var rfl h_style) er_int)) (fun c => (er_dA er_bl True.intro)) rfl h_land (fun c => True.intro) fun a_land v_land Hg12 g12 q_land h_land => ?_
        have h_rows := PyI.tm ((efD d).tup g12) h_rows
        have h_columns := PyI.tm ((efD d).tup g12) h_columns
        have h_style := PyI.tm ((efD d).tup g12) h_style
        have h_chance := PyI.tm ((efD d).tup g12) h_chance
        have h_r := PyI.tm ((efD d).tup g12) h_r
        have hp_row := (efD d).oth g12 _ _ hp_row (nS hn_row)
        have hr_row := Rps.tm ((efD d).tup g12) hr_row
        have h_c := PyI.tm ((efD d).tup g12) h_c
        have tg0 := tg0.trans ((efD d).tup g12)
        have tg1 := tg1.trans ((efD d).tup g12)
        have hd := hd.go g12
        have hle := hle.go g12
        have hG_grid := hG_grid.go g12 nS
        have g0 := (efD d).trans g0 g12
        refine q_ifA (e := (efD d)) (P1 := fun _ => True) (et_tD (er_eq (er_var rfl h_style) er_int)) (fun c => (er_dA er_bl True.intro)) rfl h_land (fun c => True.intro) fun a_land v_land Hg13 g13 q_land h_land => ?_
        have h_rows := PyI.tm ((efD d).tup g13) h_rows
        have h_columns := PyI.tm ((efD d).tup g13) h_columns
        have h_style := PyI.tm ((efD d).tup g13) h_style
        have h_chance := PyI.tm ((efD d).tup g13) h_chance
        have h_r := PyI.tm ((efD d).tup g13) h_r
        have hp_row := (efD d).oth g13 _ _ hp_row (nS hn_row)
        have hr_row := Rps.tm ((efD d).tup g13) hr_row
        have h_c := PyI.tm ((efD d).tup g13) h_c
        have tg0 := tg0.trans ((efD d).tup g13)
        have tg1 := tg1.trans ((efD d).tup g13)
        have hd := hd.go g13
        have hle := hle.go g13
        have hG_grid := hG_grid.go g13 nS
        have g0 := (efD d).trans g0 g13
        refine st_appC (e := (efD d)) rfl hp_row (nS hn_row) (by rw [← hr_row.len, hI1.1]; omega) (er_ifSg (et_BD (er_var rfl h_land))) fun v Hg14 Hcg14 g14 ⟨a, q, r⟩ cg14 => ?_
        have h_rows := PyI.tm ((efD d).tup g14) h_rows
        have h_columns := PyI.tm ((efD d).tup g14) h_columns
        have h_style := PyI.tm ((efD d).tup g14) h_style
        have h_chance := PyI.tm ((efD d).tup g14) h_chance
        have h_r := PyI.tm ((efD d).tup g14) h_r
        have hp_row := (efD d).oth g14 _ _ hp_row (nS hn_row)
        have hr_row := Rps.tm ((efD d).tup g14) hr_row
        have h_c := PyI.tm ((efD d).tup g14) h_c
        have h_land := PyI.tm ((efD d).tup g14) h_land
        have tg0 := tg0.trans ((efD d).tup g14)
        have tg1 := tg1.trans ((efD d).tup g14)
        have hd := hd.go g14
        have hle := hle.go g14
        have hG_grid := hG_grid.go g14 nS
        have g0 := (efD d).trans g0 g14
        have h_rows := PyI.tm cg14.t h_rows
        have h_columns := PyI.tm cg14.t h_columns
        have h_style := PyI.tm cg14.t h_style
        have h_chance := PyI.tm cg14.t h_chance
        have h_r := PyI.tm cg14.t h_r
        have h_c := PyI.tm cg14.t h_c
        have h_land := PyI.tm cg14.t h_land
        have tg0 := tg0.trans cg14.t
        have tg1 := tg1.trans cg14.t
        have hd := hd.chg hd0 hn_row cg14
        have hle := hle.chg hd0 hn_row cg14
        have hG_grid := hG_grid.chg cg14
        have g0 := cg14.g g0 hn_row
        have hp_row := cg14.here
        have hr_row := Rps.snoc (Rps.tm cg14.t hr_row) (PyI.tm cg14.t r)
        refine ⟨_, _, _, _, rfl, (efD d).mono g0 (by omega), tg1, hp_row, hr_row, hG_grid, ?_⟩
        · exact ⟨by rw [List.length_append, hI1.1]; rfl, fun s hs => (List.mem_append.mp hs).elim (hI1.2 s) fun hs => by rw [List.mem_singleton.mp hs]; exact q⟩
      case hd_1 =>
        obtain ⟨xs_row, vs_row, o_c, o_land, rfl, g0, tg1, hp_row, hr_row, hG_grid, hI1⟩ := hP1
        have h_rows := PyI.tm tg1 h_rows
        have h_columns := PyI.tm tg1 h_columns
        have h_style := PyI.tm tg1 h_style
        have h_chance := PyI.tm tg1 h_chance
        have h_r := PyI.tm tg1 h_r
        have tg0 := tg0.trans tg1
        have hd := hd0.go g0
        have hle := (hle0.go g0).up (c := 2 ^ 50 + 4000) (by omega)
        refine q_gapp (e := (efD d)) rfl rfl hG_grid hn_row hp_row hr_row hI1.1 hI1.2 (by omega) fun Hg15 _ tq gq nq hG_grid => ?_
        have h_rows := PyI.tm tq h_rows
        have h_columns := PyI.tm tq h_columns
        have h_style := PyI.tm tq h_style
        have h_chance := PyI.tm tq h_chance
        have h_r := PyI.tm tq h_r
        have tg0 := tg0.trans tq
        have hd := hd.keep hd0 (fun a o h => nq a (ne_of_none h hn_grid))
        have hle := hle.keep hd0 (fun a o h => nq a (ne_of_none h hn_grid))
        have g0 := gq g0 hn_grid
        refine ⟨_, _, _, _, rfl, (efD d).mono g0 (by omega), tg0, hG_grid, ?_⟩
        · exact True.intro
    case hd_0 =>
      obtain ⟨o_r, o_row, o_c, o_land, rfl, g0, tg0, hG_grid, hI0⟩ := hP0
      have h_rows := PyI.tm tg0 h_rows
      have h_columns := PyI.tm tg0 h_columns
      have h_style := PyI.tm tg0 h_style
      have h_chance := PyI.tm tg0 h_chance
      have hd := hd0.go g0
      have hle := (hle0.go g0).up (c := 2 ^ 50 + 4000) (by omega)
      refine q_forR1A (e := (efD d)) (ev_take hd hle (er_deal rfl) er_int (by decide)) (fun n h => by have := h.1; have := h.2; omega) fun nr2 Hl2 pn2 g16 => ?_
      have h_rows := PyI.tm ((efD d).tup g16) h_rows
      have h_columns := PyI.tm ((efD d).tup g16) h_columns
      have h_style := PyI.tm ((efD d).tup g16) h_style
      have h_chance := PyI.tm ((efD d).tup g16) h_chance
      have hd := hd.go g16
      have hle := hle.go g16
      have hG_grid := hG_grid.go g16 nS
      have g0 := (efD d).trans g0 g16
      refine ⟨?Pv2, ?h0_2, fun i2 σ2 Hi2 hi2 hP2 => ?hs_2, fun σ2 Hi2 hP2 => ?hd_2⟩
      case Pv2 => exact fun i σ' H' => ∃ (o_r : Option V) (o_c : Option V) (o_k : Option V), σ' = [some (.ref d.p), some v_rows, some v_columns, some v_style, some v_chance, some (.ref p_grid), o_r, o_row, o_c, o_land, o_k] ∧ (efD d).R (1700 + i * 2) H0 H' ∧ Tg Hl2 H' ∧ GridOk H0 H' p_grid a_rows.toNat a_columns.toNat ∧ True
      case h0_2 =>
        refine ⟨_, _, _, rfl, (efD d).mono g0 (by omega), Tg.refl _, hG_grid, ?_⟩
        · exact True.intro
      case hs_2 =>
        obtain ⟨o_r, o_c, o_k, rfl, g0, tg2, hG_grid, hI2⟩ := hP2
        have h_rows := PyI.tm tg2 h_rows
        have h_columns := PyI.tm tg2 h_columns
        have h_style := PyI.tm tg2 h_style
        have h_chance := PyI.tm tg2 h_chance
        have hd := hd0.go g0
        have hle := (hle0.go g0).up (c := 2 ^ 50 + 4000) (by have := pn2.1; have := pn2.2; omega)
        obtain ⟨v_k, ev_k⟩ : ∃ v : V, v = V.int (i2 : Int) := ⟨_, rfl⟩
        rw [← ev_k]
        have h_k : Rp Hi2 (i2 : Int) v_k := ev_k
        have pn2a := pn2.1
        have pn2b := pn2.2
        refine q_asg (e := (efD d)) (ev_take hd hle (er_deal rfl) (er_var rfl h_rows) (by omega)) fun v_r Hg17 g17 ⟨a_r, q_r, h_r⟩ => ?_
        have h_rows := PyI.tm ((efD d).tup g17) h_rows
        have h_columns := PyI.tm ((efD d).tup g17) h_columns
        have h_style := PyI.tm ((efD d).tup g17) h_style
        have h_chance := PyI.tm ((efD d).tup g17) h_chance
        have h_k := PyI.tm ((efD d).tup g17) h_k
        have tg2 := tg2.trans ((efD d).tup g17)
        have hd := hd.go g17
        have hle := hle.go g17
        have hG_grid := hG_grid.go g17 nS
        have g0 := (efD d).trans g0 g17
        refine q_asg (e := (efD d)) (ev_take hd hle (er_deal rfl) (er_var rfl h_columns) (by omega)) fun v_c Hg18 g18 ⟨a_c, q_c, h_c⟩ => ?_
        have h_rows := PyI.tm ((efD d).tup g18) h_rows
        have h_columns := PyI.tm ((efD d).tup g18) h_columns
        have h_style := PyI.tm ((efD d).tup g18) h_style
        have h_chance := PyI.tm ((efD d).tup g18) h_chance
        have h_r := PyI.tm ((efD d).tup g18) h_r
        have h_k := PyI.tm ((efD d).tup g18) h_k
        have tg2 := tg2.trans ((efD d).tup g18)
        have hd := hd.go g18
        have hle := hle.go g18
        have hG_grid := hG_grid.go g18 nS
        have g0 := (efD d).trans g0 g18
        refine st_flip (e := (efD d)) rfl rfl rfl h_r h_c hG_grid q_r.1 (by have := q_r.2; omega) q_c.1 (by have := q_c.2; omega) fun Hg19 tq gq kq hG_grid => ?_
        have h_rows := PyI.tm tq h_rows
        have h_columns := PyI.tm tq h_columns
        have h_style := PyI.tm tq h_style
        have h_chance := PyI.tm tq h_chance
        have h_r := PyI.tm tq h_r
        have h_c := PyI.tm tq h_c
        have h_k := PyI.tm tq h_k
        have tg2 := tg2.trans tq
        have hd := hd.keep hd0 (kq)
        have hle := hle.keep hd0 (kq)
        have g0 := gq g0 (fun _ h => h)
        refine ⟨_, _, _, rfl, (efD d).mono g0 (by omega), tg2, hG_grid, ?_⟩
        · exact True.intro
      case hd_2 =>
        obtain ⟨o_r, o_c, o_k, rfl, g0, tg2, hG_grid, hI2⟩ := hP2
        have h_rows := PyI.tm tg2 h_rows
        have h_columns := PyI.tm tg2 h_columns
        have h_style := PyI.tm tg2 h_style
        have h_chance := PyI.tm tg2 h_chance
        have hd := hd0.go g0
        have hle := (hle0.go g0).up (c := 2 ^ 50 + 4000) (by have := pn2.1; have := pn2.2; omega)
        have pn2a := pn2.1
        have pn2b := pn2.2
        have g0 := (efD d).mono g0 (show _ ≤ 1900 by omega)
        refine st_ret (e := (efD d)) (er_gjoin rfl hG_grid nS (by omega) (by omega) (fun _ => rfl) (fun _ => rfl)) fun v Hg20 g20 r => ?_
        exact kk _ _ ((efD d).mono ((efD d).trans g0 g20) (Nat.le_of_ble_eq_true rfl)) (retAA r (fun ch h => chartOf hr1 hr2 hc1 hc2 h.1 h.2))
def sp__law_scene (K : PySem.W.Frag) : Sp := fun vs H Q _ => ∃ (d : Dl) (a_most : Int) (v_most : V), vs = [.ref d.p, v_most] ∧ d.At H ∧ d.Le H (2 ^ 40) ∧ Rp H a_most v_most ∧ (1 ≤ a_most ∧ a_most ≤ 40) ∧ ∀ v H', (efD d).R (10000) H H' → isL3 (fun (ch : List Str) (a b : Sq) => Ch ch ∧ isLd ch a = true ∧ isLd ch b = true) H H' v → Q v H'
theorem ev__law_scene {K : PySem.W.Frag} {d : Dl} {σ : L2.St} {H : Hp} {E : XK} {t0 t1 : TE} {j0 j1 b : Nat} {a_most : Int} (hd : d.At H) (hle : d.Le H b) (h0 : EvR (efD d) j0 t0 σ H (isDl d)) (h1 : EvR (efD d) j1 t1 σ H (isD a_most)) (hp : 1 ≤ a_most ∧ a_most ≤ 40) (hb : b + 1000000 ≤ 2 ^ 40 := by exact Nat.le_of_ble_eq_true rfl) : EvR (efD d) (j0 + j1 + 10000) (tCall (sp__law_scene K) [] E (tCons t0 (tCons t1 tNil))) σ H (isL3 (fun (ch : List Str) (a b : Sq) => Ch ch ∧ isLd ch a = true ∧ isLd ch b = true)) := fun l H1 hm g Q q => by
  refine (ea2 h0 stay_Dl h1 back_D) l H1 (by omega) g _ fun vs H2 g2 ⟨w0, w1, ev, r0, r1⟩ => ?_
  cases r0; subst ev
  have gg := (efD d).trans g g2
  have hM : (efD d).M = 1000000 := rfl
  exact ⟨d, a_most, w1, rfl, hd.go gg, (hle.go gg).up (by omega), r1, hp, fun v H3 g3 r3 => q v H3 ((efD d).trans g2 g3) (back_L3 _ _ _ _ _ g2 r3)⟩
theorem ok__law_scene (F : At K mg "_law_scene" s__law_scene P__law_scene) (G : Glb mg) (H__law_grid : Has P w K mg base "_law_grid" 2 P__law_grid (sp__law_grid K)) (H__law_place : Has P w K mg base "_law_place" 2 P__law_place (sp__law_place K)) (H__law_set : Has P w K mg base "_law_set" 1 P__law_set (sp__law_set K)) (H__law_take : Has P w K mg base "_law_take" 1 P__law_take sp_take) : Has P w K mg base "_law_scene" 3 P__law_scene (sp__law_scene K) := by
  refine Has.of F sc__law_scene (fun vs H Q E h => ?_) (fun f cdv A outer s H0 vs Q E hr h => ?_)
  · obtain ⟨d, a_most, v_most, rfl, _⟩ := h
    rfl
  · obtain ⟨d, a_most, v_most, rfl, hd, hle, h_most, hpre, kk⟩ := h
    have sc := sc__law_scene
    refine ⟨_, (pss_cons (ps_set (i := 2) sc.nd rfl (Or.inl rfl) (pe_op op_add pe_int (pe_user H__law_take (hr.mono (by decide)) rfl (pa_cons (pv 0) (pa_cons (pv 1) pa_nil)))))
          (pss_cons (ps_set (i := 3) sc.nd rfl (Or.inl rfl) (pe_op op_add pe_int (pe_user H__law_take (hr.mono (by decide)) rfl (pa_cons (pv 0) (pa_cons (pv 1) pa_nil)))))
          (pss_cons (ps_set (i := 4) sc.nd rfl (Or.inl rfl) (pe_user H__law_grid (hr.mono (by decide)) rfl (pa_cons (pv 0) (pa_cons (pv 2) (pa_cons (pv 3) pa_nil)))))
          (pss_cons (ps_set (i := 5) sc.nd rfl (Or.inl rfl) (pe_user H__law_place (hr.mono (by decide)) rfl (pa_cons (pv 0) (pa_cons (pv 4) pa_nil))))
          (pss_cons (ps_set (i := 6) sc.nd rfl (Or.inl rfl) (pe_user H__law_place (hr.mono (by decide)) rfl (pa_cons (pv 0) (pa_cons (pv 4) pa_nil))))
          (pss_cons (ps_set (i := 7) sc.nd rfl (Or.inl rfl) (pe_user H__law_place (hr.mono (by decide)) rfl (pa_cons (pv 0) (pa_cons (pv 4) pa_nil))))
          (pss_cons (ps_if (PW.pt (pw_and (pt_cmpR op_gt (pe_user H__law_take (hr.mono (by decide)) rfl (pa_cons (pv 0) (pa_cons pe_int pa_nil))) pe_int (nomark _)) (pw_and1 (pt_cmpR op_gt (pe_op op_add (pe_callB call_abs (by rfl) G.abs (by decide +kernel) (pa_cons (pe_op op_sub (pe_ix ix_tup (pv 7) pe_int (fun _ _ => rfl)) (pe_ix ix_tup (pv 5) pe_int (fun _ _ => rfl))) pa_nil)) (pe_callB call_abs (by rfl) G.abs (by decide +kernel) (pa_cons (pe_op op_sub (pe_ix ix_tup (pv 7) pe_int (fun _ _ => rfl)) (pe_ix ix_tup (pv 5) pe_int (fun _ _ => rfl))) pa_nil))) (pe_op op_add (pe_callB call_abs (by rfl) G.abs (by decide +kernel) (pa_cons (pe_op op_sub (pe_ix ix_tup (pv 6) pe_int (fun _ _ => rfl)) (pe_ix ix_tup (pv 5) pe_int (fun _ _ => rfl))) pa_nil)) (pe_callB call_abs (by rfl) G.abs (by decide +kernel) (pa_cons (pe_op op_sub (pe_ix ix_tup (pv 6) pe_int (fun _ _ => rfl)) (pe_ix ix_tup (pv 5) pe_int (fun _ _ => rfl))) pa_nil))) (nomark _))))) (pss_one (ps_set (i := 6) sc.nd rfl (Or.inl rfl) (pv 7))) pss_nil)
          (pss_one (ps_ret (pe_lst (pa_cons (pe_user H__law_set (hr.mono (by decide)) rfl (pa_cons (pe_user H__law_set (hr.mono (by decide)) rfl (pa_cons (pv 4) (pa_cons (pv 5) (pa_cons pe_str pa_nil)))) (pa_cons (pv 6) (pa_cons pe_str pa_nil)))) (pa_cons (pv 5) (pa_cons (pv 6) pa_nil))))))))))))), ?_⟩
    have g0 : (efD d).R 0 H0 H0 := (efD d).refl H0
    have hd0 := hd
    have hle0 := hle
    have nS : ∀ {p : Addr}, H0 p = none → ¬ (efD d).S p := fun h => nS_D hd0 h
    have hS := live_D hd
    obtain ⟨hm1, hm2⟩ := hpre
    refine q_asg (e := (efD d)) (er_addA (er_d er_int) (ev_take hd hle (er_deal rfl) (er_var rfl h_most) (by omega))) fun v_rows Hg1 g1 ⟨a_rows, q_rows, h_rows⟩ => ?_
    have h_most := PyI.tm ((efD d).tup g1) h_most
    have hd := hd.go g1
    have hle := hle.go g1
    have g0 := (efD d).trans g0 g1
    obtain ⟨_, r0, rfl, ⟨hr1, hr2⟩, rfl⟩ := q_rows
    refine q_asg (e := (efD d)) (er_addA (er_d er_int) (ev_take hd hle (er_deal rfl) (er_var rfl h_most) (by omega))) fun v_columns Hg2 g2 ⟨a_columns, q_columns, h_columns⟩ => ?_
    have h_most := PyI.tm ((efD d).tup g2) h_most
    have h_rows := PyI.tm ((efD d).tup g2) h_rows
    have hd := hd.go g2
    have hle := hle.go g2
    have g0 := (efD d).trans g0 g2
    obtain ⟨_, c0, rfl, ⟨hc1, hc2⟩, rfl⟩ := q_columns
    refine q_asg (e := (efD d)) (ev__law_grid hd hle (er_deal rfl) (er_var rfl h_rows) (er_var rfl h_columns) (⟨by omega, by omega, by omega, by omega⟩)) fun v_chart Hg3 g3 ⟨a_chart, q_chart, h_chart⟩ => ?_
    have h_most := PyI.tm ((efD d).tup g3) h_most
    have h_rows := PyI.tm ((efD d).tup g3) h_rows
    have h_columns := PyI.tm ((efD d).tup g3) h_columns
    have hd := hd.go g3
    have hle := hle.go g3
    have g0 := (efD d).trans g0 g3
    refine q_asg (e := (efD d)) (ev__law_place hd hle (er_deal rfl) (er_var rfl h_chart) (q_chart.good)) fun v_a Hg4 g4 ⟨a_a, q_a, h_a⟩ => ?_
    have h_most := PyI.tm ((efD d).tup g4) h_most
    have h_rows := PyI.tm ((efD d).tup g4) h_rows
    have h_columns := PyI.tm ((efD d).tup g4) h_columns
    have h_chart := PyI.tm ((efD d).tup g4) h_chart
    have hd := hd.go g4
    have hle := hle.go g4
    have g0 := (efD d).trans g0 g4
    refine q_asg (e := (efD d)) (ev__law_place hd hle (er_deal rfl) (er_var rfl h_chart) (q_chart.good)) fun v_b Hg5 g5 ⟨a_b, q_b, h_b⟩ => ?_
    have h_most := PyI.tm ((efD d).tup g5) h_most
    have h_rows := PyI.tm ((efD d).tup g5) h_rows
    have h_columns := PyI.tm ((efD d).tup g5) h_columns
    have h_chart := PyI.tm ((efD d).tup g5) h_chart
    have h_a := PyI.tm ((efD d).tup g5) h_a
    have hd := hd.go g5
    have hle := hle.go g5
    have g0 := (efD d).trans g0 g5
    refine q_asg (e := (efD d)) (ev__law_place hd hle (er_deal rfl) (er_var rfl h_chart) (q_chart.good)) fun v_other Hg6 g6 ⟨a_other, q_other, h_other⟩ => ?_
    have h_most := PyI.tm ((efD d).tup g6) h_most
    have h_rows := PyI.tm ((efD d).tup g6) h_rows
    have h_columns := PyI.tm ((efD d).tup g6) h_columns
    have h_chart := PyI.tm ((efD d).tup g6) h_chart
    have h_a := PyI.tm ((efD d).tup g6) h_a
    have h_b := PyI.tm ((efD d).tup g6) h_b
    have hd := hd.go g6
    have hle := hle.go g6
    have g0 := (efD d).trans g0 g6
    refine q_ifA (e := (efD d)) (P1 := fun q : Sq => isSq a_chart q = true) (et_and (et_tA (er_gtA (ev_take hd hle (er_deal rfl) er_int (by decide)) (er_d er_int))) fun hc => (et_tD (er_gt (er_add (er_abs (er_sub (er_fst (er_var rfl h_other)) (er_fst (er_var rfl h_a)))) (er_abs (er_sub (er_snd (er_var rfl h_other)) (er_snd (er_var rfl h_a))))) (er_add (er_abs (er_sub (er_fst (er_var rfl h_b)) (er_fst (er_var rfl h_a)))) (er_abs (er_sub (er_snd (er_var rfl h_b)) (er_snd (er_var rfl h_a)))))))) (fun c => (er_dA (er_var rfl h_other) q_other)) rfl h_b (fun c => q_b) fun a_b v_b Hg7 g7 q_b h_b => ?_
    have h_most := PyI.tm ((efD d).tup g7) h_most
    have h_rows := PyI.tm ((efD d).tup g7) h_rows
    have h_columns := PyI.tm ((efD d).tup g7) h_columns
    have h_chart := PyI.tm ((efD d).tup g7) h_chart
    have h_a := PyI.tm ((efD d).tup g7) h_a
    have h_other := PyI.tm ((efD d).tup g7) h_other
    have hd := hd.go g7
    have hle := hle.go g7
    have g0 := (efD d).trans g0 g7
    refine st_ret (e := (efD d)) (er_l3 (ev__law_setA (ev__law_set (er_var rfl h_chart) (er_var rfl h_a) er_str (⟨q_chart.good, q_a, rfl⟩)) (er_d (er_var rfl h_b)) (er_d er_str) (fun c s g h1 h2 h3 => ⟨h1.good, by rw [h2]; exact h1.sq q_b, h3⟩)) (er_d (er_var rfl h_a)) (er_d (er_var rfl h_b))) fun v Hg8 g8 r => ?_
    exact kk _ _ ((efD d).mono ((efD d).trans g0 g8) (Nat.le_of_ble_eq_true rfl)) (retL3 g0 r (fun ch x y ⟨⟨c0, s, g, h1, h2, h3, h4⟩, hx, hy⟩ => ⟨h4.good, h4.keep _ (by rw [hx]; exact h1.here), by rw [hy, ← h2]; exact h4.here⟩))
theorem ok_law {fa : Addr} {fd : FuncData} (F : Fun K "law" "law" s_law fa fd) (G : Glb mg) (H__law_deal : Has P w K mg base "_law_deal" 1 P__law_deal (sp_deal K)) (H__law_dry : Has P w K mg base "_law_dry" 3 P__law_dry (sp__law_dry K)) (H__law_far : Has P w K mg base "_law_far" 3 P__law_far (sp__law_far K)) (H__law_number : Has P w K mg base "_law_number" 2 P__law_number (sp__law_number K)) (H__law_pick : Has P w K mg base "_law_pick" 2 P__law_pick (sp__law_pick K)) (H__law_scene : Has P w K mg base "_law_scene" 3 P__law_scene (sp__law_scene K)) (H__law_take : Has P w K mg base "_law_take" 1 P__law_take sp_take) (H_distance : Has P w K mg base "distance" 5 P_distance (sp_distance K)) : FnOk P w K mg base CX0 6 fa fd P_law (sp_law K) := by
  refine F.ok sc_law (fun vs H Q E h => ?_) (fun cdv A outer s Hent vs Q E hr h => ?_)
  · obtain ⟨a_script, ns, rfl, _⟩ := h
    rfl
  · obtain ⟨a_script, ns, rfl, h_script, hpre, kk⟩ := h
    have sc := sc_law
    refine ⟨_, (pss_cons (ps_set (i := 1) sc.nd rfl (Or.inl rfl) (pe_user H__law_deal (hr.mono (by decide)) rfl (pa_cons (pv 0) pa_nil)))
          (pss_cons (ps_set (i := 2) sc.nd rfl (Or.inl rfl) pe_int)
          (pss_cons (ps_if (pt_cmpR op_eq (pe_user H__law_take (hr.mono (by decide)) rfl (pa_cons (pv 1) (pa_cons pe_int pa_nil))) pe_int (nomark _)) (pss_one (ps_set (i := 2) sc.nd rfl (Or.inl rfl) pe_int)) pss_nil)
          (pss_cons (ps_asg (pe_user H__law_scene (hr.mono (by decide)) rfl (pa_cons (pv 1) (pa_cons (pv 2) pa_nil))) (pg_unl rfl (pgs_cons (pg_name (i := 3) sc.nd rfl (Or.inl rfl)) (pgs_cons (pg_name (i := 4) sc.nd rfl (Or.inl rfl)) (pgs_cons (pg_name (i := 5) sc.nd rfl (Or.inl rfl)) pgs_nil)))))
          (pss_cons (ps_set (i := 6) sc.nd rfl (Or.inr rfl) (pe_user H__law_far (hr.mono (by decide)) rfl (pa_cons (pv 3) (pa_cons (pv 4) pa_nil))))
          (pss_cons (ps_set (i := 7) sc.nd rfl (Or.inl rfl) (pe_user H__law_dry (hr.mono (by decide)) rfl (pa_cons (pv 3) pa_nil)))
          (pss_cons (ps_set (i := 8) sc.nd rfl (Or.inl rfl) (pe_op op_cat (pe_lst (pa_cons (pv 4) (pa_cons (pv 5) (pa_cons (pe_ix ix_list (pe_callTy (call_list_dT rfl) (by rfl) G.list (by decide +kernel) (pa_cons (pv 6) pa_nil)) (pe_un un_neg pe_int) (fun _ _ => rfl)) pa_nil)))) (pe_slice sl_list (pe_lc (own := [("spot", 10)]) (g := gName 10) rfl sc.nd (pi_list (pv 7)) (blkOk_by (N := N_law) (sc := defScope s_law) (by decide +kernel)) (fun _ _ _ _ _ => pg_name (i := 10) sc.nd rfl (Or.inl rfl)) (fun _ _ _ _ _ => (pts_one (pt_cmp (pc_dnotin (hu_of hr) (pv 10) (pv 6))))) (fun _ _ _ _ _ => (pv 10))) po_none (po_some pe_int))))
          (pss_cons (ps_for PassesOwn.never rfl (pi_range1 rfl G.range (pa_cons pe_int pa_nil)) (pg_name (i := 9) sc.nd rfl (Or.inl rfl))
          (pss_one (ps_expr (pe_bm PySem.F.plainAttrs_list PySem.F.slot_list_append PySem.F.type_list_append mt_append (pv 8) (pa_cons (pe_user H__law_pick (hr.mono (by decide)) rfl (pa_cons (pv 1) (pa_cons (pv 7) pa_nil))) pa_nil)))))
          (pss_cons (ps_for PassesOwn.never rfl (pi_list (pv 8)) (pg_name (i := 10) sc.nd rfl (Or.inl rfl))
          (pss_cons (ps_set (i := 11) sc.nd rfl (Or.inl rfl) (pe_ifExp (pt_cmp (pc_din (hu_of hr) (pv 10) (pv 6))) (pe_dget (hu_of hr) (pv 6) (pv 10) (fun _ _ => rfl)) pe_non))
          (pss_one (ps_if (PW.pt (pw_or (pt_not (pt_val (pe_user H__law_number (hr.mono (by decide)) rfl (pa_cons (pe_user H_distance (hr.mono (by decide)) rfl (pa_cons (pv 3) (pa_cons (pv 4) (pa_cons (pv 10) pa_nil)))) (pa_cons (pv 11) pa_nil))))) (pw_or1 (pt_not (pt_val (pe_user H__law_number (hr.mono (by decide)) rfl (pa_cons (pe_user H_distance (hr.mono (by decide)) rfl (pa_cons (pv 3) (pa_cons (pv 10) (pa_cons (pv 4) pa_nil)))) (pa_cons (pv 11) pa_nil)))))))) (pss_one (ps_ret pe_bl)) pss_nil))))
          (pss_one (ps_ret pe_bl))))))))))), ?_⟩
    refine q_asg (e := ef0) (ev_deal rfl h_script hpre) fun v_deal H0 _ ⟨d, e1, _, _, _, hd, hle⟩ => ?_
    subst e1
    have g0 : (efD d).R 0 H0 H0 := (efD d).refl H0
    have hd0 := hd
    have hle0 := hle
    have nS : ∀ {p : Addr}, H0 p = none → ¬ (efD d).S p := fun h => nS_D hd0 h
    have hS := live_D hd
    refine q_asg (e := (efD d)) er_int fun v_most Hg1 g1 h_most => ?_
    have hd := hd.go g1
    have hle := hle.go g1
    have g0 := (efD d).trans g0 g1
    refine q_ifA (e := (efD d)) (P1 := fun m : Int => 1 ≤ m ∧ m ≤ 40) (et_tA (er_eqA (ev_take hd hle (er_deal rfl) er_int (by decide)) (er_d er_int))) (fun c => (er_dA er_int ⟨by decide, by decide⟩)) rfl h_most (fun c => ⟨by decide, by decide⟩) fun a_most v_most Hg2 g2 q_most h_most => ?_
    have hd := hd.go g2
    have hle := hle.go g2
    have g0 := (efD d).trans g0 g2
    refine q_unl3 (e := (efD d)) (ev__law_scene hd hle (er_deal rfl) (er_var rfl h_most) (q_most)) fun a_chart a_a a_b v_chart v_a v_b Hg3 g3 q_chart_a_b h_chart h_a h_b => ?_
    have h_most := PyI.tm ((efD d).tup g3) h_most
    have hd := hd.go g3
    have hle := hle.go g3
    have g0 := (efD d).trans g0 g3
    refine q_asg (e := (efD d)) (ev__law_far (er_var rfl h_chart) (er_var rfl h_a) (⟨q_chart_a_b.1, q_chart_a_b.2.1⟩)) fun v_far Hg4 g4 ⟨xs_far, p_far, q_far, e_far, hn_far, hp_far⟩ => ?_
    subst e_far
    have hn_far := (efD d).free g0 hn_far
    have h_most := PyI.tm ((efD d).tup g4) h_most
    have h_chart := PyI.tm ((efD d).tup g4) h_chart
    have h_a := PyI.tm ((efD d).tup g4) h_a
    have h_b := PyI.tm ((efD d).tup g4) h_b
    have hd := hd.go g4
    have hle := hle.go g4
    have g0 := (efD d).trans g0 g4
    refine q_asg (e := (efD d)) (ev__law_dry (er_var rfl h_chart) (q_chart_a_b.1)) fun v_dry Hg5 g5 ⟨p_dry, vs_dry, e_dry, hn_dry, hp_dry, hr_dry⟩ => ?_
    subst e_dry
    have ne_far_dry := ne_of_none hp_far hn_dry
    have hn_dry := (efD d).free g0 hn_dry
    have h_most := PyI.tm ((efD d).tup g5) h_most
    have h_chart := PyI.tm ((efD d).tup g5) h_chart
    have h_a := PyI.tm ((efD d).tup g5) h_a
    have h_b := PyI.tm ((efD d).tup g5) h_b
    have hp_far := (efD d).oth g5 _ _ hp_far (nS hn_far)
    have hd := hd.go g5
    have hle := hle.go g5
    have g0 := (efD d).trans g0 g5
    refine q_asg (e := (efD d)) (er_cat (K := K) (er_rd (live_of hS g0) (er_lst (eas_cons (er_var rfl h_a) (eas_cons (er_var rfl h_b) (eas_cons (er_ixL (er_rd (live_of hS g0) (er_listd rfl hp_far (nS hn_far))) (er_neg er_int) (far_last q_far)) eas_nil))) (by simp))) (er_rd (live_of hS g0) (er_slL (er_rd (live_of hS g0) (er_lcF (fun q => !hasK xs_far q) (.inr (er_varL rfl (lsr_of hp_dry (nS hn_dry) hr_dry))) (dry_small q_chart_a_b.1) (fun _ => rfl) (fun a_spot v_spot _ _ m_spot gc h_spot => by have hp_far := (efD d).oth gc _ _ hp_far (nS hn_far); exact (et_BD (er_dnotin rfl hp_far (fun z => z) (er_var rfl h_spot)))) (fun a_spot v_spot _ _ m_spot c_spot gc h_spot => by have hp_far := (efD d).oth gc _ _ hp_far (nS hn_far); exact (er_var rfl h_spot)))) eo_none (eo_some er_int))) (asked_small)) fun v_asked Hg6 g6 ⟨p_asked, vs_asked, e_asked, hn_asked, hp_asked, hr_asked⟩ => ?_
    subst e_asked
    have ne_far_asked := ne_of_none hp_far hn_asked
    have ne_dry_asked := ne_of_none hp_dry hn_asked
    have hn_asked := (efD d).free g0 hn_asked
    have h_most := PyI.tm ((efD d).tup g6) h_most
    have h_chart := PyI.tm ((efD d).tup g6) h_chart
    have h_a := PyI.tm ((efD d).tup g6) h_a
    have h_b := PyI.tm ((efD d).tup g6) h_b
    have hp_far := (efD d).oth g6 _ _ hp_far (nS hn_far)
    have hp_dry := (efD d).oth g6 _ _ hp_dry (nS hn_dry)
    have hr_dry := Rps.tm ((efD d).tup g6) hr_dry
    have hd := hd.go g6
    have hle := hle.go g6
    have g0 := (efD d).trans g0 g6
    refine q_forR1C (e := (efD d)) (ea1v er_int) (by first | assumption | omega | decide) (by first | assumption | omega | decide) fun Hl0 g7 => ?_
    have h_most := PyI.tm ((efD d).tup g7) h_most
    have h_chart := PyI.tm ((efD d).tup g7) h_chart
    have h_a := PyI.tm ((efD d).tup g7) h_a
    have h_b := PyI.tm ((efD d).tup g7) h_b
    have hp_far := (efD d).oth g7 _ _ hp_far (nS hn_far)
    have hp_dry := (efD d).oth g7 _ _ hp_dry (nS hn_dry)
    have hr_dry := Rps.tm ((efD d).tup g7) hr_dry
    have hp_asked := (efD d).oth g7 _ _ hp_asked (nS hn_asked)
    have hr_asked := Rps.tm ((efD d).tup g7) hr_asked
    have hd := hd.go g7
    have hle := hle.go g7
    have g0 := (efD d).trans g0 g7
    refine ⟨?Pv0, ?h0_0, fun i0 σ0 Hi0 hi0 hP0 => ?hs_0, fun σ0 Hi0 hP0 => ?hd_0⟩
    case Pv0 => exact fun i σ' H' => ∃ (xs_asked : List Sq) (vs_asked : List V) (o_turn : Option V), σ' = [some (.ref a_script), some (.ref d.p), some v_most, some v_chart, some v_a, some v_b, some (.ref p_far), some (.ref p_dry), some (.ref p_asked), o_turn, none, none] ∧ (efD d).R (20000 + i * 20) H0 H' ∧ Tg Hl0 H' ∧ H' p_asked = some (.lst vs_asked) ∧ Rps H' xs_asked vs_asked ∧ H' p_far = some (.dT (DI xs_far)) ∧ H' p_dry = some (.lst vs_dry) ∧ xs_asked.length ≤ 100 + i ∧ ∀ q ∈ xs_asked, isLd a_chart q = true
    case h0_0 =>
      refine ⟨_, _, _, rfl, (efD d).mono g0 (by omega), Tg.refl _, hp_asked, hr_asked, hp_far, hp_dry, ?_⟩
      · exact asked0 q_chart_a_b.2.1 q_chart_a_b.2.2 q_far
    case hs_0 =>
      obtain ⟨xs_asked, vs_asked, o_turn, rfl, g0, tg0, hp_asked, hr_asked, hp_far, hp_dry, hI0⟩ := hP0
      have h_most := PyI.tm tg0 h_most
      have h_chart := PyI.tm tg0 h_chart
      have h_a := PyI.tm tg0 h_a
      have h_b := PyI.tm tg0 h_b
      have hr_dry := Rps.tm tg0 hr_dry
      have hd := hd0.go g0
      have hle := (hle0.go g0).up (c := 100000) (by omega)
      obtain ⟨v_turn, ev_turn⟩ : ∃ v : V, v = V.int (i0 : Int) := ⟨_, rfl⟩
      rw [← ev_turn]
      have h_turn : Rp Hi0 (i0 : Int) v_turn := ev_turn
      refine st_appC (e := (efD d)) rfl hp_asked (nS hn_asked) (by rw [← hr_asked.len]; omega) (ev__law_pick hd hle (er_deal rfl) (er_varL rfl (lsr_of hp_dry (nS hn_dry) hr_dry)) (dry_pos q_chart_a_b.2.1)) fun v Hg8 Hcg8 g8 ⟨a, q, r⟩ cg8 => ?_
      have h_most := PyI.tm ((efD d).tup g8) h_most
      have h_chart := PyI.tm ((efD d).tup g8) h_chart
      have h_a := PyI.tm ((efD d).tup g8) h_a
      have h_b := PyI.tm ((efD d).tup g8) h_b
      have hp_far := (efD d).oth g8 _ _ hp_far (nS hn_far)
      have hp_dry := (efD d).oth g8 _ _ hp_dry (nS hn_dry)
      have hr_dry := Rps.tm ((efD d).tup g8) hr_dry
      have hp_asked := (efD d).oth g8 _ _ hp_asked (nS hn_asked)
      have hr_asked := Rps.tm ((efD d).tup g8) hr_asked
      have h_turn := PyI.tm ((efD d).tup g8) h_turn
      have tg0 := tg0.trans ((efD d).tup g8)
      have hd := hd.go g8
      have hle := hle.go g8
      have g0 := (efD d).trans g0 g8
      have h_most := PyI.tm cg8.t h_most
      have h_chart := PyI.tm cg8.t h_chart
      have h_a := PyI.tm cg8.t h_a
      have h_b := PyI.tm cg8.t h_b
      have hp_far := cg8.lst ne_far_asked hp_far
      have hp_dry := cg8.lst ne_dry_asked hp_dry
      have hr_dry := Rps.tm cg8.t hr_dry
      have h_turn := PyI.tm cg8.t h_turn
      have tg0 := tg0.trans cg8.t
      have hd := hd.chg hd0 hn_asked cg8
      have hle := hle.chg hd0 hn_asked cg8
      have g0 := cg8.g g0 hn_asked
      have hp_asked := cg8.here
      have hr_asked := Rps.snoc (Rps.tm cg8.t hr_asked) (PyI.tm cg8.t r)
      refine ⟨_, _, _, rfl, (efD d).mono g0 (by omega), tg0, hp_asked, hr_asked, hp_far, hp_dry, ?_⟩
      · exact ⟨by rw [List.length_append, List.length_singleton]; omega, fun s hs => (List.mem_append.mp hs).elim (hI0.2 s) fun hs => by rw [List.mem_singleton.mp hs]; exact (List.mem_filter.mp q).2⟩
    case hd_0 =>
      obtain ⟨xs_asked, vs_asked, o_turn, rfl, g0, tg0, hp_asked, hr_asked, hp_far, hp_dry, hI0⟩ := hP0
      have h_most := PyI.tm tg0 h_most
      have h_chart := PyI.tm tg0 h_chart
      have h_a := PyI.tm tg0 h_a
      have h_b := PyI.tm tg0 h_b
      have hr_dry := Rps.tm tg0 hr_dry
      have hd := hd0.go g0
      have hle := (hle0.go g0).up (c := 100000) (by omega)
      have e4 : (4 : Int).toNat = 4 := rfl
      rw [e4] at g0
      refine q_forV rfl hp_asked hr_asked ⟨?Pv1, ?h0_1, fun i1 σ1 Hi1 hP1 => ?hl_1, fun i1 a_spot v_spot σ1 Hi1 hi1 ra1 hP1 => ?hs_1, fun σ1 Hi1 hP1 => ?hd_1⟩
      case Pv1 => exact fun i σ' H' => ∃ (o_spot : Option V) (o_due : Option V), σ' = [some (.ref a_script), some (.ref d.p), some v_most, some v_chart, some v_a, some v_b, some (.ref p_far), some (.ref p_dry), some (.ref p_asked), o_turn, o_spot, o_due] ∧ (efD d).R (30000 + i * 0) H0 H' ∧ Tg Hi0 H' ∧ H' p_far = some (.dT (DI xs_far)) ∧ H' p_dry = some (.lst vs_dry) ∧ H' p_asked = some (.lst vs_asked) ∧ ∀ q ∈ xs_asked, isLd a_chart q = true
      case h0_1 =>
        refine ⟨_, _, rfl, (efD d).mono g0 (by omega), Tg.refl _, hp_far, hp_dry, hp_asked, ?_⟩
        · exact hI0.2
      case hl_1 =>
        obtain ⟨o_spot, o_due, rfl, g0, tg1, hp_far, hp_dry, hp_asked, hI1⟩ := hP1
        exact hp_asked
      case hs_1 =>
        obtain ⟨o_spot, o_due, rfl, g0, tg1, hp_far, hp_dry, hp_asked, hI1⟩ := hP1
        have h_most := PyI.tm tg1 h_most
        have h_chart := PyI.tm tg1 h_chart
        have h_a := PyI.tm tg1 h_a
        have h_b := PyI.tm tg1 h_b
        have hr_dry := Rps.tm tg1 hr_dry
        have hr_asked := Rps.tm tg1 hr_asked
        have hd := hd0.go g0
        have hle := (hle0.go g0).up (c := 100000) (by omega)
        have h_spot := PyI.tm tg1 ra1
        refine q_asg (e := (efD d)) (er_look rfl hp_far (nS hn_far) (er_var rfl h_spot) (er_var rfl h_spot)) fun v_due Hg10 g10 h_due => ?_
        have h_most := PyI.tm ((efD d).tup g10) h_most
        have h_chart := PyI.tm ((efD d).tup g10) h_chart
        have h_a := PyI.tm ((efD d).tup g10) h_a
        have h_b := PyI.tm ((efD d).tup g10) h_b
        have hp_far := (efD d).oth g10 _ _ hp_far (nS hn_far)
        have hp_dry := (efD d).oth g10 _ _ hp_dry (nS hn_dry)
        have hr_dry := Rps.tm ((efD d).tup g10) hr_dry
        have hp_asked := (efD d).oth g10 _ _ hp_asked (nS hn_asked)
        have hr_asked := Rps.tm ((efD d).tup g10) hr_asked
        have h_spot := PyI.tm ((efD d).tup g10) h_spot
        have tg1 := tg1.trans ((efD d).tup g10)
        have hd := hd.go g10
        have hle := hle.go g10
        have g0 := (efD d).trans g0 g10
        refine st_if (e := (efD d)) (et_or (et_not (et_BA (ev__law_numberA (ev_distance (er_var rfl h_chart) (er_var rfl h_a) (er_var rfl h_spot) (⟨q_chart_a_b.1, hI1 _ (List.mem_of_getElem? hi1)⟩)) (er_d (er_var rfl h_due))))) fun hc => (et_not (et_BA (ev__law_numberA (ev_distance (er_var rfl h_chart) (er_var rfl h_spot) (er_var rfl h_a) (⟨q_chart_a_b.1, q_chart_a_b.2.1⟩)) (er_d (er_var rfl h_due)))))) (fun cc11 Hc11 gc11 => ?_) (fun cc11 Hc11 gc11 => ?_)
        ·
          have h_most := PyI.tm ((efD d).tup gc11) h_most
          have h_chart := PyI.tm ((efD d).tup gc11) h_chart
          have h_a := PyI.tm ((efD d).tup gc11) h_a
          have h_b := PyI.tm ((efD d).tup gc11) h_b
          have hp_far := (efD d).oth gc11 _ _ hp_far (nS hn_far)
          have hp_dry := (efD d).oth gc11 _ _ hp_dry (nS hn_dry)
          have hr_dry := Rps.tm ((efD d).tup gc11) hr_dry
          have hp_asked := (efD d).oth gc11 _ _ hp_asked (nS hn_asked)
          have hr_asked := Rps.tm ((efD d).tup gc11) hr_asked
          have h_spot := PyI.tm ((efD d).tup gc11) h_spot
          have h_due := PyI.tm ((efD d).tup gc11) h_due
          have tg1 := tg1.trans ((efD d).tup gc11)
          have hd := hd.go gc11
          have hle := hle.go gc11
          have g0 := (efD d).trans g0 gc11
          exact (law_no q_far (hI1 _ (List.mem_of_getElem? hi1)) q_chart_a_b.2.1 cc11).elim
        ·
          have h_most := PyI.tm ((efD d).tup gc11) h_most
          have h_chart := PyI.tm ((efD d).tup gc11) h_chart
          have h_a := PyI.tm ((efD d).tup gc11) h_a
          have h_b := PyI.tm ((efD d).tup gc11) h_b
          have hp_far := (efD d).oth gc11 _ _ hp_far (nS hn_far)
          have hp_dry := (efD d).oth gc11 _ _ hp_dry (nS hn_dry)
          have hr_dry := Rps.tm ((efD d).tup gc11) hr_dry
          have hp_asked := (efD d).oth gc11 _ _ hp_asked (nS hn_asked)
          have hr_asked := Rps.tm ((efD d).tup gc11) hr_asked
          have h_spot := PyI.tm ((efD d).tup gc11) h_spot
          have h_due := PyI.tm ((efD d).tup gc11) h_due
          have tg1 := tg1.trans ((efD d).tup gc11)
          have hd := hd.go gc11
          have hle := hle.go gc11
          have g0 := (efD d).trans g0 gc11
          refine st_next ?_
          refine ⟨_, _, rfl, (efD d).mono g0 (by omega), tg1, hp_far, hp_dry, hp_asked, ?_⟩
          · exact hI1
      case hd_1 =>
        obtain ⟨o_spot, o_due, rfl, g0, tg1, hp_far, hp_dry, hp_asked, hI1⟩ := hP1
        have h_most := PyI.tm tg1 h_most
        have h_chart := PyI.tm tg1 h_chart
        have h_a := PyI.tm tg1 h_a
        have h_b := PyI.tm tg1 h_b
        have hr_dry := Rps.tm tg1 hr_dry
        have hr_asked := Rps.tm tg1 hr_asked
        have hd := hd0.go g0
        have hle := (hle0.go g0).up (c := 100000) (by omega)
        refine st_ret (e := (efD d)) er_bl fun v Hg12 g12 r => ?_
        cases r
        exact kk _
end
end W

namespace W
open PySem PySem.Spec L2 Z
section
theorem all_mk {l : PySem.W.OpenLaw} {w : World} {K : PySem.W.Frag} {h : Heap} {mg : Str → Option Value} {fa f_is_square f_is_land f_side_neighbours f_land_beside f_steps_from f_distance f__law_in f__law_at f__law_all f__law_dry f__law_sides f__law_whole f__law_number f__law_far f__law_set f__law_deal f__law_take f__law_pick f__law_place f__law_grid f__law_scene f_law : Addr} (X : K.In h) (G : h.Ns mainGlobals mg) (hfa : mg "law" = some (.ref fa))
    {od_is_square an_is_square : Option Addr} {od_is_land an_is_land : Option Addr} {od_side_neighbours an_side_neighbours : Option Addr} {od_land_beside an_land_beside : Option Addr} {od_steps_from an_steps_from : Option Addr} {od_distance an_distance : Option Addr} {od__law_in an__law_in : Option Addr} {od__law_at an__law_at : Option Addr} {od__law_all an__law_all : Option Addr} {od__law_dry an__law_dry : Option Addr} {od__law_sides an__law_sides : Option Addr} {od__law_whole an__law_whole : Option Addr} {od__law_number an__law_number : Option Addr} {od__law_far an__law_far : Option Addr} {od__law_set an__law_set : Option Addr} {od__law_deal an__law_deal : Option Addr} {od__law_take an__law_take : Option Addr} {od__law_pick an__law_pick : Option Addr} {od__law_place an__law_place : Option Addr} {od__law_grid an__law_grid : Option Addr} {od__law_scene an__law_scene : Option Addr} {od_law an_law : Option Addr} {sl_is_square : Array (Option Value)} {oc_is_square kV_is_square dc_is_square pm_is_square cd_is_square ct_is_square : Value} {sl_is_land : Array (Option Value)} {oc_is_land kV_is_land dc_is_land pm_is_land cd_is_land ct_is_land : Value} {sl_side_neighbours : Array (Option Value)} {oc_side_neighbours kV_side_neighbours dc_side_neighbours pm_side_neighbours cd_side_neighbours ct_side_neighbours : Value} {sl_land_beside : Array (Option Value)} {oc_land_beside kV_land_beside dc_land_beside pm_land_beside cd_land_beside ct_land_beside : Value} {sl_steps_from : Array (Option Value)} {oc_steps_from kV_steps_from dc_steps_from pm_steps_from cd_steps_from ct_steps_from : Value} {sl_distance : Array (Option Value)} {oc_distance kV_distance dc_distance pm_distance cd_distance ct_distance : Value} {sl__law_in : Array (Option Value)} {oc__law_in kV__law_in dc__law_in pm__law_in cd__law_in ct__law_in : Value} {sl__law_at : Array (Option Value)} {oc__law_at kV__law_at dc__law_at pm__law_at cd__law_at ct__law_at : Value} {sl__law_all : Array (Option Value)} {oc__law_all kV__law_all dc__law_all pm__law_all cd__law_all ct__law_all : Value} {sl__law_dry : Array (Option Value)} {oc__law_dry kV__law_dry dc__law_dry pm__law_dry cd__law_dry ct__law_dry : Value} {sl__law_sides : Array (Option Value)} {oc__law_sides kV__law_sides dc__law_sides pm__law_sides cd__law_sides ct__law_sides : Value} {sl__law_whole : Array (Option Value)} {oc__law_whole kV__law_whole dc__law_whole pm__law_whole cd__law_whole ct__law_whole : Value} {sl__law_number : Array (Option Value)} {oc__law_number kV__law_number dc__law_number pm__law_number cd__law_number ct__law_number : Value} {sl__law_far : Array (Option Value)} {oc__law_far kV__law_far dc__law_far pm__law_far cd__law_far ct__law_far : Value} {sl__law_set : Array (Option Value)} {oc__law_set kV__law_set dc__law_set pm__law_set cd__law_set ct__law_set : Value} {sl__law_deal : Array (Option Value)} {oc__law_deal kV__law_deal dc__law_deal pm__law_deal cd__law_deal ct__law_deal : Value} {sl__law_take : Array (Option Value)} {oc__law_take kV__law_take dc__law_take pm__law_take cd__law_take ct__law_take : Value} {sl__law_pick : Array (Option Value)} {oc__law_pick kV__law_pick dc__law_pick pm__law_pick cd__law_pick ct__law_pick : Value} {sl__law_place : Array (Option Value)} {oc__law_place kV__law_place dc__law_place pm__law_place cd__law_place ct__law_place : Value} {sl__law_grid : Array (Option Value)} {oc__law_grid kV__law_grid dc__law_grid pm__law_grid cd__law_grid ct__law_grid : Value} {sl__law_scene : Array (Option Value)} {oc__law_scene kV__law_scene dc__law_scene pm__law_scene cd__law_scene ct__law_scene : Value} {sl_law : Array (Option Value)} {oc_law kV_law dc_law pm_law cd_law ct_law : Value}
    (a_is_square : PySem.W.nsIn K mainGlobals "is_square" = some (some (.ref f_is_square))) (l_is_square : K.lookup f_is_square = some ⟨oc_is_square, od_is_square, .func (PySem.W.fnOf "is_square" "is_square" (defArgs s_is_square) (defBody s_is_square) (defScope s_is_square) .none kV_is_square dc_is_square pm_is_square an_is_square cd_is_square ct_is_square), sl_is_square⟩) (c_is_square : PySem.W.codeIn K cd_is_square "is_square" = true) (k_is_square : PySem.W.keepIn K (.ref f_is_square) = true)
    (a_is_land : PySem.W.nsIn K mainGlobals "is_land" = some (some (.ref f_is_land))) (l_is_land : K.lookup f_is_land = some ⟨oc_is_land, od_is_land, .func (PySem.W.fnOf "is_land" "is_land" (defArgs s_is_land) (defBody s_is_land) (defScope s_is_land) .none kV_is_land dc_is_land pm_is_land an_is_land cd_is_land ct_is_land), sl_is_land⟩) (c_is_land : PySem.W.codeIn K cd_is_land "is_land" = true) (k_is_land : PySem.W.keepIn K (.ref f_is_land) = true)
    (a_side_neighbours : PySem.W.nsIn K mainGlobals "side_neighbours" = some (some (.ref f_side_neighbours))) (l_side_neighbours : K.lookup f_side_neighbours = some ⟨oc_side_neighbours, od_side_neighbours, .func (PySem.W.fnOf "side_neighbours" "side_neighbours" (defArgs s_side_neighbours) (defBody s_side_neighbours) (defScope s_side_neighbours) .none kV_side_neighbours dc_side_neighbours pm_side_neighbours an_side_neighbours cd_side_neighbours ct_side_neighbours), sl_side_neighbours⟩) (c_side_neighbours : PySem.W.codeIn K cd_side_neighbours "side_neighbours" = true) (k_side_neighbours : PySem.W.keepIn K (.ref f_side_neighbours) = true)
    (a_land_beside : PySem.W.nsIn K mainGlobals "land_beside" = some (some (.ref f_land_beside))) (l_land_beside : K.lookup f_land_beside = some ⟨oc_land_beside, od_land_beside, .func (PySem.W.fnOf "land_beside" "land_beside" (defArgs s_land_beside) (defBody s_land_beside) (defScope s_land_beside) .none kV_land_beside dc_land_beside pm_land_beside an_land_beside cd_land_beside ct_land_beside), sl_land_beside⟩) (c_land_beside : PySem.W.codeIn K cd_land_beside "land_beside" = true) (k_land_beside : PySem.W.keepIn K (.ref f_land_beside) = true)
    (a_steps_from : PySem.W.nsIn K mainGlobals "steps_from" = some (some (.ref f_steps_from))) (l_steps_from : K.lookup f_steps_from = some ⟨oc_steps_from, od_steps_from, .func (PySem.W.fnOf "steps_from" "steps_from" (defArgs s_steps_from) (defBody s_steps_from) (defScope s_steps_from) .none kV_steps_from dc_steps_from pm_steps_from an_steps_from cd_steps_from ct_steps_from), sl_steps_from⟩) (c_steps_from : PySem.W.codeIn K cd_steps_from "steps_from" = true) (k_steps_from : PySem.W.keepIn K (.ref f_steps_from) = true)
    (a_distance : PySem.W.nsIn K mainGlobals "distance" = some (some (.ref f_distance))) (l_distance : K.lookup f_distance = some ⟨oc_distance, od_distance, .func (PySem.W.fnOf "distance" "distance" (defArgs s_distance) (defBody s_distance) (defScope s_distance) .none kV_distance dc_distance pm_distance an_distance cd_distance ct_distance), sl_distance⟩) (c_distance : PySem.W.codeIn K cd_distance "distance" = true) (k_distance : PySem.W.keepIn K (.ref f_distance) = true)
    (a__law_in : PySem.W.nsIn K mainGlobals "_law_in" = some (some (.ref f__law_in))) (l__law_in : K.lookup f__law_in = some ⟨oc__law_in, od__law_in, .func (PySem.W.fnOf "_law_in" "_law_in" (defArgs s__law_in) (defBody s__law_in) (defScope s__law_in) .none kV__law_in dc__law_in pm__law_in an__law_in cd__law_in ct__law_in), sl__law_in⟩) (c__law_in : PySem.W.codeIn K cd__law_in "_law_in" = true) (k__law_in : PySem.W.keepIn K (.ref f__law_in) = true)
    (a__law_at : PySem.W.nsIn K mainGlobals "_law_at" = some (some (.ref f__law_at))) (l__law_at : K.lookup f__law_at = some ⟨oc__law_at, od__law_at, .func (PySem.W.fnOf "_law_at" "_law_at" (defArgs s__law_at) (defBody s__law_at) (defScope s__law_at) .none kV__law_at dc__law_at pm__law_at an__law_at cd__law_at ct__law_at), sl__law_at⟩) (c__law_at : PySem.W.codeIn K cd__law_at "_law_at" = true) (k__law_at : PySem.W.keepIn K (.ref f__law_at) = true)
    (a__law_all : PySem.W.nsIn K mainGlobals "_law_all" = some (some (.ref f__law_all))) (l__law_all : K.lookup f__law_all = some ⟨oc__law_all, od__law_all, .func (PySem.W.fnOf "_law_all" "_law_all" (defArgs s__law_all) (defBody s__law_all) (defScope s__law_all) .none kV__law_all dc__law_all pm__law_all an__law_all cd__law_all ct__law_all), sl__law_all⟩) (c__law_all : PySem.W.codeIn K cd__law_all "_law_all" = true) (k__law_all : PySem.W.keepIn K (.ref f__law_all) = true)
    (a__law_dry : PySem.W.nsIn K mainGlobals "_law_dry" = some (some (.ref f__law_dry))) (l__law_dry : K.lookup f__law_dry = some ⟨oc__law_dry, od__law_dry, .func (PySem.W.fnOf "_law_dry" "_law_dry" (defArgs s__law_dry) (defBody s__law_dry) (defScope s__law_dry) .none kV__law_dry dc__law_dry pm__law_dry an__law_dry cd__law_dry ct__law_dry), sl__law_dry⟩) (c__law_dry : PySem.W.codeIn K cd__law_dry "_law_dry" = true) (k__law_dry : PySem.W.keepIn K (.ref f__law_dry) = true)
    (a__law_sides : PySem.W.nsIn K mainGlobals "_law_sides" = some (some (.ref f__law_sides))) (l__law_sides : K.lookup f__law_sides = some ⟨oc__law_sides, od__law_sides, .func (PySem.W.fnOf "_law_sides" "_law_sides" (defArgs s__law_sides) (defBody s__law_sides) (defScope s__law_sides) .none kV__law_sides dc__law_sides pm__law_sides an__law_sides cd__law_sides ct__law_sides), sl__law_sides⟩) (c__law_sides : PySem.W.codeIn K cd__law_sides "_law_sides" = true) (k__law_sides : PySem.W.keepIn K (.ref f__law_sides) = true)
    (a__law_whole : PySem.W.nsIn K mainGlobals "_law_whole" = some (some (.ref f__law_whole))) (l__law_whole : K.lookup f__law_whole = some ⟨oc__law_whole, od__law_whole, .func (PySem.W.fnOf "_law_whole" "_law_whole" (defArgs s__law_whole) (defBody s__law_whole) (defScope s__law_whole) .none kV__law_whole dc__law_whole pm__law_whole an__law_whole cd__law_whole ct__law_whole), sl__law_whole⟩) (c__law_whole : PySem.W.codeIn K cd__law_whole "_law_whole" = true) (k__law_whole : PySem.W.keepIn K (.ref f__law_whole) = true)
    (a__law_number : PySem.W.nsIn K mainGlobals "_law_number" = some (some (.ref f__law_number))) (l__law_number : K.lookup f__law_number = some ⟨oc__law_number, od__law_number, .func (PySem.W.fnOf "_law_number" "_law_number" (defArgs s__law_number) (defBody s__law_number) (defScope s__law_number) .none kV__law_number dc__law_number pm__law_number an__law_number cd__law_number ct__law_number), sl__law_number⟩) (c__law_number : PySem.W.codeIn K cd__law_number "_law_number" = true) (k__law_number : PySem.W.keepIn K (.ref f__law_number) = true)
    (a__law_far : PySem.W.nsIn K mainGlobals "_law_far" = some (some (.ref f__law_far))) (l__law_far : K.lookup f__law_far = some ⟨oc__law_far, od__law_far, .func (PySem.W.fnOf "_law_far" "_law_far" (defArgs s__law_far) (defBody s__law_far) (defScope s__law_far) .none kV__law_far dc__law_far pm__law_far an__law_far cd__law_far ct__law_far), sl__law_far⟩) (c__law_far : PySem.W.codeIn K cd__law_far "_law_far" = true) (k__law_far : PySem.W.keepIn K (.ref f__law_far) = true)
    (a__law_set : PySem.W.nsIn K mainGlobals "_law_set" = some (some (.ref f__law_set))) (l__law_set : K.lookup f__law_set = some ⟨oc__law_set, od__law_set, .func (PySem.W.fnOf "_law_set" "_law_set" (defArgs s__law_set) (defBody s__law_set) (defScope s__law_set) .none kV__law_set dc__law_set pm__law_set an__law_set cd__law_set ct__law_set), sl__law_set⟩) (c__law_set : PySem.W.codeIn K cd__law_set "_law_set" = true) (k__law_set : PySem.W.keepIn K (.ref f__law_set) = true)
    (a__law_deal : PySem.W.nsIn K mainGlobals "_law_deal" = some (some (.ref f__law_deal))) (l__law_deal : K.lookup f__law_deal = some ⟨oc__law_deal, od__law_deal, .func (PySem.W.fnOf "_law_deal" "_law_deal" (defArgs s__law_deal) (defBody s__law_deal) (defScope s__law_deal) .none kV__law_deal dc__law_deal pm__law_deal an__law_deal cd__law_deal ct__law_deal), sl__law_deal⟩) (c__law_deal : PySem.W.codeIn K cd__law_deal "_law_deal" = true) (k__law_deal : PySem.W.keepIn K (.ref f__law_deal) = true)
    (a__law_take : PySem.W.nsIn K mainGlobals "_law_take" = some (some (.ref f__law_take))) (l__law_take : K.lookup f__law_take = some ⟨oc__law_take, od__law_take, .func (PySem.W.fnOf "_law_take" "_law_take" (defArgs s__law_take) (defBody s__law_take) (defScope s__law_take) .none kV__law_take dc__law_take pm__law_take an__law_take cd__law_take ct__law_take), sl__law_take⟩) (c__law_take : PySem.W.codeIn K cd__law_take "_law_take" = true) (k__law_take : PySem.W.keepIn K (.ref f__law_take) = true)
    (a__law_pick : PySem.W.nsIn K mainGlobals "_law_pick" = some (some (.ref f__law_pick))) (l__law_pick : K.lookup f__law_pick = some ⟨oc__law_pick, od__law_pick, .func (PySem.W.fnOf "_law_pick" "_law_pick" (defArgs s__law_pick) (defBody s__law_pick) (defScope s__law_pick) .none kV__law_pick dc__law_pick pm__law_pick an__law_pick cd__law_pick ct__law_pick), sl__law_pick⟩) (c__law_pick : PySem.W.codeIn K cd__law_pick "_law_pick" = true) (k__law_pick : PySem.W.keepIn K (.ref f__law_pick) = true)
    (a__law_place : PySem.W.nsIn K mainGlobals "_law_place" = some (some (.ref f__law_place))) (l__law_place : K.lookup f__law_place = some ⟨oc__law_place, od__law_place, .func (PySem.W.fnOf "_law_place" "_law_place" (defArgs s__law_place) (defBody s__law_place) (defScope s__law_place) .none kV__law_place dc__law_place pm__law_place an__law_place cd__law_place ct__law_place), sl__law_place⟩) (c__law_place : PySem.W.codeIn K cd__law_place "_law_place" = true) (k__law_place : PySem.W.keepIn K (.ref f__law_place) = true)
    (a__law_grid : PySem.W.nsIn K mainGlobals "_law_grid" = some (some (.ref f__law_grid))) (l__law_grid : K.lookup f__law_grid = some ⟨oc__law_grid, od__law_grid, .func (PySem.W.fnOf "_law_grid" "_law_grid" (defArgs s__law_grid) (defBody s__law_grid) (defScope s__law_grid) .none kV__law_grid dc__law_grid pm__law_grid an__law_grid cd__law_grid ct__law_grid), sl__law_grid⟩) (c__law_grid : PySem.W.codeIn K cd__law_grid "_law_grid" = true) (k__law_grid : PySem.W.keepIn K (.ref f__law_grid) = true)
    (a__law_scene : PySem.W.nsIn K mainGlobals "_law_scene" = some (some (.ref f__law_scene))) (l__law_scene : K.lookup f__law_scene = some ⟨oc__law_scene, od__law_scene, .func (PySem.W.fnOf "_law_scene" "_law_scene" (defArgs s__law_scene) (defBody s__law_scene) (defScope s__law_scene) .none kV__law_scene dc__law_scene pm__law_scene an__law_scene cd__law_scene ct__law_scene), sl__law_scene⟩) (c__law_scene : PySem.W.codeIn K cd__law_scene "_law_scene" = true) (k__law_scene : PySem.W.keepIn K (.ref f__law_scene) = true)
    (a_law : PySem.W.nsIn K mainGlobals "law" = some (some (.ref f_law))) (l_law : K.lookup f_law = some ⟨oc_law, od_law, .func (PySem.W.fnOf "law" "law" (defArgs s_law) (defBody s_law) (defScope s_law) .none kV_law dc_law pm_law an_law cd_law ct_law), sl_law⟩) (c_law : PySem.W.codeIn K cd_law "law" = true) (k_law : PySem.W.keepIn K (.ref f_law) = true)
    (z_len : PySem.W.nsIn K mainGlobals "len" = some none)
    (z_range : PySem.W.nsIn K mainGlobals "range" = some none)
    (z_abs : PySem.W.nsIn K mainGlobals "abs" = some none)
    (z_int : PySem.W.nsIn K mainGlobals "int" = some none)
    (z_bool : PySem.W.nsIn K mainGlobals "bool" = some none)
    (z_sum : PySem.W.nsIn K mainGlobals "sum" = some none)
    (z_min : PySem.W.nsIn K mainGlobals "min" = some none)
    (z_tuple : PySem.W.nsIn K mainGlobals "tuple" = some none)
    (z_list : PySem.W.nsIn K mainGlobals "list" = some none)
    (z_isinstance : PySem.W.nsIn K mainGlobals "isinstance" = some none)
    {t_LAND : Tok} (y_LAND : PySem.W.nsIn K mainGlobals "LAND" = some (some (.str "x" t_LAND)))
    : ∃ fd : FuncData, (∀ (s : Shared) (v : Value), BindsTo s fd ⟨[v], []⟩ [("script", v)]) ∧ ∀ base : Heap, K.In base → base.Ns mainGlobals mg → FnOk l.prog w K mg base CX0 6 fa fd ["script"] (sp_law K) := by
  have e := hfa.symm.trans (PySem.W.mg_of X G a_law)
  cases e
  have T : Glb mg := ⟨PySem.W.mg_none_of X G z_len, PySem.W.mg_none_of X G z_range, PySem.W.mg_none_of X G z_abs, PySem.W.mg_none_of X G z_int, PySem.W.mg_none_of X G z_bool, PySem.W.mg_none_of X G z_sum, PySem.W.mg_none_of X G z_min, PySem.W.mg_none_of X G z_tuple, PySem.W.mg_none_of X G z_list, PySem.W.mg_none_of X G z_isinstance, ⟨_, PySem.W.mg_of X G y_LAND⟩⟩
  have A_is_square : At K mg "is_square" s_is_square P_is_square := ⟨f_is_square, _, PySem.W.mg_of X G a_is_square, fun_mk (st := s_is_square) l_is_square c_is_square k_is_square, (fun_mk (st := s_is_square) l_is_square c_is_square k_is_square).binds (ps := P_is_square) fun _ _ _ _ _ _ us hl => match us, hl with | [_, _], _ => rfl⟩
  have A_is_land : At K mg "is_land" s_is_land P_is_land := ⟨f_is_land, _, PySem.W.mg_of X G a_is_land, fun_mk (st := s_is_land) l_is_land c_is_land k_is_land, (fun_mk (st := s_is_land) l_is_land c_is_land k_is_land).binds (ps := P_is_land) fun _ _ _ _ _ _ us hl => match us, hl with | [_, _], _ => rfl⟩
  have A_side_neighbours : At K mg "side_neighbours" s_side_neighbours P_side_neighbours := ⟨f_side_neighbours, _, PySem.W.mg_of X G a_side_neighbours, fun_mk (st := s_side_neighbours) l_side_neighbours c_side_neighbours k_side_neighbours, (fun_mk (st := s_side_neighbours) l_side_neighbours c_side_neighbours k_side_neighbours).binds (ps := P_side_neighbours) fun _ _ _ _ _ _ us hl => match us, hl with | [_], _ => rfl⟩
  have A_land_beside : At K mg "land_beside" s_land_beside P_land_beside := ⟨f_land_beside, _, PySem.W.mg_of X G a_land_beside, fun_mk (st := s_land_beside) l_land_beside c_land_beside k_land_beside, (fun_mk (st := s_land_beside) l_land_beside c_land_beside k_land_beside).binds (ps := P_land_beside) fun _ _ _ _ _ _ us hl => match us, hl with | [_, _], _ => rfl⟩
  have A_steps_from : At K mg "steps_from" s_steps_from P_steps_from := ⟨f_steps_from, _, PySem.W.mg_of X G a_steps_from, fun_mk (st := s_steps_from) l_steps_from c_steps_from k_steps_from, (fun_mk (st := s_steps_from) l_steps_from c_steps_from k_steps_from).binds (ps := P_steps_from) fun _ _ _ _ _ _ us hl => match us, hl with | [_, _], _ => rfl⟩
  have A_distance : At K mg "distance" s_distance P_distance := ⟨f_distance, _, PySem.W.mg_of X G a_distance, fun_mk (st := s_distance) l_distance c_distance k_distance, (fun_mk (st := s_distance) l_distance c_distance k_distance).binds (ps := P_distance) fun _ _ _ _ _ _ us hl => match us, hl with | [_, _, _], _ => rfl⟩
  have A__law_in : At K mg "_law_in" s__law_in P__law_in := ⟨f__law_in, _, PySem.W.mg_of X G a__law_in, fun_mk (st := s__law_in) l__law_in c__law_in k__law_in, (fun_mk (st := s__law_in) l__law_in c__law_in k__law_in).binds (ps := P__law_in) fun _ _ _ _ _ _ us hl => match us, hl with | [_, _], _ => rfl⟩
  have A__law_at : At K mg "_law_at" s__law_at P__law_at := ⟨f__law_at, _, PySem.W.mg_of X G a__law_at, fun_mk (st := s__law_at) l__law_at c__law_at k__law_at, (fun_mk (st := s__law_at) l__law_at c__law_at k__law_at).binds (ps := P__law_at) fun _ _ _ _ _ _ us hl => match us, hl with | [_, _], _ => rfl⟩
  have A__law_all : At K mg "_law_all" s__law_all P__law_all := ⟨f__law_all, _, PySem.W.mg_of X G a__law_all, fun_mk (st := s__law_all) l__law_all c__law_all k__law_all, (fun_mk (st := s__law_all) l__law_all c__law_all k__law_all).binds (ps := P__law_all) fun _ _ _ _ _ _ us hl => match us, hl with | [_], _ => rfl⟩
  have A__law_dry : At K mg "_law_dry" s__law_dry P__law_dry := ⟨f__law_dry, _, PySem.W.mg_of X G a__law_dry, fun_mk (st := s__law_dry) l__law_dry c__law_dry k__law_dry, (fun_mk (st := s__law_dry) l__law_dry c__law_dry k__law_dry).binds (ps := P__law_dry) fun _ _ _ _ _ _ us hl => match us, hl with | [_], _ => rfl⟩
  have A__law_sides : At K mg "_law_sides" s__law_sides P__law_sides := ⟨f__law_sides, _, PySem.W.mg_of X G a__law_sides, fun_mk (st := s__law_sides) l__law_sides c__law_sides k__law_sides, (fun_mk (st := s__law_sides) l__law_sides c__law_sides k__law_sides).binds (ps := P__law_sides) fun _ _ _ _ _ _ us hl => match us, hl with | [_], _ => rfl⟩
  have A__law_whole : At K mg "_law_whole" s__law_whole P__law_whole := ⟨f__law_whole, _, PySem.W.mg_of X G a__law_whole, fun_mk (st := s__law_whole) l__law_whole c__law_whole k__law_whole, (fun_mk (st := s__law_whole) l__law_whole c__law_whole k__law_whole).binds (ps := P__law_whole) fun _ _ _ _ _ _ us hl => match us, hl with | [_], _ => rfl⟩
  have A__law_number : At K mg "_law_number" s__law_number P__law_number := ⟨f__law_number, _, PySem.W.mg_of X G a__law_number, fun_mk (st := s__law_number) l__law_number c__law_number k__law_number, (fun_mk (st := s__law_number) l__law_number c__law_number k__law_number).binds (ps := P__law_number) fun _ _ _ _ _ _ us hl => match us, hl with | [_, _], _ => rfl⟩
  have A__law_far : At K mg "_law_far" s__law_far P__law_far := ⟨f__law_far, _, PySem.W.mg_of X G a__law_far, fun_mk (st := s__law_far) l__law_far c__law_far k__law_far, (fun_mk (st := s__law_far) l__law_far c__law_far k__law_far).binds (ps := P__law_far) fun _ _ _ _ _ _ us hl => match us, hl with | [_, _], _ => rfl⟩
  have A__law_set : At K mg "_law_set" s__law_set P__law_set := ⟨f__law_set, _, PySem.W.mg_of X G a__law_set, fun_mk (st := s__law_set) l__law_set c__law_set k__law_set, (fun_mk (st := s__law_set) l__law_set c__law_set k__law_set).binds (ps := P__law_set) fun _ _ _ _ _ _ us hl => match us, hl with | [_, _, _], _ => rfl⟩
  have A__law_deal : At K mg "_law_deal" s__law_deal P__law_deal := ⟨f__law_deal, _, PySem.W.mg_of X G a__law_deal, fun_mk (st := s__law_deal) l__law_deal c__law_deal k__law_deal, (fun_mk (st := s__law_deal) l__law_deal c__law_deal k__law_deal).binds (ps := P__law_deal) fun _ _ _ _ _ _ us hl => match us, hl with | [_], _ => rfl⟩
  have A__law_take : At K mg "_law_take" s__law_take P__law_take := ⟨f__law_take, _, PySem.W.mg_of X G a__law_take, fun_mk (st := s__law_take) l__law_take c__law_take k__law_take, (fun_mk (st := s__law_take) l__law_take c__law_take k__law_take).binds (ps := P__law_take) fun _ _ _ _ _ _ us hl => match us, hl with | [_, _], _ => rfl⟩
  have A__law_pick : At K mg "_law_pick" s__law_pick P__law_pick := ⟨f__law_pick, _, PySem.W.mg_of X G a__law_pick, fun_mk (st := s__law_pick) l__law_pick c__law_pick k__law_pick, (fun_mk (st := s__law_pick) l__law_pick c__law_pick k__law_pick).binds (ps := P__law_pick) fun _ _ _ _ _ _ us hl => match us, hl with | [_, _], _ => rfl⟩
  have A__law_place : At K mg "_law_place" s__law_place P__law_place := ⟨f__law_place, _, PySem.W.mg_of X G a__law_place, fun_mk (st := s__law_place) l__law_place c__law_place k__law_place, (fun_mk (st := s__law_place) l__law_place c__law_place k__law_place).binds (ps := P__law_place) fun _ _ _ _ _ _ us hl => match us, hl with | [_, _], _ => rfl⟩
  have A__law_grid : At K mg "_law_grid" s__law_grid P__law_grid := ⟨f__law_grid, _, PySem.W.mg_of X G a__law_grid, fun_mk (st := s__law_grid) l__law_grid c__law_grid k__law_grid, (fun_mk (st := s__law_grid) l__law_grid c__law_grid k__law_grid).binds (ps := P__law_grid) fun _ _ _ _ _ _ us hl => match us, hl with | [_, _, _], _ => rfl⟩
  have A__law_scene : At K mg "_law_scene" s__law_scene P__law_scene := ⟨f__law_scene, _, PySem.W.mg_of X G a__law_scene, fun_mk (st := s__law_scene) l__law_scene c__law_scene k__law_scene, (fun_mk (st := s__law_scene) l__law_scene c__law_scene k__law_scene).binds (ps := P__law_scene) fun _ _ _ _ _ _ us hl => match us, hl with | [_, _], _ => rfl⟩
  refine ⟨PySem.W.fnOf "law" "law" (defArgs s_law) (defBody s_law) (defScope s_law) .none kV_law dc_law pm_law an_law cd_law ct_law, fun s v => .of_eq rfl, fun base _ _ => ?_⟩
  have H_is_square := ok_is_square (P := l.prog) (w := w) (base := base) A_is_square T
  have H_is_land := ok_is_land (P := l.prog) (w := w) (base := base) A_is_land T H_is_square
  have H_side_neighbours := ok_side_neighbours (P := l.prog) (w := w) (base := base) A_side_neighbours T
  have H_land_beside := ok_land_beside (P := l.prog) (w := w) (base := base) A_land_beside T H_is_land H_side_neighbours
  have H_steps_from := ok_steps_from (P := l.prog) (w := w) (base := base) A_steps_from T H_land_beside
  have H_distance := ok_distance (P := l.prog) (w := w) (base := base) A_distance T H_steps_from
  have H__law_in := ok__law_in (P := l.prog) (w := w) (base := base) A__law_in T
  have H__law_at := ok__law_at (P := l.prog) (w := w) (base := base) A__law_at T H__law_in
  have H__law_all := ok__law_all (P := l.prog) (w := w) (base := base) A__law_all T
  have H__law_dry := ok__law_dry (P := l.prog) (w := w) (base := base) A__law_dry T H__law_all H__law_at
  have H__law_sides := ok__law_sides (P := l.prog) (w := w) (base := base) A__law_sides T
  have H__law_whole := ok__law_whole (P := l.prog) (w := w) (base := base) A__law_whole T
  have H__law_number := ok__law_number (P := l.prog) (w := w) (base := base) A__law_number T H__law_whole
  have H__law_far := ok__law_far (P := l.prog) (w := w) (base := base) A__law_far T H__law_at H__law_sides
  have H__law_set := ok__law_set (P := l.prog) (w := w) (base := base) A__law_set T
  have H__law_deal := ok__law_deal (P := l.prog) (w := w) (base := base) A__law_deal T
  have H__law_take := ok__law_take (P := l.prog) (w := w) (base := base) A__law_take T
  have H__law_pick := ok__law_pick (P := l.prog) (w := w) (base := base) A__law_pick T H__law_take
  have H__law_place := ok__law_place (P := l.prog) (w := w) (base := base) A__law_place T H__law_take
  have H__law_grid := ok__law_grid (P := l.prog) (w := w) (base := base) A__law_grid T H__law_take
  have H__law_scene := ok__law_scene (P := l.prog) (w := w) (base := base) A__law_scene T H__law_grid H__law_place H__law_set H__law_take
  exact ok_law (fun_mk (st := s_law) l_law c_law k_law) T H__law_deal H__law_dry H__law_far H__law_number H__law_pick H__law_scene H__law_take H_distance
theorem walk {l : PySem.W.OpenLaw} {q : Program} {loose : List Str} {XP : (Str → Option Value) → Heap → Prop} {YP : World → Heap → Prop} {d : DefRec} {K : Params → PySem.W.Frag} (hn : l.most = some 63) (hdf : d.params.defaults = [])
    (hY : ∀ (w : World) (h : Heap), YP w h → (K w.params).In h)
    (F : ∀ (w : World) (mg : Str → Option Value) (fa : Addr) (h : Heap), (K w.params).In h → h.Ns mainGlobals mg → mg d.name = some (.ref fa) →
      ∃ fd : FuncData, (∀ (s : Shared) (u : Value), BindsTo s fd ⟨[u], []⟩ [("script", u)]) ∧ ∀ base : Heap, (K w.params).In base → base.Ns mainGlobals mg → FnOk l.prog w (K w.params) mg base CX0 6 fa fd ["script"] (sp_law (K w.params))) :
    PySem.W.WalkO q loose XP YP l.row.toRowW d [] (fun f vs => PySem.call f vs) :=
  L2.walk_of (n := 63) (k := 6) (x := "script") (CX := fun _ => CX0) (sp := fun w => sp_law (K w.params)) hn (by decide) hdf ⟨rfl, by decide, by decide⟩ hY F (fun _ _ a ns hl _ hS => ⟨a, ns, rfl, hS, hl, fun _ => rfl⟩) fun _ _ _ _ _ z => z
end
end W
open PySem PySem.W PyProof.Rows
set_option maxRecDepth 100000 in
set_option maxHeartbeats 0 in
theorem PySem.Challenge.cw_landandwater_k25_distances_holds : PySem.Challenge.rw_landandwater_k25_distances.Holds := by
  w_on; o_law; k_head; (case hw => w_witness2)
  k_fill
  refine W.walk (l := PySem.Challenge.rw_landandwater_k25_distances) rfl rfl (fun w h Y => PySem.W.kIn_of Y) ?F
  case F =>
    intro w mg fa h KX G hmg
    refine' W.all_mk KX G hmg ?a_is_square ?l_is_square ?c_is_square ?k_is_square ?a_is_land ?l_is_land ?c_is_land ?k_is_land ?a_side_neighbours ?l_side_neighbours ?c_side_neighbours ?k_side_neighbours ?a_land_beside ?l_land_beside ?c_land_beside ?k_land_beside ?a_steps_from ?l_steps_from ?c_steps_from ?k_steps_from ?a_distance ?l_distance ?c_distance ?k_distance ?a__law_in ?l__law_in ?c__law_in ?k__law_in ?a__law_at ?l__law_at ?c__law_at ?k__law_at ?a__law_all ?l__law_all ?c__law_all ?k__law_all ?a__law_dry ?l__law_dry ?c__law_dry ?k__law_dry ?a__law_sides ?l__law_sides ?c__law_sides ?k__law_sides ?a__law_whole ?l__law_whole ?c__law_whole ?k__law_whole ?a__law_number ?l__law_number ?c__law_number ?k__law_number ?a__law_far ?l__law_far ?c__law_far ?k__law_far ?a__law_set ?l__law_set ?c__law_set ?k__law_set ?a__law_deal ?l__law_deal ?c__law_deal ?k__law_deal ?a__law_take ?l__law_take ?c__law_take ?k__law_take ?a__law_pick ?l__law_pick ?c__law_pick ?k__law_pick ?a__law_place ?l__law_place ?c__law_place ?k__law_place ?a__law_grid ?l__law_grid ?c__law_grid ?k__law_grid ?a__law_scene ?l__law_scene ?c__law_scene ?k__law_scene ?a_law ?l_law ?c_law ?k_law ?z_len ?z_range ?z_abs ?z_int ?z_bool ?z_sum ?z_min ?z_tuple ?z_list ?z_isinstance ?y_LAND
    (case a_is_square => k_is)
    (case l_is_square => k_is)
    (case c_is_square => k_is)
    (case k_is_square => k_is)
    (case a_is_land => k_is)
    (case l_is_land => k_is)
    (case c_is_land => k_is)
    (case k_is_land => k_is)
    (case a_side_neighbours => k_is)
    (case l_side_neighbours => k_is)
    (case c_side_neighbours => k_is)
    (case k_side_neighbours => k_is)
    (case a_land_beside => k_is)
    (case l_land_beside => k_is)
    (case c_land_beside => k_is)
    (case k_land_beside => k_is)
    (case a_steps_from => k_is)
    (case l_steps_from => k_is)
    (case c_steps_from => k_is)
    (case k_steps_from => k_is)
    (case a_distance => k_is)
    (case l_distance => k_is)
    (case c_distance => k_is)
    (case k_distance => k_is)
    (case a__law_in => k_is)
    (case l__law_in => k_is)
    (case c__law_in => k_is)
    (case k__law_in => k_is)
    (case a__law_at => k_is)
    (case l__law_at => k_is)
    (case c__law_at => k_is)
    (case k__law_at => k_is)
    (case a__law_all => k_is)
    (case l__law_all => k_is)
    (case c__law_all => k_is)
    (case k__law_all => k_is)
    (case a__law_dry => k_is)
    (case l__law_dry => k_is)
    (case c__law_dry => k_is)
    (case k__law_dry => k_is)
    (case a__law_sides => k_is)
    (case l__law_sides => k_is)
    (case c__law_sides => k_is)
    (case k__law_sides => k_is)
    (case a__law_whole => k_is)
    (case l__law_whole => k_is)
    (case c__law_whole => k_is)
    (case k__law_whole => k_is)
    (case a__law_number => k_is)
    (case l__law_number => k_is)
    (case c__law_number => k_is)
    (case k__law_number => k_is)
    (case a__law_far => k_is)
    (case l__law_far => k_is)
    (case c__law_far => k_is)
    (case k__law_far => k_is)
    (case a__law_set => k_is)
    (case l__law_set => k_is)
    (case c__law_set => k_is)
    (case k__law_set => k_is)
    (case a__law_deal => k_is)
    (case l__law_deal => k_is)
    (case c__law_deal => k_is)
    (case k__law_deal => k_is)
    (case a__law_take => k_is)
    (case l__law_take => k_is)
    (case c__law_take => k_is)
    (case k__law_take => k_is)
    (case a__law_pick => k_is)
    (case l__law_pick => k_is)
    (case c__law_pick => k_is)
    (case k__law_pick => k_is)
    (case a__law_place => k_is)
    (case l__law_place => k_is)
    (case c__law_place => k_is)
    (case k__law_place => k_is)
    (case a__law_grid => k_is)
    (case l__law_grid => k_is)
    (case c__law_grid => k_is)
    (case k__law_grid => k_is)
    (case a__law_scene => k_is)
    (case l__law_scene => k_is)
    (case c__law_scene => k_is)
    (case k__law_scene => k_is)
    (case a_law => k_is)
    (case l_law => k_is)
    (case c_law => k_is)
    (case k_law => k_is)
    (case z_len => k_is)
    (case z_range => k_is)
    (case z_abs => k_is)
    (case z_int => k_is)
    (case z_bool => k_is)
    (case z_sum => k_is)
    (case z_min => k_is)
    (case z_tuple => k_is)
    (case z_list => k_is)
    (case z_isinstance => k_is)
    (case y_LAND => k_is)
