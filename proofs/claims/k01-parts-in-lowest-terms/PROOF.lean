import PyProof.Rows.All
import Wide.All
import OpenK.AllK
import Wide.FinOn
import HandS.ForMost
import HandS.ForExc
import HandS.Wide
import HandS.IsInst
import HandS.CallSlots
import HandS.Flow
import HandS.ExcInit
import HandS.ExcField
import HandS.ExcIs
import HandS.Style
import KE.KExcIs
import HandS.Defaults
import PySem.Challenge.RW_heedless_k01_parts_in_lowest_terms
set_option Elab.async false
set_option linter.all false
set_option maxRecDepth 100000
/-! HvA: plain data for what a Python value is, how it lies in the heap, and readings that run a plain function of such data. -/
namespace Hv
open PySem PySem.Spec PyProof.Rows L2

/-- plain data; ref n is the n-th thing that may change -/
inductive D where
  | non | bl (b : Bool) | int (i : Int) | str (s : Str) | ty (n : String)
  | tup (xs : List D) | lst (xs : List D)
  | ref (n : Nat)
  | ins (C : Str) (fs : List (Str × D))
  | dct (kvs : List (D × D))
  | glo (x : Str)
  deriving Inhabited
inductive Cell where
  | dead | lst (xs : List D) | ins (C : Str) (fs : List (Str × D)) | dct (kvs : List (D × D))
  deriving Inhabited
abbrev Ct := List Cell
abbrev Sl := List (Option D)
structure XD where
  C : Str
  sup : List (Str × Bool)
  fs : List (Str × D)
inductive Res (α : Type) where
  | ok (a : α) (c : Ct) | exc (x : XD) (c : Ct) | stuck
def bnd {α β : Type} (r : Res α) (k : α → Ct → Res β) : Res β := match r with
  | .ok a c => k a c
  | .exc x c => .exc x c
  | .stuck => .stuck
@[simp] theorem bnd_ok {α β : Type} (a : α) (c : Ct) (k : α → Ct → Res β) : bnd (.ok a c) k = k a c := rfl
@[simp] theorem bnd_exc {α β : Type} (x : XD) (c : Ct) (k : α → Ct → Res β) : bnd (.exc x c) k = .exc x c := rfl
@[simp] theorem bnd_stuck {α β : Type} (k : α → Ct → Res β) : bnd .stuck k = .stuck := rfl

/-- a world: what stands for ever, where the things that change stand, what else stands meanwhile -/
structure Wd where
  F : Hp
  m : List Addr
  x : List (Addr × HO) := []
structure Wd.lo (a b : Wd) : Prop where
  f : ∀ x o, a.F x = some o → b.F x = some o
  m : ∀ (n : Nat) x, a.m[n]? = some x → b.m[n]? = some x
structure Wd.le (a b : Wd) : Prop extends Wd.lo a b where
  x : b.x = a.x
theorem Wd.le.toLo {a b : Wd} (h : a.le b) : a.lo b := ⟨h.f, h.m⟩
theorem Wd.lo.rfl {a : Wd} : a.lo a := ⟨fun _ _ h => h, fun _ _ h => h⟩
theorem Wd.lo.trans {a b c : Wd} (h : a.lo b) (k : b.lo c) : a.lo c := ⟨fun x o e => k.f x o (h.f x o e), fun n x e => k.m n x (h.m n x e)⟩
theorem Wd.le.rfl {a : Wd} : a.le a := ⟨.rfl, Eq.refl _⟩
theorem Wd.le.trans {a b c : Wd} (h : a.le b) (k : b.le c) : a.le c := ⟨h.toLo.trans k.toLo, k.x.trans h.x⟩

def keyD : Key → D
  | .inl i => .int i
  | .inr s => .str s

/-- a tuple: tracked, or an object of the module -/
def TupAt (K : PySem.W.Frag) (H : Hp) (a : Addr) (xs : List V) : Prop :=
  H a = some (.tup xs) ∨ ∃ (o : Obj) (its : Array Value) (n : Nat), K.lookup a = some o ∧ o.cls = .type "tuple" ∧ o.data = .seq its n ∧ its.size ≤ sizeLine ∧ Vals xs its.toList
theorem TupAt.sq {K : PySem.W.Frag} {H : Hp} {a : Addr} {xs : List V} (h : TupAt K H a xs) : SqT K H a xs := h.elim (fun h => .inl (.inl h)) .inr
theorem TupAt.mono {K : PySem.W.Frag} {H H' : Hp} {a : Addr} {xs : List V} (e : ∀ x o, H x = some o → H' x = some o) (h : TupAt K H a xs) : TupAt K H' a xs := h.elim (fun h => .inl (e _ _ h)) .inr
section
variable (K : PySem.W.Frag) (mg : Str → Option Value)
mutual
inductive R (ω : Wd) : D → V → Prop
  | non : R ω .non .non
  | bl (b : Bool) : R ω (.bl b) (.bl b)
  | int (i : Int) : R ω (.int i) (.int i)
  | str (s : Str) : R ω (.str s) (.str s)
  | ty (n : String) : R ω (.ty n) (.ty n)
  | tup {xs : List D} {a : Addr} {vs : List V} (h : TupAt K ω.F a vs) (r : Rs ω xs vs) : R ω (.tup xs) (.ref a)
  | lst {xs : List D} {a : Addr} {vs : List V} (h : SqL K ω.F a vs) (r : Rs ω xs vs) : R ω (.lst xs) (.ref a)
  | ref {n : Nat} {a : Addr} (h : ω.m[n]? = some a) : R ω (.ref n) (.ref a)
  | ins {C : Str} {fs : List (Str × D)} {a c dx : Addr} {gs : List (Str × V)} (hc : mg C = some (.ref c)) (h : ω.F a = some (.ins c dx gs)) (r : Rf ω fs gs) : R ω (.ins C fs) (.ref a)
  | dctK {kvs : List (D × D)} {a : Addr} {ws : List (Key × V)} (h : ω.F a = some (.dK ws)) (r : Rk ω kvs ws) : R ω (.dct kvs) (.ref a)
  | dctT {kvs : List (D × D)} {a : Addr} {ws : List (List Key × V)} (h : ω.F a = some (.dT ws)) (r : Rt ω kvs ws) : R ω (.dct kvs) (.ref a)
  | glo {x : Str} {a : Addr} (h : mg x = some (.ref a)) : R ω (.glo x) (.ref a)
inductive Rs (ω : Wd) : List D → List V → Prop
  | nil : Rs ω [] []
  | cons {d : D} {v : V} {ds : List D} {vs : List V} (h : R ω d v) (t : Rs ω ds vs) : Rs ω (d :: ds) (v :: vs)
inductive Rf (ω : Wd) : List (Str × D) → List (Str × V) → Prop
  | nil : Rf ω [] []
  | cons {f : Str} {d : D} {v : V} {ds : List (Str × D)} {vs : List (Str × V)} (h : R ω d v) (t : Rf ω ds vs) : Rf ω ((f, d) :: ds) ((f, v) :: vs)
inductive Rk (ω : Wd) : List (D × D) → List (Key × V) → Prop
  | nil : Rk ω [] []
  | cons {k : Key} {d : D} {v : V} {ds : List (D × D)} {vs : List (Key × V)} (h : R ω d v) (t : Rk ω ds vs) : Rk ω ((keyD k, d) :: ds) ((k, v) :: vs)
inductive Rt (ω : Wd) : List (D × D) → List (List Key × V) → Prop
  | nil : Rt ω [] []
  | cons {k : List Key} {d : D} {v : V} {ds : List (D × D)} {vs : List (List Key × V)} (h : R ω d v) (t : Rt ω ds vs) : Rt ω ((.tup (k.map keyD), d) :: ds) ((k, v) :: vs)
end
end

section
variable {K : PySem.W.Frag} {mg : Str → Option Value} {ω ω' : Wd}
theorem sq_l {H H' : Hp} {a : Addr} {xs : List V} (e : ∀ x o, H x = some o → H' x = some o) (h : SqL K H a xs) : SqL K H' a xs := by
  rcases h with (h | ⟨o, h⟩) | h
  · exact .inl (.inl (e _ _ h))
  · exact .inl (.inr ⟨o, e _ _ h⟩)
  · exact .inr h
theorem sq_t {H H' : Hp} {a : Addr} {xs : List V} (e : ∀ x o, H x = some o → H' x = some o) (h : SqT K H a xs) : SqT K H' a xs := by
  rcases h with (h | ⟨o, h⟩) | h
  · exact .inl (.inl (e _ _ h))
  · exact .inl (.inr ⟨o, e _ _ h⟩)
  · exact .inr h
mutual
theorem R.mono (l : ω.lo ω') : ∀ {d : D} {v : V}, R K mg ω d v → R K mg ω' d v
  | _, _, .non => .non
  | _, _, .bl b => .bl b
  | _, _, .int i => .int i
  | _, _, .str s => .str s
  | _, _, .ty n => .ty n
  | _, _, .tup h r => .tup (h.mono l.f) (Rs.mono l r)
  | _, _, .lst h r => .lst (sq_l l.f h) (Rs.mono l r)
  | _, _, .ref h => .ref (l.m _ _ h)
  | _, _, .ins hc h r => .ins hc (l.f _ _ h) (Rf.mono l r)
  | _, _, .dctK h r => .dctK (l.f _ _ h) (Rk.mono l r)
  | _, _, .dctT h r => .dctT (l.f _ _ h) (Rt.mono l r)
  | _, _, .glo h => .glo h
theorem Rs.mono (l : ω.lo ω') : ∀ {d : List D} {v : List V}, Rs K mg ω d v → Rs K mg ω' d v
  | _, _, .nil => .nil
  | _, _, .cons h t => .cons (R.mono l h) (Rs.mono l t)
theorem Rf.mono (l : ω.lo ω') : ∀ {d : List (Str × D)} {v : List (Str × V)}, Rf K mg ω d v → Rf K mg ω' d v
  | _, _, .nil => .nil
  | _, _, .cons h t => .cons (R.mono l h) (Rf.mono l t)
theorem Rk.mono (l : ω.lo ω') : ∀ {d : List (D × D)} {v : List (Key × V)}, Rk K mg ω d v → Rk K mg ω' d v
  | _, _, .nil => .nil
  | _, _, .cons h t => .cons (R.mono l h) (Rk.mono l t)
theorem Rt.mono (l : ω.lo ω') : ∀ {d : List (D × D)} {v : List (List Key × V)}, Rt K mg ω d v → Rt K mg ω' d v
  | _, _, .nil => .nil
  | _, _, .cons h t => .cons (R.mono l h) (Rt.mono l t)
end
theorem Rs.length : ∀ {d : List D} {v : List V}, Rs K mg ω d v → d.length = v.length
  | _, _, .nil => rfl
  | _, _, .cons h t => congrArg (· + 1) (Rs.length t)
theorem Rs.get : ∀ {ds : List D} {vs : List V}, Rs K mg ω ds vs → ∀ {i : Nat} {d : D}, ds[i]? = some d → ∃ v, vs[i]? = some v ∧ R K mg ω d v
  | _, _, .nil, _, _, e => by simp at e
  | _, _, .cons h t, 0, d, e => by
    simp only [List.getElem?_cons_zero, Option.some.injEq] at e
    subst e
    exact ⟨_, rfl, h⟩
  | _, _, .cons h t, i + 1, d, e => by
    simp only [List.getElem?_cons_succ] at e ⊢
    exact Rs.get t e
theorem Rs.getV : ∀ {ds : List D} {vs : List V}, Rs K mg ω ds vs → ∀ {i : Nat} {v : V}, vs[i]? = some v → ∃ d, ds[i]? = some d ∧ R K mg ω d v
  | _, _, .nil, _, _, e => by simp at e
  | _, _, .cons h t, 0, d, e => by
    simp only [List.getElem?_cons_zero, Option.some.injEq] at e
    subst e
    exact ⟨_, rfl, h⟩
  | _, _, .cons h t, i + 1, d, e => by
    simp only [List.getElem?_cons_succ] at e ⊢
    exact Rs.getV t e
theorem Rs.append : ∀ {ds es : List D} {vs us : List V}, Rs K mg ω ds vs → Rs K mg ω es us → Rs K mg ω (ds ++ es) (vs ++ us)
  | _, _, _, _, .nil, s => s
  | _, _, _, _, .cons h t, s => .cons h (Rs.append t s)
theorem Rs.set {x : D} {y : V} (r : R K mg ω x y) : ∀ {ds : List D} {vs : List V} (i : Nat), Rs K mg ω ds vs → Rs K mg ω (ds.set i x) (vs.set i y)
  | _, _, _, .nil => .nil
  | _, _, 0, .cons _ t => .cons r t
  | _, _, i + 1, .cons h t => .cons h (Rs.set r i t)
theorem Rs.take : ∀ {ds : List D} {vs : List V} (n : Nat), Rs K mg ω ds vs → Rs K mg ω (ds.take n) (vs.take n)
  | _, _, 0, _ => .nil
  | _, _, _ + 1, .nil => .nil
  | _, _, n + 1, .cons h t => .cons h (Rs.take n t)
theorem Rs.drop : ∀ {ds : List D} {vs : List V} (n : Nat), Rs K mg ω ds vs → Rs K mg ω (ds.drop n) (vs.drop n)
  | _, _, 0, h => h
  | _, _, _ + 1, .nil => .nil
  | _, _, n + 1, .cons h t => Rs.drop n t
theorem Rs.ints : ∀ (ns : List Int), Rs K mg ω (ns.map D.int) (ns.map V.int)
  | [] => .nil
  | n :: ns => .cons (.int n) (Rs.ints ns)
end

section
variable (K : PySem.W.Frag) (mg : Str → Option Value)
def COk (ω : Wd) : Cell → Option HO → Prop
  | .dead, _ => True
  | .lst xs, some (.lst vs) => Rs K mg ω xs vs
  | .ins C fs, some (.ins c _ gs) => mg C = some (.ref c) ∧ Rf K mg ω fs gs
  | .dct kvs, some (.dK ws) => Rk K mg ω kvs ws
  | .dct kvs, some (.dT ws) => Rt K mg ω kvs ws
  | _, _ => False
structure Rel (ω : Wd) (c : Ct) (H : Hp) : Prop where
  ext : ∀ a o, ω.F a = some o → H a = some o
  len : ω.m.length = c.length
  nd : ω.m.Nodup
  occ : ∀ a, a ∈ ω.m → H a ≠ none
  xs : ∀ a o, (a, o) ∈ ω.x → H a = some o ∧ ω.F a = none ∧ a ∉ ω.m
  live : ∀ (n : Nat) a u, ω.m[n]? = some a → c[n]? = some u → u ≠ .dead → ω.F a = none ∧ COk K mg ω u (H a)
structure SR (ω : Wd) (sl : Sl) (σ : L2.St) : Prop where
  len : sl.length = σ.length
  get : ∀ (i : Nat) d, sl[i]? = some (some d) → ∃ v, σ[i]? = some (some v) ∧ R K mg ω d v
/-- a name of a class: what it stands for -/
def ClsN (n : Str) (v : Value) (u : V) : Prop := (mg n = some v ∨ (mg n = none ∧ bootBuiltins n = some v ∧ n ≠ "__name__")) ∧ ∀ z, RelV u z ↔ z = v
/-- what the class C of exceptions, at a, says: sup which classes it is of, fl its instances' fields -/
structure XInfo (C : Str) (a : Addr) (sup : List (Str × Bool)) (fl : List Str) : Prop where
  gC : mg C = some (.ref a)
  oex : OexC K a
  xf : XfC K a
  isx : ExcC K a
  nof : ∀ f, f ∈ fl → PySem.W.findIn K (.ref a) f = some none
  sup : ∀ n b, (n, b) ∈ sup → ∃ v u, ClsN mg n v u ∧ PySem.W.exmOne K (.ref a) v = some b ∧ PySem.W.kitOne K (.ref a) v = some b
/-- an exception's class and its own dict -/
def RX (ω : Wd) (x : XD) (cls : Value) (dd : Option Addr) : Prop := ∃ a d gs, XInfo K mg x.C a x.sup (x.fs.map (·.1)) ∧ cls = .ref a ∧ dd = some d ∧ ω.F d = some (.xd gs) ∧ Rf K mg ω x.fs gs
def Post {α β : Type} (ρ : Wd → α → β → Prop) (ω : Wd) (W : WX) (σ : L2.St) (r : Res α) (Q : β → Hp → Prop) : Prop := match r with
  | .ok a c => ∀ ω' b H', ω.le ω' → Rel K mg ω' c H' → ρ ω' a b → Q b H'
  | .exc x c => ∀ ω' H' cls dd, ω.le ω' → Rel K mg ω' c H' → RX K mg ω' x cls dd → W cls dd σ H'
  | .stuck => False
def lift {α β : Type} (ρ : Wd → α → β → Prop) (W : WX) (f : Sl → Ct → Res α) : L2.St → Hp → (β → Hp → Prop) → Prop := fun σ H Q =>
  ∃ ω sl c, SR K mg ω sl σ ∧ Rel K mg ω c H ∧ Post K mg ρ ω W σ (f sl c) Q
abbrev liftE (W : WX) (f : Sl → Ct → Res D) : TE := lift K mg (R K mg) W f
abbrev liftT (W : WX) (f : Sl → Ct → Res Bool) : TT := lift K mg (fun _ a b => a = b) W f
abbrev liftA (W : WX) (f : Sl → Ct → Res (List D)) : TA := lift K mg (Rs K mg) W f
end

section
variable {K : PySem.W.Frag} {mg : Str → Option Value} {ω ω' : Wd} {W : WX} {σ : L2.St} {sl : Sl} {c : Ct} {H : Hp}
theorem SR.mono (s : SR K mg ω sl σ) (l : ω.lo ω') : SR K mg ω' sl σ := ⟨s.len, fun i d e => by
  obtain ⟨v, h1, h2⟩ := s.get i d e
  exact ⟨v, h1, h2.mono l⟩⟩
theorem SR.set (s : SR K mg ω sl σ) (i : Nat) {d : D} {v : V} (r : R K mg ω d v) : SR K mg ω (sl.set i (some d)) (σ.set i (some v)) := ⟨by simp [s.len], fun j e he => by
  by_cases hj : i = j
  · subst hj
    by_cases hl : i < sl.length
    · rw [List.getElem?_set_self hl] at he
      cases he
      exact ⟨v, List.getElem?_set_self (by rw [← s.len]; exact hl), r⟩
    · rw [List.getElem?_eq_none (by simpa using hl)] at he
      cases he
  · rw [List.getElem?_set_ne hj] at he ⊢
    exact s.get j e he⟩
theorem Post.mono {α β : Type} {ρ : Wd → α → β → Prop} {r : Res α} {Q Q' : β → Hp → Prop} (h : Post K mg ρ ω W σ r Q) (k : ∀ b H', Q b H' → Q' b H') : Post K mg ρ ω W σ r Q' := by
  cases r with
  | ok a c => exact fun ω' b H' l rel r => k b H' (h ω' b H' l rel r)
  | exc x c => exact h
  | stuck => exact h
theorem Post.le {α β : Type} {ρ : Wd → α → β → Prop} {r : Res α} {Q : β → Hp → Prop} (h : Post K mg ρ ω W σ r Q) (l : ω.le ω') : Post K mg ρ ω' W σ r Q := by
  cases r with
  | ok a c => exact fun ω'' b H' l' rel r => h ω'' b H' (l.trans l') rel r
  | exc x c => exact fun ω'' H' cls dd l' rel r => h ω'' H' cls dd (l.trans l') rel r
  | stuck => exact h
theorem lift.mono {α β : Type} {ρ : Wd → α → β → Prop} {f : Sl → Ct → Res α} {Q Q' : β → Hp → Prop} (h : lift K mg ρ W f σ H Q) (k : ∀ b H', Q b H' → Q' b H') : lift K mg ρ W f σ H Q' := by
  obtain ⟨ω, sl, c, s, rel, p⟩ := h
  exact ⟨ω, sl, c, s, rel, p.mono k⟩
/-- one step, then the rest -/
theorem post_bind {α β γ δ : Type} {ρ : Wd → α → β → Prop} {ρ' : Wd → γ → δ → Prop} {f : Sl → Ct → Res α} {g : α → Ct → Res γ} {Q : δ → Hp → Prop} (s : SR K mg ω sl σ) (rel : Rel K mg ω c H) (p : Post K mg ρ' ω W σ (bnd (f sl c) g) Q) :
    lift K mg ρ W f σ H (fun b H1 => ∃ ω' c' a, ω.le ω' ∧ SR K mg ω' sl σ ∧ Rel K mg ω' c' H1 ∧ ρ ω' a b ∧ Post K mg ρ' ω' W σ (g a c') Q) := by
  refine ⟨ω, sl, c, s, rel, ?_⟩
  cases e : f sl c with
  | ok a c' =>
    rw [e] at p
    exact fun ω' b H' l rel' r => ⟨ω', c', a, l, s.mono l.toLo, rel', r, Post.le p l⟩
  | exc x c' =>
    rw [e] at p
    exact p
  | stuck =>
    rw [e] at p
    exact p.elim
/-- the world where a step's answer stands -/
theorem Post.ok_of {α β : Type} {ρ : Wd → α → β → Prop} {a : α} {b : β} {Q : β → Hp → Prop} (p : Post K mg ρ ω W σ (.ok a c) Q) (rel : Rel K mg ω c H) (r : ρ ω a b) : Q b H := p ω b H .rfl rel r
theorem Post.ok_le {α β : Type} {ρ : Wd → α → β → Prop} {a : α} {b : β} {Q : β → Hp → Prop} (p : Post K mg ρ ω W σ (.ok a c) Q) (l : ω.le ω') (rel : Rel K mg ω' c H) (r : ρ ω' a b) : Q b H := p ω' b H l rel r

/-! ### heaps that grow -/
theorem COk.mono (l : ω.lo ω') : ∀ {u : Cell} {o : Option HO}, COk K mg ω u o → COk K mg ω' u o := by
  intro u o h
  unfold COk at h ⊢
  split at h
  · trivial
  · exact h.mono l
  · exact ⟨h.1, h.2.mono l⟩
  · exact h.mono l
  · exact h.mono l
  · exact h.elim
/-- a new thing that stands for ever -/
theorem Rel.frozen (rel : Rel K mg ω c H) {p : Addr} (hp : H p = none) (o : HO) : (Wd.mk (upd ω.F p o) ω.m ω.x |> fun w => ω.le w ∧ Rel K mg w c (upd H p o)) := by
  have hF : ω.F p = none := by
    cases e : ω.F p with
    | none => rfl
    | some u =>
      have := rel.ext p u e
      rw [hp] at this
      cases this
  have l : ω.le ⟨upd ω.F p o, ω.m, ω.x⟩ := ⟨⟨fun x u e => by
    show upd ω.F p o x = some u
    rw [upd_ne (ne_of_none e hF)]
    exact e, fun _ _ e => e⟩, rfl⟩
  refine ⟨l, fun a u e => ?_, rel.len, rel.nd, fun a ha => ?_, fun a u hx => ?_, fun n a u h1 h2 h3 => ?_⟩
  · by_cases h : a = p
    · subst h
      have e : upd ω.F a o a = some u := e
      rw [upd_same] at e ⊢
      exact e
    · have e : upd ω.F p o a = some u := e
      rw [upd_ne h] at e ⊢
      exact rel.ext a u e
  · by_cases h : a = p
    · subst h
      rw [upd_same]
      simp
    · rw [upd_ne h]
      exact rel.occ a ha
  · obtain ⟨k1, k2, k3⟩ := rel.xs a u hx
    have hne : a ≠ p := ne_of_none k1 hp
    refine ⟨by rw [upd_ne hne]; exact k1, ?_, k3⟩
    show upd ω.F p o a = none
    rw [upd_ne hne]
    exact k2
  · obtain ⟨k1, k2⟩ := rel.live n a u h1 h2 h3
    have hne : a ≠ p := fun z => by
      subst z
      exact rel.occ a (List.mem_of_getElem? h1) hp
    refine ⟨?_, ?_⟩
    · show upd ω.F p o a = none
      rw [upd_ne hne]
      exact k1
    · rw [upd_ne hne]
      exact k2.mono l.toLo
/-- a new thing that may change -/
theorem Rel.cell (rel : Rel K mg ω c H) {p : Addr} (hp : H p = none) {o : HO} {u : Cell} (ok : COk K mg ω u (some o)) : (Wd.mk ω.F (ω.m ++ [p]) ω.x |> fun w => ω.le w ∧ w.m[c.length]? = some p ∧ Rel K mg w (c ++ [u]) (upd H p o)) := by
  have hF : ω.F p = none := by
    cases e : ω.F p with
    | none => rfl
    | some u =>
      have := rel.ext p u e
      rw [hp] at this
      cases this
  have l : ω.le ⟨ω.F, ω.m ++ [p], ω.x⟩ := ⟨⟨fun x u e => e, fun n x e => by
    show (ω.m ++ [p])[n]? = some x
    rw [List.getElem?_append_left (List.getElem?_eq_some_iff.mp e).1]
    exact e⟩, rfl⟩
  have hnm : p ∉ ω.m := fun hm => rel.occ p hm hp
  refine ⟨l, ?_, fun a v e => ?_, ?_, ?_, fun a ha => ?_, fun a u hx => ?_, fun n a v h1 h2 h3 => ?_⟩
  · show (ω.m ++ [p])[c.length]? = some p
    rw [← rel.len, List.getElem?_append_right (Nat.le_refl _)]
    simp
  · have e : ω.F a = some v := e
    rw [upd_ne (ne_of_none e hF)]
    exact rel.ext a v e
  · simp [rel.len]
  · refine List.nodup_append.mpr ⟨rel.nd, by simp, ?_⟩
    intro a ha b hb e
    rw [List.mem_singleton] at hb
    subst hb
    subst e
    exact hnm ha
  · have ha : a ∈ ω.m ++ [p] := ha
    by_cases h : a = p
    · subst h
      rw [upd_same]
      simp
    · rw [upd_ne h]
      rcases List.mem_append.mp ha with ha | ha
      · exact rel.occ a ha
      · exact absurd (List.mem_singleton.mp ha) h
  · obtain ⟨k1, k2, k3⟩ := rel.xs a u hx
    have hne : a ≠ p := ne_of_none k1 hp
    refine ⟨by rw [upd_ne hne]; exact k1, k2, fun hm => ?_⟩
    have hm : a ∈ ω.m ++ [p] := hm
    rcases List.mem_append.mp hm with hm | hm
    · exact k3 hm
    · exact hne (List.mem_singleton.mp hm)
  · have h1 : (ω.m ++ [p])[n]? = some a := h1
    by_cases hn : n < ω.m.length
    · rw [List.getElem?_append_left hn] at h1
      rw [List.getElem?_append_left (by rw [← rel.len]; exact hn)] at h2
      obtain ⟨k1, k2⟩ := rel.live n a v h1 h2 h3
      have hne : a ≠ p := fun z => hnm (z ▸ List.mem_of_getElem? h1)
      refine ⟨k1, ?_⟩
      rw [upd_ne hne]
      exact k2.mono l.toLo
    · rw [List.getElem?_append_right (by omega)] at h1
      have h0 : n - ω.m.length = 0 := by
        by_cases h : n - ω.m.length = 0
        · exact h
        · rw [List.getElem?_eq_none (by simp; omega)] at h1
          cases h1
      rw [h0] at h1
      cases h1
      rw [List.getElem?_append_right (by rw [← rel.len]; omega), ← rel.len, h0] at h2
      cases h2
      refine ⟨hF, ?_⟩
      rw [upd_same]
      exact ok.mono l.toLo
/-- a thing changes -/
theorem Rel.write (rel : Rel K mg ω c H) {n : Nat} {a : Addr} {u u' : Cell} {o : HO} (h1 : ω.m[n]? = some a) (h2 : c[n]? = some u) (h3 : u ≠ .dead) (ok : COk K mg ω u' (some o)) : Rel K mg ω (c.set n u') (upd H a o) := by
  obtain ⟨k1, k2⟩ := rel.live n a u h1 h2 h3
  refine ⟨fun b v e => ?_, by simp [rel.len], rel.nd, fun b hb => ?_, fun b v hx => ?_, fun j b v e1 e2 e3 => ?_⟩
  · rw [upd_ne (ne_of_none e k1)]
    exact rel.ext b v e
  · by_cases h : b = a
    · subst h
      rw [upd_same]
      simp
    · rw [upd_ne h]
      exact rel.occ b hb
  · obtain ⟨q1, q2, q3⟩ := rel.xs b v hx
    have hne : b ≠ a := fun z => q3 (z ▸ List.mem_of_getElem? h1)
    exact ⟨by rw [upd_ne hne]; exact q1, q2, q3⟩
  · by_cases hj : n = j
    · subst hj
      rw [h1] at e1
      cases e1
      rw [List.getElem?_set_self (List.getElem?_eq_some_iff.mp h2).1] at e2
      cases e2
      rw [upd_same]
      exact ⟨k1, ok⟩
    · rw [List.getElem?_set_ne hj] at e2
      obtain ⟨q1, q2⟩ := rel.live j b v e1 e2 e3
      have hne : b ≠ a := fun z => by
        subst z
        have l1 := (List.getElem?_eq_some_iff.mp h1)
        have l2 := (List.getElem?_eq_some_iff.mp e1)
        exact hj ((List.getElem_inj rel.nd).mp (l1.2.trans l2.2.symm))
      rw [upd_ne hne]
      exact ⟨q1, q2⟩
/-- a thing is not to change any more -/
theorem Rel.freeze (rel : Rel K mg ω c H) {n : Nat} {a : Addr} {u : Cell} {o : HO} (h1 : ω.m[n]? = some a) (h2 : c[n]? = some u) (h3 : u ≠ .dead) (ho : H a = some o) : (Wd.mk (upd ω.F a o) ω.m ω.x |> fun w => ω.le w ∧ Rel K mg w (c.set n .dead) H) := by
  obtain ⟨k1, k2⟩ := rel.live n a u h1 h2 h3
  have l : ω.le ⟨upd ω.F a o, ω.m, ω.x⟩ := ⟨⟨fun x v e => by
    show upd ω.F a o x = some v
    rw [upd_ne (ne_of_none e k1)]
    exact e, fun _ _ e => e⟩, rfl⟩
  refine ⟨l, fun b v e => ?_, by simp [rel.len], rel.nd, rel.occ, fun b v hx => ?_, fun j b v e1 e2 e3 => ?_⟩
  · have e : upd ω.F a o b = some v := e
    by_cases h : b = a
    · subst h
      rw [upd_same] at e
      cases e
      exact ho
    · rw [upd_ne h] at e
      exact rel.ext b v e
  · obtain ⟨q1, q2, q3⟩ := rel.xs b v hx
    have hne : b ≠ a := fun z => q3 (z ▸ List.mem_of_getElem? h1)
    refine ⟨q1, ?_, q3⟩
    show upd ω.F a o b = none
    rw [upd_ne hne]
    exact q2
  · by_cases hj : n = j
    · subst hj
      rw [List.getElem?_set_self (List.getElem?_eq_some_iff.mp h2).1] at e2
      cases e2
      exact absurd rfl e3
    · rw [List.getElem?_set_ne hj] at e2
      obtain ⟨q1, q2⟩ := rel.live j b v e1 e2 e3
      have hne : b ≠ a := fun z => by
        subst z
        have l1 := (List.getElem?_eq_some_iff.mp h1)
        have l2 := (List.getElem?_eq_some_iff.mp e1)
        exact hj ((List.getElem_inj rel.nd).mp (l1.2.trans l2.2.symm))
      refine ⟨?_, q2.mono l.toLo⟩
      show upd ω.F a o b = none
      rw [upd_ne hne]
      exact q1
theorem Rel.start (H : Hp) : Rel K mg ⟨H, [], []⟩ [] H := ⟨fun _ _ e => e, rfl, List.nodup_nil, fun _ h => (by cases h), fun _ _ h => (by cases h), fun n a u h => by cases n <;> cases h⟩
/-- a thing that stands aside: laid, changed, taken in -/
theorem Rel.aside (rel : Rel K mg ω c H) {p : Addr} (hp : H p = none) (o : HO) : (Wd.mk ω.F ω.m ((p, o) :: ω.x) |> fun w => ω.lo w ∧ Rel K mg w c (upd H p o)) := by
  obtain ⟨l, r⟩ := rel.frozen hp o
  have hF : ω.F p = none := by
    cases e : ω.F p with
    | none => rfl
    | some u =>
      have := rel.ext p u e
      rw [hp] at this
      cases this
  refine ⟨⟨fun _ _ e => e, fun _ _ e => e⟩, fun a u e => ?_, rel.len, rel.nd, r.occ, fun a u hx => ?_, fun n a u h1 h2 h3 => ?_⟩
  · rw [upd_ne (ne_of_none e hF)]
    exact rel.ext a u e
  · rcases List.mem_cons.mp hx with e | hx
    · cases e
      exact ⟨upd_same, hF, fun hm => rel.occ p hm hp⟩
    · obtain ⟨q1, q2, q3⟩ := rel.xs a u hx
      exact ⟨by rw [upd_ne (ne_of_none q1 hp)]; exact q1, q2, q3⟩
  · obtain ⟨k1, k2⟩ := rel.live n a u h1 h2 h3
    have hne : a ≠ p := fun z => rel.occ a (List.mem_of_getElem? h1) (z ▸ hp)
    rw [upd_ne hne]
    exact ⟨k1, COk.mono (ω := ω) (ω' := ⟨ω.F, ω.m, (p, o) :: ω.x⟩) ⟨fun _ _ e => e, fun _ _ e => e⟩ k2⟩
theorem Rel.asideSet {p : Addr} {o o' : HO} {r : List (Addr × HO)} (hx : ω.x = (p, o) :: r) (rel : Rel K mg ω c H) (hr : ∀ q u, (q, u) ∈ r → q ≠ p) : (Wd.mk ω.F ω.m ((p, o') :: r) |> fun w => ω.lo w ∧ Rel K mg w c (upd H p o')) := by
  obtain ⟨e1, e2, e3⟩ := rel.xs p o (by rw [hx]; exact List.mem_cons_self)
  refine ⟨⟨fun _ _ e => e, fun _ _ e => e⟩, fun a u e => ?_, rel.len, rel.nd, fun a ha => ?_, fun a u hm => ?_, fun n a u h1 h2 h3 => ?_⟩
  · rw [upd_ne (ne_of_none e e2)]
    exact rel.ext a u e
  · have hne : a ≠ p := fun z => e3 (z ▸ ha)
    rw [upd_ne hne]
    exact rel.occ a ha
  · rcases List.mem_cons.mp hm with e | hm
    · cases e
      exact ⟨upd_same, e2, e3⟩
    · obtain ⟨q1, q2, q3⟩ := rel.xs a u (by rw [hx]; exact List.mem_cons_of_mem _ hm)
      exact ⟨by rw [upd_ne (hr a u hm)]; exact q1, q2, q3⟩
  · have hne : a ≠ p := fun z => e3 (z ▸ List.mem_of_getElem? h1)
    rw [upd_ne hne]
    obtain ⟨k1, k2⟩ := rel.live n a u h1 h2 h3
    exact ⟨k1, COk.mono (ω := ω) (ω' := ⟨ω.F, ω.m, (p, o') :: r⟩) ⟨fun _ _ e => e, fun _ _ e => e⟩ k2⟩
/-- taken in for ever -/
theorem Rel.asideF {p : Addr} {o : HO} {r : List (Addr × HO)} (hx : ω.x = (p, o) :: r) (rel : Rel K mg ω c H) (hr : ∀ q u, (q, u) ∈ r → q ≠ p) : (Wd.mk (upd ω.F p o) ω.m r |> fun w => ω.lo w ∧ Rel K mg w c H) := by
  obtain ⟨e1, e2, e3⟩ := rel.xs p o (by rw [hx]; exact List.mem_cons_self)
  have l : ω.lo ⟨upd ω.F p o, ω.m, r⟩ := ⟨fun x v e => by
    show upd ω.F p o x = some v
    rw [upd_ne (ne_of_none e e2)]
    exact e, fun _ _ e => e⟩
  refine ⟨l, fun a u e => ?_, rel.len, rel.nd, rel.occ, fun a u hm => ?_, fun n a u h1 h2 h3 => ?_⟩
  · have e : upd ω.F p o a = some u := e
    by_cases h : a = p
    · subst h
      rw [upd_same] at e
      cases e
      exact e1
    · rw [upd_ne h] at e
      exact rel.ext a u e
  · obtain ⟨q1, q2, q3⟩ := rel.xs a u (by rw [hx]; exact List.mem_cons_of_mem _ hm)
    refine ⟨q1, ?_, q3⟩
    show upd ω.F p o a = none
    rw [upd_ne (hr a u hm)]
    exact q2
  · obtain ⟨k1, k2⟩ := rel.live n a u h1 h2 h3
    have hne : a ≠ p := fun z => e3 (z ▸ List.mem_of_getElem? h1)
    refine ⟨?_, k2.mono l⟩
    show upd ω.F p o a = none
    rw [upd_ne hne]
    exact k1
/-- taken in as a thing that may change -/
theorem Rel.asideC {p : Addr} {o : HO} {r : List (Addr × HO)} {u : Cell} (hx : ω.x = (p, o) :: r) (rel : Rel K mg ω c H) (hr : ∀ q u, (q, u) ∈ r → q ≠ p) (ok : COk K mg ω u (some o)) : (Wd.mk ω.F (ω.m ++ [p]) r |> fun w => ω.lo w ∧ w.m[c.length]? = some p ∧ Rel K mg w (c ++ [u]) H) := by
  obtain ⟨e1, e2, e3⟩ := rel.xs p o (by rw [hx]; exact List.mem_cons_self)
  have l : ω.lo ⟨ω.F, ω.m ++ [p], r⟩ := ⟨fun x u e => e, fun n x e => by
    show (ω.m ++ [p])[n]? = some x
    rw [List.getElem?_append_left (List.getElem?_eq_some_iff.mp e).1]
    exact e⟩
  refine ⟨l, ?_, rel.ext, by simp [rel.len], ?_, fun a ha => ?_, fun a u hm => ?_, fun n a v h1 h2 h3 => ?_⟩
  · show (ω.m ++ [p])[c.length]? = some p
    rw [← rel.len, List.getElem?_append_right (Nat.le_refl _)]
    simp
  · refine List.nodup_append.mpr ⟨rel.nd, by simp, ?_⟩
    intro a ha b hb e
    rw [List.mem_singleton] at hb
    subst hb
    subst e
    exact e3 ha
  · have ha : a ∈ ω.m ++ [p] := ha
    rcases List.mem_append.mp ha with ha | ha
    · exact rel.occ a ha
    · rw [List.mem_singleton.mp ha, e1]
      simp
  · obtain ⟨q1, q2, q3⟩ := rel.xs a u (by rw [hx]; exact List.mem_cons_of_mem _ hm)
    refine ⟨q1, q2, fun z => ?_⟩
    have z : a ∈ ω.m ++ [p] := z
    rcases List.mem_append.mp z with z | z
    · exact q3 z
    · exact hr a u hm (List.mem_singleton.mp z)
  · have h1 : (ω.m ++ [p])[n]? = some a := h1
    by_cases hn : n < ω.m.length
    · rw [List.getElem?_append_left hn] at h1
      rw [List.getElem?_append_left (by rw [← rel.len]; exact hn)] at h2
      obtain ⟨k1, k2⟩ := rel.live n a v h1 h2 h3
      exact ⟨k1, k2.mono l⟩
    · rw [List.getElem?_append_right (by omega)] at h1
      have h0 : n - ω.m.length = 0 := by
        by_cases h : n - ω.m.length = 0
        · exact h
        · rw [List.getElem?_eq_none (by simp; omega)] at h1
          cases h1
      rw [h0] at h1
      cases h1
      rw [List.getElem?_append_right (by rw [← rel.len]; omega), ← rel.len, h0] at h2
      cases h2
      refine ⟨e2, ?_⟩
      rw [e1]
      exact ok.mono l
end
end Hv

set_option Elab.async false
set_option linter.all false
set_option maxRecDepth 100000
/-! HvB: the inner form of a text (IE, IS) and what it does with plain data. -/
namespace Hv
open PySem PySem.Spec PyProof.Rows L2

inductive Cst where
  | non | bl (b : Bool) | int (i : Int) | str (s : Str)
  deriving DecidableEq, Inhabited
def Cst.d : Cst → D
  | .non => .non | .bl b => .bl b | .int i => .int i | .str s => .str s
def Cst.v : Cst → V
  | .non => .non | .bl b => .bl b | .int i => .int i | .str s => .str s
inductive BOp where
  | add | sub | mul | fdiv | mod | pow
  deriving DecidableEq
inductive COp where
  | lt | le | gt | ge | eq | ne | is | isn | inn | nin
  deriving DecidableEq
inductive Src where
  | arg (i : Nat) | dfl (c : Cst)
  deriving DecidableEq
inductive Blt where
  | len | list | tuple | abs | all | any | sum | isi | int | max | min | sorted
  deriving DecidableEq
/-- targets -/
inductive IT where
  | nm (i : Nat) | tp (ts : List IT)
mutual
inductive IE where
  | var (i : Nat)
  | cst (c : Cst)
  | typ (n : String)
  | bin (o : BOp) (a b : IE)
  | cmp (o : COp) (a b : IE)
  | chn (o o' : COp) (a b c : IE)
  | and (a b : IE) | or (a b : IE) | not (a : IE)
  | ifx (c a b : IE)
  | tup (es : IEs) | lst (mu : Bool) (es : IEs)
  | idx (a b : IE)
  | slc (a : IE) (lo hi : IO)
  | call (f : Nat) (ks : List Str) (src : List Src) (es kes : IEs)
  | blt (f : Blt) (es : IEs)
  | comp (mu : Bool) (own : List (Str × Nat)) (t : IT) (s : II) (q elt : IE)
  | frz (k : Nat) (e : IE)
inductive IEs where
  | nil | cons (e : IE) (es : IEs)
/-- what a for walks -/
inductive II where
  | seq (e : IE) | rng1 (a : IE) | rng2 (a b : IE)
/-- a slice's part -/
inductive IO where
  | no | so (e : IE)
end
/-- what an except suite tells of the exception -/
inductive HX where
  | fld (f : Str) | isi (n : Str)
mutual
inductive IS where
  | asg (t : IT) (e : IE)
  | par (i j : Nat) (a b : IE)
  | put (o i e : IE)
  | aug (i : Nat) (o : BOp) (e : IE)
  | expr (e : IE) | ret (e : IE) | retN
  | ifs (c : IE) (a b : ISs)
  | whl (c : IE) (b : ISs)
  | for (t : IT) (s : II) (b : ISs)
  | pass | brk | cont
  | nev
  | rse (C : Str) (n : Nat) (sup : List (Str × Bool)) (fl : List (Str × Src)) (es : IEs)
  | tryA (b : ISs) (D : Str) (i : Nat) (hx : List HX) (tg : Option Nat)
inductive ISs where
  | nil | cons (s : IS) (r : ISs)
end

/-! ### what operators do -/
def big : Nat := 1000000
def binD (o : BOp) (x y : D) (c : Ct) : Res D := match o, x, y with
  | .add, .int i, .int j => .ok (.int (i + j)) c
  | .sub, .int i, .int j => .ok (.int (i - j)) c
  | .mul, .int i, .int j => if i.natAbs.log2 + j.natAbs.log2 < big then .ok (.int (i * j)) c else .stuck
  | .fdiv, .int i, .int j => if j ≠ 0 ∧ j.natAbs.log2 < 9000 then .ok (.int (i.fdiv j)) c else .stuck
  | .mod, .int i, .int j => if j ≠ 0 then .ok (.int (i.fmod j)) c else .stuck
  | .pow, .int i, .int j => if 0 ≤ j ∧ j ≤ 1000000 ∧ i.natAbs < 2 ^ 64 then .ok (.int (i ^ j.toNat)) c else .stuck
  | _, _, _ => .stuck
/-- the things that == tells apart here -/
def eqD : D → D → Option Bool
  | .int i, .int j => some (decide (i = j))
  | .bl a, .bl b => some (decide (a = b))
  | .str a, .str b => some (decide (a = b))
  | .non, .non => some true
  | .non, .int _ => some false | .int _, .non => some false | .non, .bl _ => some false | .bl _, .non => some false | .non, .str _ => some false | .str _, .non => some false
  | .int _, .str _ => some false | .str _, .int _ => some false | .bl _, .str _ => some false | .str _, .bl _ => some false
  | _, _ => none
def isNon : D → Bool
  | .non => true
  | _ => false
def cmpD (o : COp) (x y : D) (c : Ct) : Res D := match o, x, y with
  | .lt, .int i, .int j => .ok (.bl (decide (i < j))) c
  | .le, .int i, .int j => .ok (.bl (decide (i ≤ j))) c
  | .gt, .int i, .int j => .ok (.bl (decide (j < i))) c
  | .ge, .int i, .int j => .ok (.bl (decide (j ≤ i))) c
  | .eq, x, y => match eqD x y with
    | some b => .ok (.bl b) c
    | none => .stuck
  | .ne, x, y => match eqD x y with
    | some b => .ok (.bl (!b)) c
    | none => .stuck
  | .is, x, .non => .ok (.bl (isNon x)) c
  | .isn, x, .non => .ok (.bl (!isNon x)) c
  | .is, .bl a, .bl b => .ok (.bl (decide (a = b))) c
  | .isn, .bl a, .bl b => .ok (.bl (!decide (a = b))) c
  | _, _, _ => .stuck
def truD (x : D) (c : Ct) : Res Bool := match x with
  | .non => .ok false c
  | .bl b => .ok b c
  | .int i => .ok (i != 0) c
  | .lst xs => .ok (!xs.isEmpty) c
  | .tup xs => .ok (!xs.isEmpty) c
  | .ref n => match c[n]? with
    | some (.lst xs) => .ok (!xs.isEmpty) c
    | _ => .stuck
  | _ => .stuck
/-- the items of a list or tuple as it stands -/
def itsD (x : D) (c : Ct) : Option (List D) := match x with
  | .lst xs => some xs
  | .tup xs => some xs
  | .ref n => match c[n]? with
    | some (.lst xs) => some xs
    | _ => none
  | _ => none
def ofO {α : Type} (o : Option α) (c : Ct) : Res α := match o with
  | some a => .ok a c
  | none => .stuck
@[simp] theorem ofO_some {α : Type} (a : α) (c : Ct) : ofO (some a) c = .ok a c := rfl
@[simp] theorem ofO_none {α : Type} (c : Ct) : ofO (none : Option α) c = .stuck := rfl
def idxD (x i : D) (c : Ct) : Res D := match i with
  | .int k => match itsD x c with
    | some xs => ofO (atI xs k) c
    | none => .stuck
  | _ => .stuck
def cutD (xs : List D) (lo hi : Option Int) : List D := (xs.drop (HT.sIx xs.length 0 lo)).take (HT.sIx xs.length xs.length hi - HT.sIx xs.length 0 lo)
def isL : D → Bool
  | .lst _ => true
  | .ref _ => true
  | _ => false
def slcD (x : D) (lo hi : Option Int) (c : Ct) : Res D := match itsD x c with
  | some xs => if isL x then .ok (.lst (cutD xs lo hi)) c else .stuck
  | none => .stuck
def blsD : List D → Option (List Bool)
  | [] => some []
  | .bl b :: r => (blsD r).map (b :: ·)
  | _ => none
def intsD : List D → Option (List Int)
  | [] => some []
  | .int b :: r => (intsD r).map (b :: ·)
  | _ => none
/-- the class of a thing, for isinstance against built-in classes -/
def tyD (x : D) (c : Ct) : Option String := match x with
  | .non => some "NoneType"
  | .bl _ => some "bool"
  | .int _ => some "int"
  | .str _ => some "str"
  | .tup _ => some "tuple"
  | .lst _ => some "list"
  | .dct _ => some "dict"
  | .ref n => match c[n]? with
    | some (.lst _) => some "list"
    | some (.dct _) => some "dict"
    | _ => none
  | _ => none
def tysD : List D → Bool
  | [] => true
  | .ty _ :: r => tysD r
  | _ => false
def anyB (t : String) : List D → Option Bool
  | [] => some false
  | .ty n :: r => match kitB t n with
    | some true => if tysD r = true then some true else none
    | some false => anyB t r
    | none => none
  | _ => none
def isiD (x : D) (k : D) (c : Ct) : Res D := match tyD x c, k with
  | some t, .ty n => match kitB t n with
    | some b => .ok (.bl b) c
    | none => .stuck
  | some t, .tup ks => match anyB t ks with
    | some b => .ok (.bl b) c
    | none => .stuck
  | _, _ => .stuck
def bltD (f : Blt) (as : List D) (c : Ct) : Res D := match f, as with
  | .len, [x] => match itsD x c with
    | some xs => .ok (.int (xs.length : Int)) c
    | none => .stuck
  | .list, [x] => match itsD x c with
    | some xs => .ok (.lst xs) c
    | none => .stuck
  | .tuple, [x] => match itsD x c with
    | some xs => .ok (.tup xs) c
    | none => .stuck
  | .abs, [.int i] => .ok (.int (if i < 0 then -i else i)) c
  | .all, [x] => match (itsD x c).bind blsD with
    | some bs => if isL x then .ok (.bl (bs.all id)) c else .stuck
    | none => .stuck
  | .any, [x] => match (itsD x c).bind blsD with
    | some bs => if isL x then .ok (.bl (bs.any id)) c else .stuck
    | none => .stuck
  | .sum, [x] => match (itsD x c).bind intsD with
    | some bs => if isL x then .ok (.int bs.sum) c else .stuck
    | none => .stuck
  | .isi, [x, k] => isiD x k c
  | _, _ => .stuck

def intO (x : D) (c : Ct) : Res (Option Int) := match x with
  | .int i => .ok (some i) c
  | _ => .stuck

/-! ### freezing -/
def frzL (f : D → Ct → Option (D × Ct)) : List D → Ct → Option (List D × Ct)
  | [], c => some ([], c)
  | d :: ds, c => (f d c).bind fun (e, c) => (frzL f ds c).map fun (es, c) => (e :: es, c)
def frzD : Nat → D → Ct → Option (D × Ct)
  | k + 1, .ref n, c => match c[n]? with
    | some (.lst xs) => (frzL (frzD k) xs (c.set n .dead)).map fun (ys, c) => (.lst ys, c)
    | _ => none
  | k + 1, .tup xs, c => (frzL (frzD k) xs c).map fun (ys, c) => (.tup ys, c)
  | k + 1, .lst xs, c => (frzL (frzD k) xs c).map fun (ys, c) => (.lst ys, c)
  | _, .non, c => some (.non, c)
  | _, .bl b, c => some (.bl b, c)
  | _, .int b, c => some (.int b, c)
  | _, .str b, c => some (.str b, c)
  | _, _, _ => none

/-! ### running -/
def arrD {α : Type} (k : Cst → α) (xs : List α) : List Src → Option (List α)
  | [] => some []
  | .arg i :: r => (xs[i]?).bind fun x => (arrD k xs r).map (x :: ·)
  | .dfl c :: r => (arrD k xs r).map (k c :: ·)
inductive Fl where
  | nx (sl : Sl) | rt (d : D) (sl : Sl) | bk (sl : Sl) | ct (sl : Sl) | ex (x : XD) (sl : Sl)
inductive RS where
  | ok (f : Fl) (c : Ct) | stuck
abbrev CallF := Nat → List D → Ct → Res D
mutual
/-- stores; none: it does not fit -/
def asT : IT → D → Sl → Option Sl
  | .nm i, d, sl => some (sl.set i (some d))
  | .tp ts, .tup ds, sl => asTs ts ds sl
  | .tp _, _, _ => none
def asTs : List IT → List D → Sl → Option Sl
  | [], [], sl => some sl
  | t :: ts, d :: ds, sl => (asT t d sl).bind fun sl => asTs ts ds sl
  | _, _, _ => none
end
def wipeD (sl : Sl) : List Nat → Sl
  | [] => sl
  | v :: vs => (wipeD sl vs).set v none
/-- a comprehension's turns -/
def compR (tg : D → Sl → Option Sl) (q : Sl → Ct → Res Bool) (f : Sl → Ct → Res D) (sl : Sl) : List D → Ct → Res (List D)
  | [], c => .ok [] c
  | d :: ds, c => match tg d sl with
    | none => .stuck
    | some sl' => match q sl' c with
      | .ok false c => compR tg q f sl ds c
      | .ok true c => match f sl' c with
        | .ok e c => match compR tg q f sl ds c with
          | .ok es c => .ok (e :: es) c
          | _ => .stuck
        | _ => .stuck
      | _ => .stuck
def rngD (lo : Int) (n : Nat) : List D := (List.range n).map fun (i : Nat) => D.int (lo + (i : Int))
def small (i : Int) : Prop := -(2 ^ 62) ≤ i ∧ i < 2 ^ 62
instance (i : Int) : Decidable (small i) := inferInstanceAs (Decidable (_ ∧ _))
/-- as a test, or as a value -/
def truK (x : D) (c : Ct) : Res D := bnd (truD x c) fun b c => .ok (.bl b) c
def tst (tm : Bool) (r : Res D) : Res D := if tm = true then bnd r truK else r
@[simp] theorem tst_f (r : Res D) : tst false r = r := rfl
@[simp] theorem tst_t (r : Res D) : tst true r = bnd r truK := rfl
def bolK (x : D) (c : Ct) : Res Bool := match x with
  | .bl b => .ok b c
  | _ => .stuck
def chnK (o o' : COp) (x y : D) (fe : Ct → Res D) (c : Ct) : Res D := bnd (cmpD o x y c) fun r c => match r with
  | .bl true => bnd (fe c) fun z c => cmpD o' y z c
  | .bl false => .ok (.bl false) c
  | _ => .stuck
def andK (x : D) (fb : Ct → Res D) (c : Ct) : Res D := match x with
  | .bl true => fb c
  | .bl false => .ok (.bl false) c
  | _ => .stuck
def orK (x : D) (fb : Ct → Res D) (c : Ct) : Res D := match x with
  | .bl false => fb c
  | .bl true => .ok (.bl true) c
  | _ => .stuck
def notK (x : D) (c : Ct) : Res D := match x with
  | .bl b => .ok (.bl (!b)) c
  | _ => .stuck
def ifK (k : Bool) (fa fb : Ct → Res D) (c : Ct) : Res D := if k = true then fa c else fb c
def tupK (ds : List D) (c : Ct) : Res D := if ds.length ≤ 1000 then .ok (.tup ds) c else .stuck
def lstK (mu : Bool) (ds : List D) (c : Ct) : Res D := if ds.length ≤ 1000 then (if mu = true then .ok (.ref c.length) (c ++ [.lst ds]) else .ok (.lst ds) c) else .stuck
def mkD (mu : Bool) (es : List D) (c : Ct) : Res D := if es.length ≤ 100000 then (if mu = true then .ok (.ref c.length) (c ++ [.lst es]) else .ok (.lst es) c) else .stuck
def compK (mu : Bool) (t : IT) (fq : Sl → Ct → Res Bool) (fe : Sl → Ct → Res D) (slw : Sl) (its : List D) (c : Ct) : Res D := match compR (asT t) fq fe slw its c with
  | .ok es c => mkD mu es c
  | _ => .stuck
def callK (call : CallF) (f : Nat) (src : List Src) (ds zs : List D) (c : Ct) : Res D := match arrD Cst.d (ds ++ zs) src with
  | some as => call f as c
  | none => .stuck
def frzK (k : Nat) (x : D) (c : Ct) : Res D := match frzD k x c with
  | some (y, c) => .ok y c
  | none => .stuck
def varK (o : Option (Option D)) (c : Ct) : Res D := match o with
  | some (some d) => .ok d c
  | _ => .stuck
def seqD (x : D) (c : Ct) : Res (List D) := match x with
  | .lst xs => .ok xs c
  | .tup xs => .ok xs c
  | _ => .stuck
def rng1K (x : D) (c : Ct) : Res (List D) := match x with
  | .int j => if small j then .ok (rngD 0 j.toNat) c else .stuck
  | _ => .stuck
def rng2K (x y : D) (c : Ct) : Res (List D) := match x, y with
  | .int i, .int j => if small i ∧ small j then .ok (rngD i (j - i).toNat) c else .stuck
  | _, _ => .stuck
section
variable (call : CallF)
mutual
def evM : Bool → IE → Sl → Ct → Res D
  | tm, .var i, sl, c => tst tm (varK sl[i]? c)
  | tm, .cst k, _, c => tst tm (.ok k.d c)
  | tm, .typ n, _, c => tst tm (.ok (.ty n) c)
  | tm, .bin o a b, sl, c => tst tm (bnd (evM false a sl c) fun x c => bnd (evM false b sl c) fun y c => binD o x y c)
  | _, .cmp o a b, sl, c => bnd (evM false a sl c) fun x c => bnd (evM false b sl c) fun y c => cmpD o x y c
  | _, .chn o o' a b e, sl, c => bnd (evM false a sl c) fun x c => bnd (evM false b sl c) fun y c => chnK o o' x y (evM false e sl) c
  | tm, .and a b, sl, c => bnd (evM tm a sl c) fun x c => andK x (evM tm b sl) c
  | tm, .or a b, sl, c => bnd (evM tm a sl c) fun x c => orK x (evM tm b sl) c
  | tm, .not a, sl, c => bnd (evM tm a sl c) notK
  | tm, .ifx q a b, sl, c => tst tm (bnd (bnd (evM true q sl c) bolK) fun k c => ifK k (evM false a sl) (evM false b sl) c)
  | tm, .tup es, sl, c => tst tm (bnd (evA es sl c) tupK)
  | tm, .lst mu es, sl, c => tst tm (bnd (evA es sl c) (lstK mu))
  | tm, .idx a b, sl, c => tst tm (bnd (evM false a sl c) fun x c => bnd (evM false b sl c) fun y c => idxD x y c)
  | tm, .slc a lo hi, sl, c => tst tm (bnd (evM false a sl c) fun x c => bnd (evO lo sl c) fun l c => bnd (evO hi sl c) fun h c => slcD x l h c)
  | tm, .call f _ src es kes, sl, c => tst tm (bnd (evA es sl c) fun ds c => bnd (evA kes sl c) fun zs c => callK call f src ds zs c)
  | tm, .blt f es, sl, c => tst tm (bnd (evA es sl c) fun ds c => bltD f ds c)
  | tm, .comp mu own t s q e, sl, c => tst tm (bnd (evI s sl c) fun its c => compK mu t (fun sl c => bnd (evM true q sl c) bolK) (evM false e) (wipeD sl (own.map (·.2))) its c)
  | tm, .frz k e, sl, c => tst tm (bnd (evM false e sl c) (frzK k))
def evO : IO → Sl → Ct → Res (Option Int)
  | .no, _, c => .ok none c
  | .so e, sl, c => bnd (evM false e sl c) intO
def evA : IEs → Sl → Ct → Res (List D)
  | .nil, _, c => .ok [] c
  | .cons e es, sl, c => bnd (evM false e sl c) fun x c => bnd (evA es sl c) fun xs c => .ok (x :: xs) c
/-- the items that are walked -/
def evI : II → Sl → Ct → Res (List D)
  | .seq e, sl, c => bnd (evM false e sl c) seqD
  | .rng1 a, sl, c => bnd (evM false a sl c) rng1K
  | .rng2 a b, sl, c => bnd (evM false a sl c) fun x c => bnd (evM false b sl c) fun y c => rng2K x y c
end
abbrev evE : IE → Sl → Ct → Res D := evM call false
def evT (i : IE) (sl : Sl) (c : Ct) : Res Bool := bnd (evM call true i sl c) bolK
end

/-! ### statements -/
def ofR {α : Type} (r : Res α) (sl : Sl) (k : α → Ct → RS) : RS := match r with
  | .ok a c => k a c
  | .exc x c => .ok (.ex x sl) c
  | .stuck => .stuck
@[simp] theorem ofR_ok {α : Type} (a : α) (c : Ct) (sl : Sl) (k : α → Ct → RS) : ofR (.ok a c) sl k = k a c := rfl
@[simp] theorem ofR_exc {α : Type} (x : XD) (c : Ct) (sl : Sl) (k : α → Ct → RS) : ofR (.exc x c : Res α) sl k = .ok (.ex x sl) c := rfl
@[simp] theorem ofR_stuck {α : Type} (sl : Sl) (k : α → Ct → RS) : ofR (.stuck : Res α) sl k = .stuck := rfl
def forR (tg : D → Sl → Option Sl) (b : Sl → Ct → RS) : List D → Sl → Ct → RS
  | [], sl, c => .ok (.nx sl) c
  | d :: ds, sl, c => match tg d sl with
    | none => .stuck
    | some sl' => match b sl' c with
      | .ok (.nx s) c => forR tg b ds s c
      | .ok (.ct s) c => forR tg b ds s c
      | .ok (.bk s) c => .ok (.nx s) c
      | .ok (.rt d s) c => .ok (.rt d s) c
      | .ok (.ex x s) c => .ok (.ex x s) c
      | .stuck => .stuck
def whN (q : Sl → Ct → Res Bool) (b : Sl → Ct → RS) : Nat → Sl → Ct → Option RS
  | 0, _, _ => none
  | n + 1, sl, c => match q sl c with
    | .ok false c => some (.ok (.nx sl) c)
    | .ok true c => match b sl c with
      | .ok (.nx s) c => whN q b n s c
      | .ok (.ct s) c => whN q b n s c
      | .ok (.bk s) c => some (.ok (.nx s) c)
      | .ok (.rt d s) c => some (.ok (.rt d s) c)
      | .ok (.ex x s) c => some (.ok (.ex x s) c)
      | .stuck => some .stuck
    | .exc x c => some (.ok (.ex x sl) c)
    | .stuck => some .stuck
theorem whN_more {q : Sl → Ct → Res Bool} {b : Sl → Ct → RS} : ∀ {n m : Nat} {sl : Sl} {c : Ct} {r : RS}, whN q b n sl c = some r → n ≤ m → whN q b m sl c = some r
  | 0, _, _, _, _, h, _ => by cases h
  | n + 1, 0, _, _, _, _, h => by omega
  | n + 1, m + 1, sl, c, r, h, hl => by
    rw [whN] at h ⊢
    cases e : q sl c with
    | stuck => rw [e] at h; exact h
    | exc x c => rw [e] at h; exact h
    | ok k c =>
      rw [e] at h
      cases k with
      | false => exact h
      | true =>
        simp only at h ⊢
        cases e2 : b sl c with
        | stuck => rw [e2] at h; exact h
        | ok f c =>
          rw [e2] at h
          cases f with
          | nx s => exact whN_more (n := n) h (by omega)
          | ct s => exact whN_more (n := n) h (by omega)
          | bk s => exact h
          | rt d s => exact h
          | ex x s => exact h
open Classical in
noncomputable def whR (q : Sl → Ct → Res Bool) (b : Sl → Ct → RS) (sl : Sl) (c : Ct) : RS := if h : ∃ n r, whN q b n sl c = some r then h.choose_spec.choose else .stuck
theorem whR_of {q : Sl → Ct → Res Bool} {b : Sl → Ct → RS} {n : Nat} {sl : Sl} {c : Ct} {r : RS} (h : whN q b n sl c = some r) : whR q b sl c = r := by
  have hx : ∃ n r, whN q b n sl c = some r := ⟨n, r, h⟩
  unfold whR
  rw [dif_pos hx]
  have h2 := hx.choose_spec.choose_spec
  have h3 := whN_more h2 (Nat.le_max_left hx.choose n)
  have h4 := whN_more h (Nat.le_max_right hx.choose n)
  rw [h4] at h3
  exact (Option.some.inj h3).symm
theorem whR_get {q : Sl → Ct → Res Bool} {b : Sl → Ct → RS} {sl : Sl} {c : Ct} (h : whR q b sl c ≠ .stuck) : ∃ n, whN q b n sl c = some (whR q b sl c) := by
  by_cases hx : ∃ n r, whN q b n sl c = some r
  · obtain ⟨n, r, e⟩ := hx
    exact ⟨n, by rw [whR_of e]; exact e⟩
  · unfold whR at h
    rw [dif_neg hx] at h
    exact absurd rfl h
/-- the unfolding -/
theorem whR_eq (q : Sl → Ct → Res Bool) (b : Sl → Ct → RS) (sl : Sl) (c : Ct) : whR q b sl c = match q sl c with
    | .ok false c => .ok (.nx sl) c
    | .ok true c => match b sl c with
      | .ok (.nx s) c => whR q b s c
      | .ok (.ct s) c => whR q b s c
      | .ok (.bk s) c => .ok (.nx s) c
      | .ok (.rt d s) c => .ok (.rt d s) c
      | .ok (.ex x s) c => .ok (.ex x s) c
      | .stuck => .stuck
    | .exc x c => .ok (.ex x sl) c
    | .stuck => .stuck := by
  have one : ∀ {r : RS}, whN q b 1 sl c = some r → whR q b sl c = r := fun h => whR_of h
  have more : ∀ {s : Sl} {c' : Ct}, (∀ n, whN q b (n + 1) sl c = whN q b n s c') → whR q b sl c = whR q b s c' := fun {s c'} h => by
    by_cases hx : ∃ n r, whN q b n s c' = some r
    · obtain ⟨n, r, e⟩ := hx
      rw [whR_of e]
      exact whR_of (n := n + 1) (by rw [h]; exact e)
    · have hy : ¬ ∃ n r, whN q b n sl c = some r := fun ⟨n, r, e⟩ => by
        cases n with
        | zero => cases e
        | succ n => rw [h] at e; exact hx ⟨n, r, e⟩
      unfold whR
      rw [dif_neg hx, dif_neg hy]
  cases e : q sl c with
  | stuck => exact one (by rw [whN, e])
  | exc x c => exact one (by rw [whN, e])
  | ok k c' =>
    cases k with
    | false => exact one (by rw [whN, e])
    | true =>
      simp only
      cases e2 : b sl c' with
      | stuck => exact one (by rw [whN, e]; simp only [e2])
      | ok f c2 =>
        cases f with
        | nx s => exact more fun n => by rw [whN, e]; simp only [e2]
        | ct s => exact more fun n => by rw [whN, e]; simp only [e2]
        | bk s => exact one (by rw [whN, e]; simp only [e2])
        | rt d s => exact one (by rw [whN, e]; simp only [e2])
        | ex x s => exact one (by rw [whN, e]; simp only [e2])
def putD (o i d : D) (c : Ct) : Option Ct := match o, i with
  | .ref n, .int k => match c[n]? with
    | some (.lst xs) => (ixN xs.length k).map fun j => c.set n (.lst (xs.set j d))
    | _ => none
  | _, _ => none
/-- a new exception's fields -/
def flV {α : Type} (k : Cst → α) (xs : List α) : List (Str × Src) → Option (List (Str × α))
  | [] => some []
  | (f, .arg i) :: r => (xs[i]?).bind fun x => (flV k xs r).map ((f, x) :: ·)
  | (f, .dfl c) :: r => (flV k xs r).map ((f, k c) :: ·)
def hxV (x : XD) : HX → Option D
  | .fld f => x.fs.lookup f
  | .isi n => (x.sup.lookup n).map .bl
def hxVs (x : XD) : List HX → Option (List D)
  | [] => some []
  | h :: r => (hxV x h).bind fun d => (hxVs x r).map (d :: ·)
def rseK (C : Str) (n : Nat) (sup : List (Str × Bool)) (fl : List (Str × Src)) (sl : Sl) (ds : List D) (c : Ct) : RS := if ds.length = n then (match flV Cst.d ds fl with
  | some fs => .ok (.ex ⟨C, sup, fs.reverse⟩ sl) c
  | none => .stuck) else .stuck
def hdlK (i : Nat) (tg : Option Nat) (s : Sl) (c : Ct) (ds : List D) : RS := if i < s.length ∧ ds.length ≤ 1000 then (match tg with
    | none => .ok (.rt (.tup ds) s) c
    | some j => .ok (.nx ((s.set j (some (.tup ds))).set i none)) c) else .stuck
def tryK (D : Str) (i : Nat) (hx : List HX) (tg : Option Nat) (r : RS) : RS := match r with
  | .ok (.ex x s) c => match x.sup.lookup D with
    | some true => match hxVs x hx with
      | some ds => hdlK i tg s c ds
      | none => .stuck
    | some false => .ok (.ex x s) c
    | none => .stuck
  | r => r
section
variable (call : CallF)
mutual
noncomputable def evS : IS → Sl → Ct → RS
  | .asg t e, sl, c => ofR (evE call e sl c) sl fun d c => match asT t d sl with
    | some sl => .ok (.nx sl) c
    | none => .stuck
  | .par i j a b, sl, c => ofR (evE call a sl c) sl fun x c => ofR (evE call b sl c) sl fun y c => .ok (.nx ((sl.set i (some x)).set j (some y))) c
  | .put o i e, sl, c => ofR (evE call e sl c) sl fun d c => ofR (evE call o sl c) sl fun x c => ofR (evE call i sl c) sl fun y c => match putD x y d c with
    | some c => .ok (.nx sl) c
    | none => .stuck
  | .aug i o e, sl, c => match sl[i]? with
    | some (some x) => ofR (evE call e sl c) sl fun y c => ofR (binD o x y c) sl fun z c => .ok (.nx (sl.set i (some z))) c
    | _ => .stuck
  | .expr e, sl, c => ofR (evE call e sl c) sl fun _ c => .ok (.nx sl) c
  | .ret e, sl, c => ofR (evE call e sl c) sl fun d c => .ok (.rt d sl) c
  | .retN, sl, c => .ok (.rt .non sl) c
  | .ifs q a b, sl, c => ofR (evT call q sl c) sl fun k c => if k = true then evSs a sl c else evSs b sl c
  | .whl q b, sl, c => whR (evT call q) (evSs b) sl c
  | .for t s b, sl, c => ofR (evI call s sl c) sl fun its c => forR (asT t) (evSs b) its sl c
  | .pass, sl, c => .ok (.nx sl) c
  | .brk, sl, c => .ok (.bk sl) c
  | .cont, sl, c => .ok (.ct sl) c
  | .nev, _, _ => .stuck
  | .rse C n sup fl es, sl, c => ofR (evA call es sl c) sl (rseK C n sup fl sl)
  | .tryA b D i hx tg, sl, c => tryK D i hx tg (evSs b sl c)
noncomputable def evSs : ISs → Sl → Ct → RS
  | .nil, sl, c => .ok (.nx sl) c
  | .cons s r, sl, c => match evS s sl c with
    | .ok (.nx sl) c => evSs r sl c
    | .ok (.bk s) c => .ok (.bk s) c
    | .ok (.ct s) c => .ok (.ct s) c
    | .ok (.rt d s) c => .ok (.rt d s) c
    | .ok (.ex x s) c => .ok (.ex x s) c
    | .stuck => .stuck
end
end
/-- a def: how many parameters, how many names, its body -/
structure FD where
  ps : Nat
  n : Nat
  body : ISs
def fin : RS → Res D
  | .ok (.nx _) c => .ok .non c
  | .ok (.rt d _) c => .ok d c
  | .ok (.ex x _) c => .exc x c
  | _ => .stuck
def begin_ (n : Nat) (as : List D) : Sl := as.map some ++ List.replicate (n - as.length) none
noncomputable def runF (call : CallF) (fd : FD) (as : List D) (c : Ct) : Res D := if as.length = fd.ps then fin (evSs call fd.body (begin_ fd.n as) c) else .stuck
noncomputable def evF (T : List FD) : Nat → CallF
  | 0, _, _, _ => .stuck
  | k + 1, f, as, c => match T[f]? with
    | none => .stuck
    | some fd => runF (evF T k) fd as c
end Hv

set_option Elab.async false
set_option linter.all false
set_option maxRecDepth 100000
set_option maxHeartbeats 2000000
/-! HvC: operators and built-ins: what the plain functions say holds of the machine. -/
namespace Hv
open PySem PySem.Spec PyProof.Rows L2

theorem _root_.L2.PE.weak {X : Cx} {e : Expr} {t t' : TE} (h : PE X e t) (k : ∀ σ H Q, t' σ H Q → t σ H Q) : PE X e t' := ⟨fun pins s σ H Q I q => h.run pins s σ H Q I (k _ _ _ q)⟩
theorem _root_.L2.PT.weak {X : Cx} {e : Expr} {t t' : TT} (h : PT X e t) (k : ∀ σ H Q, t' σ H Q → t σ H Q) : PT X e t' := ⟨fun pins s σ H Q I q => h.run pins s σ H Q I (k _ _ _ q)⟩
theorem _root_.L2.PA.weak {X : Cx} {es : List Expr} {t t' : TA} (h : PA X es t) (k : ∀ σ H Q, t' σ H Q → t σ H Q) : PA X es t' := ⟨fun pos pins s σ H Q I q => h.run pos pins s σ H Q I (k _ _ _ q)⟩
theorem _root_.L2.PS.weak {X : Cx} {e : Stmt} {t t' : TS} (h : PS X e t) (k : ∀ D σ H, t' D σ H → t D σ H) : PS X e t' := ⟨fun pins s σ H D I q => h.run pins s σ H D I (k _ _ _ q)⟩
theorem _root_.L2.PSs.weak {X : Cx} {e : List Stmt} {t t' : TS} (h : PSs X e t) (k : ∀ D σ H, t' D σ H → t D σ H) : PSs X e t' := ⟨fun pins s σ H D I q => h.run pins s σ H D I (k _ _ _ q)⟩

section
variable (K : PySem.W.Frag) (mg : Str → Option Value)
/-- an operation upon values, by a plain function -/
def rOp (g : D → D → Ct → Res D) : R2 := fun x y H Q => ∃ ω dx dy c W σ, Rel K mg ω c H ∧ R K mg ω dx x ∧ R K mg ω dy y ∧ Post K mg (R K mg) ω W σ (g dx dy c) Q
def rUn (g : D → Ct → Res D) : V → Hp → VK → Prop := fun x H Q => ∃ ω dx c W σ, Rel K mg ω c H ∧ R K mg ω dx x ∧ Post K mg (R K mg) ω W σ (g dx c) Q
def rAr (g : List D → Ct → Res D) : List V → Hp → VK → Prop := fun xs H Q => ∃ ω ds c W σ, Rel K mg ω c H ∧ Rs K mg ω ds xs ∧ Post K mg (R K mg) ω W σ (g ds c) Q
end
section
variable {X : Cx} {W : WX} {pos : Pos}
/-- a // b by a divisor that is not nought, below 2 ^ 9000 -/
theorem op_fdivX : OpR X (binaryOp .FloorDiv) (rI (fun _ j => j ≠ 0 ∧ j.natAbs.log2 < 9000) fun i j => .int (i.fdiv j)) := opI fun _ _ _ _ _ _ _ hc q => floordiv_int hc.1 q (.inl (PyProof.noPylong_of_log2 hc.2))
def opOf : BOp → Operator
  | .add => .Add | .sub => .Sub | .mul => .Mult | .fdiv => .FloorDiv | .mod => .Mod | .pow => .Pow
theorem op_bin (o : BOp) : OpR X (binaryOp (opOf o)) (rOp X.K X.mg (binD o)) := by
  intro pins s σ H x y v u Q I rv ru ⟨ω, dx, dy, c, W, σ', rel, rx, ry, p⟩
  unfold binD at p
  split at p
  · cases rx; cases ry
    exact op_add pins s σ H _ _ v u Q I rv ru ⟨_, _, rfl, rfl, p.ok_of rel (.int _)⟩
  · cases rx; cases ry
    exact op_sub pins s σ H _ _ v u Q I rv ru ⟨_, _, rfl, rfl, p.ok_of rel (.int _)⟩
  · cases rx; cases ry
    split at p
    · rename_i h
      exact op_mulW pins s σ H _ _ v u Q I rv ru ⟨_, _, rfl, rfl, h, p.ok_of rel (.int _)⟩
    · exact p.elim
  · cases rx; cases ry
    split at p
    · rename_i h
      exact op_fdivX pins s σ H _ _ v u Q I rv ru ⟨_, _, rfl, rfl, h, p.ok_of rel (.int _)⟩
    · exact p.elim
  · cases rx; cases ry
    split at p
    · rename_i h
      exact op_modN pins s σ H _ _ v u Q I rv ru ⟨_, _, rfl, rfl, h, p.ok_of rel (.int _)⟩
    · exact p.elim
  · cases rx; cases ry
    split at p
    · rename_i h
      exact op_pow pins s σ H _ _ v u Q I rv ru ⟨_, _, rfl, rfl, h, p.ok_of rel (.int _)⟩
    · exact p.elim
  · exact p.elim
def copOf : COp → CmpOp
  | .lt => .Lt | .le => .LtE | .gt => .Gt | .ge => .GtE | .eq => .Eq | .ne => .NotEq | .is => .Is | .isn => .IsNot | .inn => .In | .nin => .NotIn
theorem eqD_scal {ω : Wd} {K : PySem.W.Frag} {mg : Str → Option Value} {dx dy : D} {x y : V} {b : Bool} (e : eqD dx dy = some b) (rx : R K mg ω dx x) (ry : R K mg ω dy y) : scal x y = true ∧ decide (x = y) = b := by
  unfold eqD at e
  split at e <;> first | (cases e; done) | (cases e; cases rx; cases ry; first | (constructor <;> simp [scal]; done) | (constructor; · rfl; · simp))
theorem isNon_v {ω : Wd} {K : PySem.W.Frag} {mg : Str → Option Value} {dx : D} {x : V} (rx : R K mg ω dx x) : decide (x = .non) = isNon dx := by
  cases rx <;> rfl
theorem op_cmp (o : COp) : OpR X (compareOp (copOf o)) (rOp X.K X.mg (cmpD o)) := by
  intro pins s σ H x y v u Q I rv ru ⟨ω, dx, dy, c, W, σ', rel, rx, ry, p⟩
  unfold cmpD at p
  split at p
  · cases rx; cases ry
    exact op_lt pins s σ H _ _ v u Q I rv ru ⟨_, _, rfl, rfl, p.ok_of rel (.bl _)⟩
  · cases rx; cases ry
    exact op_le pins s σ H _ _ v u Q I rv ru ⟨_, _, rfl, rfl, p.ok_of rel (.bl _)⟩
  · cases rx; cases ry
    exact op_gt pins s σ H _ _ v u Q I rv ru ⟨_, _, rfl, rfl, p.ok_of rel (.bl _)⟩
  · cases rx; cases ry
    exact op_ge pins s σ H _ _ v u Q I rv ru ⟨_, _, rfl, rfl, p.ok_of rel (.bl _)⟩
  · split at p
    · rename_i b e
      obtain ⟨h1, h2⟩ := eqD_scal e rx ry
      refine op_eq pins s σ H _ _ v u Q I rv ru ⟨h1, ?_⟩
      rw [h2]
      exact p.ok_of rel (.bl _)
    · exact p.elim
  · split at p
    · rename_i b e
      obtain ⟨h1, h2⟩ := eqD_scal e rx ry
      refine op_ne pins s σ H _ _ v u Q I rv ru ⟨h1, ?_⟩
      rw [h2]
      exact p.ok_of rel (.bl _)
    · exact p.elim
  · cases ry
    refine op_isN pins s σ H _ _ v u Q I rv ru ⟨rfl, ?_⟩
    rw [isNon_v rx]
    exact p.ok_of rel (.bl _)
  · cases ry
    refine op_notN pins s σ H _ _ v u Q I rv ru ⟨rfl, ?_⟩
    rw [isNon_v rx]
    exact p.ok_of rel (.bl _)
  · cases rx; cases ry
    exact op_isBl pins s σ H _ _ v u Q I rv ru ⟨_, _, rfl, rfl, p.ok_of rel (.bl _)⟩
  · cases rx; cases ry
    exact op_notBl pins s σ H _ _ v u Q I rv ru ⟨_, _, rfl, rfl, p.ok_of rel (.bl _)⟩
  · exact p.elim
/-- the items of a list or a tuple, where it stands -/
theorem its_of {K : PySem.W.Frag} {mg : Str → Option Value} {ω : Wd} {c : Ct} {H : Hp} {d : D} {x : V} {xs : List D} (rel : Rel K mg ω c H) (r : R K mg ω d x) (e : itsD d c = some xs) :
    ∃ a vs, x = .ref a ∧ Rs K mg ω xs vs ∧ ((isL d = true ∧ SqL K H a vs) ∨ (isL d = false ∧ SqT K H a vs ∧ d = .tup xs)) := by
  unfold itsD at e
  split at e
  · cases e
    cases r with
    | lst h r => exact ⟨_, _, rfl, r, .inl ⟨rfl, sq_l rel.ext h⟩⟩
  · cases e
    cases r with
    | tup h r => exact ⟨_, _, rfl, r, .inr ⟨rfl, sq_t rel.ext h.sq, rfl⟩⟩
  · rename_i n
    split at e
    · rename_i ys hc
      cases e
      cases r with
      | ref h =>
        obtain ⟨k1, k2⟩ := rel.live _ _ _ h hc (by intro z; cases z)
        unfold COk at k2
        split at k2
        · rename_i z; cases z
        · rename_i us vs z1 z2
          cases z1
          exact ⟨_, _, rfl, k2, .inl ⟨rfl, .inl (.inl z2)⟩⟩
        · rename_i z _; cases z
        · rename_i z _; cases z
        · rename_i z _; cases z
        · exact k2.elim
    · cases e
  · cases e
theorem atI_rs {K : PySem.W.Frag} {mg : Str → Option Value} {ω : Wd} {xs : List D} {vs : List V} {k : Int} {d : D} (r : Rs K mg ω xs vs) (e : atI xs k = some d) : ∃ v, atI vs k = some v ∧ R K mg ω d v := by
  unfold atI at e ⊢
  rw [← r.length]
  cases h : ixN xs.length k with
  | none => rw [h] at e; cases e
  | some j =>
    rw [h] at e
    exact r.get e
def rIx (K : PySem.W.Frag) : R2 := fun x y H Q => rIxL K x y H Q ∨ rIxT K x y H Q
theorem IxR.or {r r' : R2} (h : IxR X r) (h' : IxR X r') : IxR X (fun x y H Q => r x y H Q ∨ r' x y H Q) := by
  intro value slice pins s σ H x y v u Q I rx ry q e
  rcases q with q | q
  · exact h value slice pins s σ H x y v u Q I rx ry q e
  · exact h' value slice pins s σ H x y v u Q I rx ry q e
theorem ix_D : IxR X (rOp X.K X.mg idxD) := by
  intro value slice pins s σ H x y v u Q I rv ru ⟨ω, dx, dy, c, W, σ', rel, rx, ry, p⟩ e
  unfold idxD at p
  split at p
  · rename_i k
    split at p
    · rename_i xs hx
      cases ha : atI xs k with
      | none => rw [ha] at p; exact p.elim
      | some d =>
        rw [ha] at p
        obtain ⟨a, vs, rfl, rs, h⟩ := its_of rel rx hx
        obtain ⟨z, hz, rz⟩ := atI_rs rs ha
        cases ry
        rcases h with ⟨_, h⟩ | ⟨_, h, _⟩
        · exact ix_list value slice pins s σ H _ _ v u Q I rv ru ⟨a, vs, k, z, rfl, rfl, h, hz, p.ok_of rel rz⟩ e
        · exact ix_tup value slice pins s σ H _ _ v u Q I rv ru ⟨a, vs, k, z, rfl, rfl, h, hz, p.ok_of rel rz⟩ e
    · exact p.elim
  · exact p.elim
theorem cut_rs {K : PySem.W.Frag} {mg : Str → Option Value} {ω : Wd} {xs : List D} {vs : List V} (r : Rs K mg ω xs vs) (lo hi : Option Int) : Rs K mg ω (cutD xs lo hi) (cutV vs lo hi) := by
  unfold cutD cutV
  rw [r.length]
  exact (r.drop _).take _
/-- a new list | tuple that stands for ever -/
theorem new_lst {K : PySem.W.Frag} {mg : Str → Option Value} {ω : Wd} {c : Ct} {H : Hp} {W : WX} {σ : L2.St} {xs : List D} {vs : List V} {Q : VK} (rel : Rel K mg ω c H) (rs : Rs K mg ω xs vs) (p : Post K mg (R K mg) ω W σ (.ok (.lst xs) c) Q) : ∀ a, H a = none → Q (.ref a) (upd H a (.lst vs)) := fun a ha => by
  obtain ⟨l, rel'⟩ := rel.frozen ha (.lst vs)
  exact p.ok_le l rel' (.lst (.inl (.inl upd_same)) (rs.mono l.toLo))
theorem new_tup {K : PySem.W.Frag} {mg : Str → Option Value} {ω : Wd} {c : Ct} {H : Hp} {W : WX} {σ : L2.St} {xs : List D} {vs : List V} {Q : VK} (rel : Rel K mg ω c H) (rs : Rs K mg ω xs vs) (p : Post K mg (R K mg) ω W σ (.ok (.tup xs) c) Q) : ∀ a, H a = none → Q (.ref a) (upd H a (.tup vs)) := fun a ha => by
  obtain ⟨l, rel'⟩ := rel.frozen ha (.tup vs)
  exact p.ok_le l rel' (.tup (.inl upd_same) (rs.mono l.toLo))
/-- a new list that may change -/
theorem new_cell {K : PySem.W.Frag} {mg : Str → Option Value} {ω : Wd} {c : Ct} {H : Hp} {W : WX} {σ : L2.St} {xs : List D} {vs : List V} {Q : VK} (rel : Rel K mg ω c H) (rs : Rs K mg ω xs vs) (p : Post K mg (R K mg) ω W σ (.ok (.ref c.length) (c ++ [.lst xs])) Q) : ∀ a, H a = none → Q (.ref a) (upd H a (.lst vs)) := fun a ha => by
  obtain ⟨l, hm, rel'⟩ := rel.cell ha (o := .lst vs) (u := .lst xs) rs
  exact p.ok_le l rel' (.ref hm)

/-! ### built-ins -/
theorem bls_of {K : PySem.W.Frag} {mg : Str → Option Value} {ω : Wd} : ∀ {xs : List D} {vs : List V} {bs : List Bool}, Rs K mg ω xs vs → blsD xs = some bs → vs = bs.map V.bl
  | [], _, _, .nil, e => by cases e; rfl
  | d :: ds, _, bs, .cons h t, e => by
    unfold blsD at e
    split at e
    · rename_i z; cases z
    · rename_i b r z
      cases z
      cases h
      cases e2 : blsD ds with
      | none => rw [e2] at e; cases e
      | some cs =>
        rw [e2] at e
        cases e
        rw [bls_of t e2]
        rfl
    · cases e
theorem ints_of {K : PySem.W.Frag} {mg : Str → Option Value} {ω : Wd} : ∀ {xs : List D} {vs : List V} {bs : List Int}, Rs K mg ω xs vs → intsD xs = some bs → vs = bs.map V.int
  | [], _, _, .nil, e => by cases e; rfl
  | d :: ds, _, bs, .cons h t, e => by
    unfold intsD at e
    split at e
    · rename_i z; cases z
    · rename_i b r z
      cases z
      cases h
      cases e2 : intsD ds with
      | none => rw [e2] at e; cases e
      | some cs =>
        rw [e2] at e
        cases e
        rw [ints_of t e2]
        rfl
    · cases e
theorem sql_ty {K : PySem.W.Frag} {H : Hp} {a : Addr} {xs : List V} (h : SqL K H a xs) : TyX K H (.ref a) (.type "list") := by
  rcases h with (h | ⟨o, h⟩) | h
  · exact .base (.lst h)
  · exact .base (.frz h)
  · obtain ⟨o, its, n, e1, e2, e3, e4⟩ := h
    exact .kList e1 e2
theorem sqt_ty {K : PySem.W.Frag} {H : Hp} {a : Addr} {xs : List V} (h : SqT K H a xs) : TyX K H (.ref a) (.type "tuple") := by
  rcases h with (h | ⟨o, h⟩) | h
  · exact .base (.tup h)
  · exact .fTuple h
  · obtain ⟨o, its, n, e1, e2, _⟩ := h
    exact .kTuple e1 e2
theorem ty_of {K : PySem.W.Frag} {mg : Str → Option Value} {ω : Wd} {c : Ct} {H : Hp} {d : D} {x : V} {t : String} (rel : Rel K mg ω c H) (r : R K mg ω d x) (e : tyD d c = some t) : TyX K H x (.type t) := by
  unfold tyD at e
  split at e
  · cases e; cases r; exact .base .non
  · cases e; cases r; exact .base (.bl _)
  · cases e; cases r; exact .base (.int _)
  · cases e; cases r; exact .base (.str _)
  · cases e
    cases r with
    | tup h r => exact sqt_ty (sq_t rel.ext h.sq)
  · cases e
    cases r with
    | lst h r => exact sql_ty (sq_l rel.ext h)
  · cases e
    cases r with
    | dctK h r => exact .base (.dK (rel.ext _ _ h))
    | dctT h r => exact .base (.dT (rel.ext _ _ h))
  · rename_i n
    cases r with
    | ref h =>
      split at e
      · rename_i ys hc
        cases e
        obtain ⟨k1, k2⟩ := rel.live _ _ _ h hc (by intro z; cases z)
        unfold COk at k2
        split at k2
        · rename_i z; cases z
        · rename_i us vs z1 z2
          exact .base (.lst z2)
        · rename_i z _; cases z
        · rename_i z _; cases z
        · rename_i z _; cases z
        · exact k2.elim
      · rename_i ys hc
        cases e
        obtain ⟨k1, k2⟩ := rel.live _ _ _ h hc (by intro z; cases z)
        unfold COk at k2
        split at k2
        · rename_i z; cases z
        · rename_i z _; cases z
        · rename_i z _; cases z
        · rename_i us vs z1 z2
          exact .base (.dK z2)
        · rename_i us vs z1 z2
          exact .base (.dT z2)
        · exact k2.elim
      · cases e
  · cases e
theorem tys_of {K : PySem.W.Frag} {mg : Str → Option Value} {ω : Wd} : ∀ {ks : List D} {vs : List V}, Rs K mg ω ks vs → tysD ks = true → ∃ us, Paired ClsV vs us
  | [], _, .nil, e => ⟨[], .nil⟩
  | d :: ds, _, .cons h r, e => by
    unfold tysD at e
    split at e
    · rename_i z; cases z
    · rename_i n r z
      cases z
      cases h
      obtain ⟨us, p⟩ := tys_of (by assumption) e
      exact ⟨_, .cons (.ty n) p⟩
    · cases e
theorem any_of {K : PySem.W.Frag} {mg : Str → Option Value} {ω : Wd} {t : String} : ∀ {ks : List D} {vs : List V} {b : Bool}, Rs K mg ω ks vs → anyB t ks = some b → ∃ us, Paired ClsV vs us ∧ PySem.W.kitAny K (.type t) us = some b
  | [], _, b, .nil, e => by cases e; exact ⟨[], .nil, kitAny_nil⟩
  | d :: ds, _, b, .cons h r, e => by
    unfold anyB at e
    split at e
    · rename_i z; cases z
    · rename_i n r z
      cases z
      cases h
      split at e
      · rename_i hk
        split at e
        · rename_i ht
          cases e
          obtain ⟨us, p⟩ := tys_of (by assumption) ht
          exact ⟨_, .cons (.ty n) p, kitAny_cons (r := true) (kit_ty hk) (fun z => by cases z) (fun _ => rfl)⟩
        · cases e
      · rename_i hk
        obtain ⟨us, p, q⟩ := any_of (by assumption) e
        exact ⟨_, .cons (.ty n) p, kitAny_cons (kit_ty hk) (fun _ => q) (fun z => by cases z)⟩
      · cases e
    · cases e
def bltName : Blt → Str
  | .len => "len" | .list => "list" | .tuple => "tuple" | .abs => "abs" | .all => "all" | .any => "any" | .sum => "sum" | .isi => "isinstance" | .int => "int" | .max => "max" | .min => "min" | .sorted => "sorted"
def bltVal : Blt → Value
  | .len => .builtin "len" | .list => .type "list" | .tuple => .type "tuple" | .abs => .builtin "abs" | .all => .builtin "all" | .any => .builtin "any" | .sum => .builtin "sum" | .isi => .builtin "isinstance" | .int => .type "int"
  | .max => .builtin "max" | .min => .builtin "min" | .sorted => .builtin "sorted"
theorem blt_call (hc : X.calm = true) (f : Blt) : CallR X (bltVal f) (rAr X.K X.mg (bltD f)) := by
  intro pins s σ H xs us Q I rv ⟨ω, ds, c, W, σ', rel, rs, p⟩
  unfold bltD at p
  split at p
  · rename_i x
    cases rs with
    | cons rx rn =>
    cases rn
    split at p
    · rename_i ys hx
      obtain ⟨a, vs, rfl, r2, h⟩ := its_of rel rx hx
      refine call_len_seq pins s σ H _ us Q I rv ⟨a, vs, rfl, ?_, ?_⟩
      · rcases h with ⟨_, h⟩ | ⟨_, h, _⟩
        · exact .inl h
        · exact .inr h
      · rw [← r2.length]
        exact p.ok_of rel (.int _)
    · exact p.elim
  · rename_i x
    cases rs with
    | cons rx rn =>
    cases rn
    split at p
    · rename_i ys hx
      obtain ⟨a, vs, rfl, r2, h⟩ := its_of rel rx hx
      refine call_list_of pins s σ H _ us Q I rv ⟨a, vs, rfl, ?_, new_lst rel r2 p⟩
      rcases h with ⟨_, h⟩ | ⟨_, h, _⟩
      · exact .inl h
      · exact .inr h
    · exact p.elim
  · rename_i x
    cases rs with
    | cons rx rn =>
    cases rn
    split at p
    · rename_i ys hx
      obtain ⟨a, vs, rfl, r2, h⟩ := its_of rel rx hx
      refine call_tuple_of pins s σ H _ us Q I rv ⟨a, vs, rfl, ?_⟩
      rcases h with ⟨_, h⟩ | ⟨_, h, e⟩
      · exact .inl ⟨h, new_tup rel r2 p⟩
      · refine .inr ⟨h, ?_⟩
        subst e
        exact p.ok_of rel rx
    · exact p.elim
  · cases rs with
    | cons rx rn =>
    cases rn
    cases rx
    exact call_abs pins s σ H _ us Q I rv ⟨_, rfl, p.ok_of rel (.int _)⟩
  · rename_i x
    cases rs with
    | cons rx rn =>
    cases rn
    split at p
    · rename_i bs hb
      split at p
      · rename_i hl
        cases hx : itsD x c with
        | none => rw [hx] at hb; cases hb
        | some ys =>
          rw [hx] at hb
          obtain ⟨a, vs, rfl, r2, h⟩ := its_of rel rx hx
          rw [bls_of r2 hb] at h
          rcases h with ⟨_, h⟩ | ⟨z, _, _⟩
          · exact cr_all hc pins s σ H _ us Q I rv ⟨a, bs, rfl, h, p.ok_of rel (.bl _)⟩
          · rw [hl] at z; cases z
      · exact p.elim
    · exact p.elim
  · rename_i x
    cases rs with
    | cons rx rn =>
    cases rn
    split at p
    · rename_i bs hb
      split at p
      · rename_i hl
        cases hx : itsD x c with
        | none => rw [hx] at hb; cases hb
        | some ys =>
          rw [hx] at hb
          obtain ⟨a, vs, rfl, r2, h⟩ := its_of rel rx hx
          rw [bls_of r2 hb] at h
          rcases h with ⟨_, h⟩ | ⟨z, _, _⟩
          · exact cr_any hc pins s σ H _ us Q I rv ⟨a, bs, rfl, h, p.ok_of rel (.bl _)⟩
          · rw [hl] at z; cases z
      · exact p.elim
    · exact p.elim
  · rename_i x
    cases rs with
    | cons rx rn =>
    cases rn
    split at p
    · rename_i bs hb
      split at p
      · rename_i hl
        cases hx : itsD x c with
        | none => rw [hx] at hb; cases hb
        | some ys =>
          rw [hx] at hb
          obtain ⟨a, vs, rfl, r2, h⟩ := its_of rel rx hx
          rw [ints_of r2 hb] at h
          rcases h with ⟨_, h⟩ | ⟨z, _, _⟩
          · exact cr_sum hc pins s σ H _ us Q I rv ⟨a, bs, rfl, h, p.ok_of rel (.int _)⟩
          · rw [hl] at z; cases z
      · exact p.elim
    · exact p.elim
  · rename_i x k
    cases rs with
    | cons rx rn =>
    cases rn with
    | cons rk rn =>
    cases rn
    unfold isiD at p
    split at p
    · rename_i t n ht
      cases rk
      split at p
      · rename_i b hb
        exact call_isi pins s σ H _ us Q I rv ⟨_, _, _, _, b, rfl, .ty n, ty_of rel rx ht, kit_ty hb, p.ok_of rel (.bl _)⟩
      · exact p.elim
    · rename_i t ks ht
      split at p
      · rename_i b hb
        cases rk with
        | tup h r =>
        obtain ⟨us', p1, p2⟩ := any_of r hb
        rcases h with h | ⟨o, its, n, e1, e2, e3, e4, e5⟩
        · exact call_isiT pins s σ H _ us Q I rv ⟨_, _, _, _, us', b, rfl, rel.ext _ _ h, p1, ty_of rel rx ht, p2, p.ok_of rel (.bl _)⟩
        · have e6 := ClsV.all p1 e5
          obtain ⟨oc, od, dt, sl⟩ := o
          simp only at e2 e3
          subst e2 e3 e6
          exact call_isiK pins s σ H _ us Q I rv ⟨_, _, od, its.toList, n, sl, _, b, rfl, by simpa using e1, ty_of rel rx ht, p2, p.ok_of rel (.bl _)⟩
      · exact p.elim
    · exact p.elim
  · exact p.elim
end
end Hv

set_option Elab.async false
set_option linter.all false
set_option maxRecDepth 100000
set_option maxHeartbeats 2000000
/-! HvD: the text is the inner form (chk..), and the inner form is what the machine does: expressions. -/
namespace Hv
open PySem PySem.Spec PyProof.Rows L2

structure SE where
  N : List Str
  sc : Scope
  fn : Str → Bool
structure GE where
  names : List Str
  shapes : List (Nat × Nat × List Str × List Src)
  excs : List (Str × Nat × List (Str × Src) × List (Str × Bool))
  cls : List Str
def kindB (sc : Scope) (x : Str) (k : NameKind) : Bool := decide (sc.names.lookup x = some k)
def visB (sc : Scope) (x : Str) : Bool := kindB sc x .local || kindB sc x .cell || kindB sc x .free
def okName (x : Str) : Bool := !(x == ("__debug__" : Str)) && !(x == ("__classdict__" : Str)) && !decide (x = ("__name__" : Str))
def notStarB : Expr → Bool
  | .Starred _ _ => false
  | _ => true
def isSliceB : Expr → Bool
  | .Slice _ _ _ _ => true
  | _ => false
def isSetB : Expr → Bool
  | .Set _ _ _ => true
  | _ => false
def cstB : Cst → Const → Bool
  | .non, .none => true
  | .bl b, .bool k => b == k
  | .int i, .int j => decide (i = j)
  | .str s, .str t => decide (s = t)
  | _, _ => false
def tyNames : List String := ["int", "bool", "str", "list", "tuple", "dict"]
/-- the same test whatever the 'whole' is -/
def plainT : Expr → Bool
  | .UnaryOp .Not _ _ => false
  | .BoolOp _ _ _ => false
  | .IfExp _ _ _ _ => false
  | .Compare _ _ _ _ => false
  | _ => true
def SE.blk (Γ : SE) (scope : Scope) : SE := ⟨Γ.N, relS scope Γ.sc, fun x => scope.names.lookup x == some .cell⟩
mutual
def slotsT : IT → List Nat
  | .nm i => [i]
  | .tp ts => slotsTs ts
def slotsTs : List IT → List Nat
  | [] => []
  | t :: ts => slotsT t ++ slotsTs ts
end
def chkT' (Γ : SE) : IT → Expr → Bool := fun t e => go t e
where
  go : IT → Expr → Bool
    | .nm i, .Name x _ => decide (Γ.N[i]? = some x) && (kindB Γ.sc x .local || (kindB Γ.sc x .cell && Γ.fn x))
    | .tp ts, .Tuple es _ _ => gos ts es
    | _, _ => false
  gos : List IT → List Expr → Bool
    | [], [] => true
    | t :: ts, e :: es => notStarB e && go t e && gos ts es
    | _, _ => false
def dTrue : Expr := .Constant (.bool true) 0 ⟨0, 0, 0, 0⟩
def dG : Comprehension := ⟨dTrue, dTrue, [], 0⟩
def oneG (gs : List Comprehension) : Bool := decide (gs.length = 1) && decide ((gs.headD dG).is_async = 0) && decide ((gs.headD dG).ifs.length ≤ 1) && !isSetB (gs.headD dG).iter
def negB : Cst → Int → Bool
  | .int n, m => decide (n = -m)
  | _, _ => false
def restB (o : BoolOp) (y : Expr) (r : List Expr) (p : Pos) : Expr := match r with
  | [] => y
  | z :: r => .BoolOp o (y :: z :: r) p
def isTrueB : IE → Bool
  | .cst (.bl true) => true
  | _ => false
theorem isTrueB_eq {q : IE} (h : isTrueB q = true) : q = .cst (.bl true) := by
  unfold isTrueB at h
  split at h
  · rfl
  · cases h
mutual
def chkM (G : GE) : Bool → SE → IE → Expr → Bool
  | tm, Γ, .var i, e => match e with
    | .Name x _ => decide (Γ.N[i]? = some x) && visB Γ.sc x && okName x
    | _ => false
  | tm, _, .cst k, e => match e with
    | .Constant v _ _ => cstB k v
    | .UnaryOp .USub (.Constant (.int m) _ _) _ => negB k m
    | _ => false
  | tm, Γ, .typ n, e => match e with
    | .Name x _ => decide (x = Str.ofString n) && tyNames.contains n && kindB Γ.sc x .globalImplicit && okName x
    | _ => false
  | tm, Γ, .bin o a b, e => match e with
    | .BinOp ea op eb _ => decide (op = opOf o) && chkM G false Γ a ea && chkM G false Γ b eb
    | _ => false
  | tm, Γ, .cmp o a b, e => match e with
    | .Compare ea [op] [eb] _ => decide (op = copOf o) && !isSetB eb && chkM G false Γ a ea && chkM G false Γ b eb
    | _ => false
  | tm, Γ, .chn o o' a b q, e => match e with
    | .Compare ea [op, op'] [eb, ee] _ => decide (op = copOf o) && decide (op' = copOf o') && !isSetB eb && !isSetB ee && chkM G false Γ a ea && chkM G false Γ b eb && chkM G false Γ q ee
    | _ => false
  | tm, Γ, .and a b, e => match e with
    | .BoolOp .And (x :: y :: r) p => chkM G tm Γ a x && chkM G tm Γ b (restB .And y r p)
    | _ => false
  | tm, Γ, .or a b, e => match e with
    | .BoolOp .Or (x :: y :: r) p => chkM G tm Γ a x && chkM G tm Γ b (restB .Or y r p)
    | _ => false
  | tm, Γ, .not a, e => match e with
    | .UnaryOp .Not x _ => chkM G tm Γ a x
    | _ => false
  | tm, Γ, .ifx q a b, e => match e with
    | .IfExp eq ea eb _ => !tm && chkM G true Γ q eq && chkM G false Γ a ea && chkM G false Γ b eb
    | _ => false
  | tm, Γ, .tup es, e => match e with
    | .Tuple xs _ _ => chkA G Γ es xs
    | _ => false
  | tm, Γ, .lst _ es, e => match e with
    | .List xs _ => chkA G Γ es xs
    | _ => false
  | tm, Γ, .idx a b, e => match e with
    | .Subscript x y _ => !isSliceB y && chkM G false Γ a x && chkM G false Γ b y
    | _ => false
  | tm, Γ, .slc a lo hi, e => match e with
    | .Subscript x (.Slice l h none _) _ => chkM G false Γ a x && chkO G Γ lo l && chkO G Γ hi h
    | _ => false
  | tm, Γ, .call f ks src es kes, e => match e with
    | .Call (.Name x _) xs kws _ => decide (G.names[f]? = some x) && kindB Γ.sc x .globalImplicit && okName x && decide ((f, xs.length, ks, src) ∈ G.shapes) && chkA G Γ es xs && chkK G Γ kes ks kws
    | _ => false
  | tm, Γ, .blt f es, e => match e with
    | .Call (.Name x _) xs [] _ => decide (x = bltName f) && kindB Γ.sc x .globalImplicit && !xs.isEmpty && chkA G Γ es xs
    | _ => false
  | tm, Γ, .comp _ own t s q el, e => match e with
    | .ListComp elt gs scope _ => oneG gs && blkC Γ.N Γ.sc scope own && (slotsT t).all (fun i => (own.map (·.2)).contains i) && chkI G Γ s (gs.headD dG).iter && chkT' (Γ.blk scope) t (gs.headD dG).target && (!(gs.headD dG).ifs.isEmpty || isTrueB q) && chkM G true (Γ.blk scope) q ((gs.headD dG).ifs.headD dTrue) && chkM G false (Γ.blk scope) el elt
    | _ => false
  | tm, Γ, .frz _ q, e => (!tm || plainT e) && chkM G false Γ q e
def chkO (G : GE) : SE → IO → Option Expr → Bool
  | _, .no, e => e.isNone
  | Γ, .so q, e => match e with
    | some x => chkM G false Γ q x
    | none => false
def chkA (G : GE) : SE → IEs → List Expr → Bool
  | _, .nil, l => l.isEmpty
  | Γ, .cons e es, l => match l with
    | x :: xs => notStarB x && chkM G false Γ e x && chkA G Γ es xs
    | [] => false
def chkK (G : GE) : SE → IEs → List Str → List Keyword → Bool
  | _, .nil, ks, l => ks.isEmpty && l.isEmpty
  | Γ, .cons e es, ks, l => match ks, l with
    | k :: ks, ⟨nm, x, _⟩ :: xs => decide (nm = some k) && chkM G false Γ e x && chkK G Γ es ks xs
    | _, _ => false
def chkI (G : GE) : SE → II → Expr → Bool
  | Γ, .seq q, e => chkM G false Γ q e && !isSetB e
  | Γ, .rng1 a, e => match e with
    | .Call (.Name x _) [y] [] _ => decide (x = "range") && kindB Γ.sc x .globalImplicit && notStarB y && chkM G false Γ a y
    | _ => false
  | Γ, .rng2 a b, e => match e with
    | .Call (.Name x _) [y, z] [] _ => decide (x = "range") && kindB Γ.sc x .globalImplicit && notStarB y && notStarB z && chkM G false Γ a y && chkM G false Γ b z
    | _ => false
end
abbrev chkE (G : GE) : SE → IE → Expr → Bool := chkM G false
end Hv

set_option Elab.async false
set_option linter.all false
set_option maxRecDepth 100000
set_option maxHeartbeats 4000000
/-! HvK: exceptions of own classes: their making, the clause that catches them. -/
namespace Hv
open PySem PySem.Spec PyProof.Rows L2

theorem upd_self {H : Hp} {a : Addr} {o : HO} (h : H a = some o) : upd H a o = H := by
  funext b
  by_cases e : b = a
  · rw [e, upd_same, h]
  · rw [upd_ne e]
theorem upd_upd {H : Hp} {a : Addr} {o u : HO} : upd (upd H a o) a u = upd H a u := by
  funext b
  by_cases e : b = a
  · rw [e, upd_same, upd_same]
  · rw [upd_ne e, upd_ne e, upd_ne e]
theorem upd_swap {H : Hp} {a b : Addr} {o u : HO} (h : a ≠ b) : upd (upd H a o) b u = upd (upd H b u) a o := by
  funext c
  by_cases e : c = a
  · rw [e, upd_same, upd_ne h, upd_same]
  · by_cases e2 : c = b
    · rw [e2, upd_same, upd_ne (Ne.symm h), upd_same]
    · rw [upd_ne e, upd_ne e2, upd_ne e2, upd_ne e]
/-! ### __init__ -/
/-- the places of __init__'s names: self 0, the others behind it -/
def srcT : Src → TE
  | .arg i => tVar (i + 1)
  | .dfl c => tC c.v
def tIs (K : PySem.W.Frag) : List (Str × Src) → TS
  | [] => fun D σ H => D.nx σ H
  | (f, s) :: r => fun D σ H => tOst K f (tVar 0) (srcT s) { D with nx := tIs K r D } σ H
def cstN : Cst → Const → Bool
  | .non, .none => true
  | .bl b, .bool k => b == k
  | .int i, .int j => decide (i = j)
  | .str s, .str t => decide (s = t)
  | _, _ => false
def locB (N : List Str) (sc : Scope) (i : Nat) (x : Str) : Bool := decide (N[i]? = some x) && decide (sc.names.lookup x = some .local) && !(x == ("__debug__" : Str)) && !(x == ("__classdict__" : Str))
def srcB (N : List Str) (sc : Scope) : Src → Expr → Bool
  | .arg i, .Name y _ => locB N sc (i + 1) y
  | .dfl c, .Constant v _ _ => cstN c v
  | _, _ => false
def chkInit (N : List Str) (sc : Scope) : List (Str × Src) → List Stmt → Bool
  | [], l => l.isEmpty
  | (f, s) :: r, l => match l with
    | .Assign [.Attribute (.Name x _) g _] e _ :: t => decide (g = f) && locB N sc 0 x && srcB N sc s e && chkInit N sc r t
    | _ => false
section
variable {X : Cx} {N : List Str}
theorem pe_loc {i : Nat} {x : Str} {pos : Pos} (hN : X.N = N) (h : locB N X.env.scope i x = true) : PE X (.Name x pos) (tVar i) := by
  unfold locB at h
  simp only [Bool.and_eq_true, decide_eq_true_eq, Bool.not_eq_true'] at h
  exact pe_var (by rw [hN]; exact h.1.1.1) (.inl h.1.1.2) h.1.2 h.2
theorem pe_cstN {c : Cst} {v : Const} {j : Nat} {pos : Pos} (h : cstN c v = true) : PE X (.Constant v j pos) (tC c.v) := by
  unfold cstN at h
  split at h
  · exact pe_non
  · rename_i b k
    obtain rfl : b = k := by simpa using h
    exact pe_bl
  · rename_i b k
    obtain rfl := of_decide_eq_true h
    exact pe_int
  · rename_i b k
    obtain rfl := of_decide_eq_true h
    exact pe_str
  · cases h
theorem pe_srcT {s : Src} {e : Expr} (hN : X.N = N) (h : srcB N X.env.scope s e = true) : PE X e (srcT s) ∧ ∀ t l, swapsWith e t l X.env = pure false := by
  cases s with
  | arg i =>
    cases e <;> first | (cases h; done) | skip
    exact ⟨pe_loc hN h, fun _ _ => rfl⟩
  | dfl c =>
    cases e <;> first | (cases h; done) | skip
    rename_i v j pos
    exact ⟨pe_cstN h, fun _ _ => rfl⟩
theorem pss_init (hN : X.N = N) : ∀ (fl : List (Str × Src)) (body : List Stmt), chkInit N X.env.scope fl body = true → PSs X body (tIs X.K fl)
  | [], body, h => by
    cases body with
    | nil => exact pss_nil
    | cons _ _ => cases h
  | (f, s) :: r, body, h => by
    cases body with
    | nil => cases h
    | cons st t =>
      cases st <;> first | (cases h; done) | skip
      rename_i tgs e pos
      rcases tgs with _ | ⟨tg, _ | ⟨_, _⟩⟩ <;> first | (cases h; done) | (simp [chkInit] at h; done) | skip
      cases tg <;> first | (cases h; done) | skip
      rename_i o g p
      cases o <;> first | (cases h; done) | skip
      simp only [chkInit, Bool.and_eq_true, decide_eq_true_eq] at h
      obtain ⟨⟨⟨rfl, h1⟩, h2⟩, h3⟩ := h
      obtain ⟨a, b⟩ := pe_srcT hN h2
      exact pss_cons (ps_ost (pe_loc hN h1) a (b _ _)) (pss_init hN r t h3)
end
/-- the values of the fields -/
def srcV (σ : L2.St) : Src → Option V
  | .arg i => (σ[i + 1]?).join
  | .dfl c => some c.v
def SrcIs {α : Type} (k : Cst → α) (ws : List α) (s : Src) (y : α) : Prop := match s with
  | .arg i => ws[i]? = some y
  | .dfl c => y = k c
theorem flV_cons {α : Type} {k : Cst → α} {ws : List α} {f : Str} {s : Src} {r : List (Str × Src)} {gs : List (Str × α)} (h : flV k ws ((f, s) :: r) = some gs) : ∃ y hs, gs = (f, y) :: hs ∧ flV k ws r = some hs ∧ SrcIs k ws s y := by
  cases s with
  | arg i =>
    unfold flV at h
    cases e : ws[i]? with
    | none => rw [e] at h; cases h
    | some x =>
      rw [e] at h
      cases e2 : flV k ws r with
      | none => rw [e2] at h; cases h
      | some hs =>
        rw [e2] at h
        cases h
        exact ⟨x, hs, rfl, rfl, e⟩
  | dfl c =>
    unfold flV at h
    cases e2 : flV k ws r with
    | none => rw [e2] at h; cases h
    | some hs =>
      rw [e2] at h
      cases h
      exact ⟨k c, hs, rfl, rfl, rfl⟩
theorem src_run {N : List Str} {a : Addr} {ws : List V} {s : Src} {y : V} {H : Hp} {Q : VK} (h : SrcIs Cst.v ws s y) (q : Q y H) : srcT s (L2.start N (.ref a :: ws)) H Q := by
  cases s with
  | arg i =>
    refine ⟨y, ?_, q⟩
    have h : ws[i]? = some y := h
    have hl := (List.getElem?_eq_some_iff.mp h).1
    unfold L2.start
    rw [List.getElem?_append_left (by simp; omega), List.getElem?_map, List.getElem?_cons_succ, h]
    rfl
  | dfl c =>
    have h : y = c.v := h
    subst h
    exact q
theorem tIs_old {K : PySem.W.Frag} {N : List Str} {a C dx : Addr} {ws : List V} {D : Ends} (T : OexC K C) (hne : dx ≠ a) : ∀ (fl : List (Str × Src)) (hs : List (Str × V)) (gs : List (Str × V)) (H : Hp), (∀ f, f ∈ fl.map (·.1) → PySem.W.findIn K (.ref C) f = some none) → flV Cst.v ws fl = some hs → gs.length + fl.length ≤ 900 →
    H a = some (exo a C (some dx)) → H dx = some (exd dx gs) → D.nx (L2.start N (.ref a :: ws)) (upd H dx (exd dx (hs.reverse ++ gs))) → tIs K fl D (L2.start N (.ref a :: ws)) H
  | [], hs, gs, H, _, h, _, ea, ed, q => by
    cases h
    rw [List.reverse_nil, List.nil_append, upd_self ed] at q
    exact q
  | (f, s) :: r, hs, gs, H, hno, h, hl, ea, ed, q => by
    obtain ⟨y, hs', rfl, h2, h3⟩ := flV_cons h
    rw [List.length_cons] at hl
    refine src_run h3 ⟨.ref a, by unfold L2.start; rfl, a, C, rfl, T, hno f (by simp), .inr ⟨dx, gs, ea, ed, by omega, ?_⟩⟩
    refine tIs_old T hne r hs' ((f, y) :: gs) _ (fun g hg => hno g (by simp only [List.map_cons, List.mem_cons]; exact .inr hg)) h2 (by rw [List.length_cons]; omega) ?_ upd_same ?_
    · rw [upd_ne (Ne.symm hne)]
      exact ea
    · rw [upd_upd]
      rw [List.reverse_cons, List.append_assoc] at q
      exact q
/-- what __init__ promises: self gets its dict, with the fields -/
def spI (K : PySem.W.Frag) (n : Nat) (fl : List (Str × Src)) : Sp := fun vs H Q _ => vs.length = n + 1 ∧ ∃ (a C : Addr) (ws : List V) (hs : List (Str × V)), vs = .ref a :: ws ∧ OexC K C ∧ (∀ f, f ∈ fl.map (·.1) → PySem.W.findIn K (.ref C) f = some none) ∧ H a = some (exo a C none) ∧ flV Cst.v ws fl = some hs ∧
  ∀ dx, H dx = none → dx ≠ a → Q .non (upd (upd H dx (exd dx hs.reverse)) a (exo a C (some dx)))
/-- a def __init__ of such a class -/
def InitA (K : PySem.W.Frag) (n : Nat) (fl : List (Str × Src)) (a : Addr) (fd : FuncData) (ps : List Str) : Prop := ∃ (name qual : Str) (params : Arguments) (body : List Stmt) (scope : Scope) (dV kV doc pm cdv ct oc : Value) (an od : Option Addr) (osl : Array (Option Value)) (N : List Str),
    fd = PySem.W.fnOf name qual params body scope dV kV doc pm an cdv ct ∧ K.lookup a = some ⟨oc, od, .func fd, osl⟩ ∧ PySem.W.codeIn K cdv qual = true ∧ FnScope N ps scope ∧ ps.length = n + 1 ∧ chkInit N scope fl body = true
theorem init_ok {P : Program} {w : World} {K : PySem.W.Frag} {mg : Str → Option Value} {base : Heap} {n : Nat} {fl : List (Str × Src)} {a : Addr} {fd : FuncData} {ps : List Str} (hfl : fl ≠ []) (hl : fl.length ≤ 800) (h : InitA K n fl a fd ps) : FnOk P w K mg base (L2.CX P w) 1 a fd ps (spI K n fl) := by
  obtain ⟨name, qual, params, body, scope, dV, kV, doc, pm, cdv, ct, oc, an, od, osl, N, rfl, lk, hcd, S, e1, hchk⟩ := h
  refine fn_of lk hcd S (fun vs H Q E h => h.1.trans e1.symm) fun A' outer s H vs Q E hr hsp => ?_
  refine ⟨_, pss_init (N := N) rfl fl body hchk, ?_⟩
  obtain ⟨_, b, C, ws, hs, rfl, T, hno, eb, hv, q⟩ := hsp
  cases fl with
  | nil => exact absurd rfl hfl
  | cons p r =>
    obtain ⟨f, s⟩ := p
    obtain ⟨y, hs', rfl, h2, h3⟩ := flV_cons hv
    rw [List.length_cons] at hl
    refine src_run h3 ⟨.ref b, by unfold L2.start; rfl, b, C, rfl, T, hno f (by simp), .inl ⟨eb, fun dx n1 n2 => ?_⟩⟩
    refine tIs_old T n2 r hs' [(f, y)] _ (fun g hg => hno g (by simp only [List.map_cons, List.mem_cons]; exact .inr hg)) h2 (by simp; omega) upd_same (by rw [upd_ne n2, upd_same]) ?_
    rw [upd_swap (Ne.symm n2), upd_upd]
    have := q dx n1 n2
    rw [List.reverse_cons] at this
    exact this
/-- a class's defs -/
def clsBody (s : Stmt) : List Stmt := match s with
  | .ClassDef _ _ _ b _ _ _ _ _ _ _ => b
  | _ => []
/-- what is known of a class and its __init__ -/
structure ExcK (P : Program) (w : World) (K : PySem.W.Frag) (mg : Str → Option Value) (base : Heap) (n : Nat) (fl : List (Str × Src)) (C fI : Addr) (fd : FuncData) (ps : List Str) : Prop where
  oex : OexC K C
  nof : ∀ f, f ∈ fl.map (·.1) → PySem.W.findIn K (.ref C) f = some none
  ini : PySem.W.findIn K (.ref C) "__init__" = some (some (.ref fI))
  fty : PySem.W.typeIn K (.ref fI) = some (.type "function")
  fok : FnOk P w K mg base (L2.CX P w) 1 fI fd ps (spI K n fl)
  bnd : ∀ (s : Shared) (us : List Value), us.length = n + 1 → BindsTo s fd ⟨us, []⟩ (ps.zip us)
end Hv

set_option Elab.async false
set_option linter.all false
set_option maxRecDepth 100000
set_option maxHeartbeats 4000000
/-! HvE: soundness of expressions. -/
namespace Hv
open PySem PySem.Spec PyProof.Rows L2

/-! ### calls -/
def SrcR (us : List Value) : List Src → List Value → Prop
  | [], zs => zs = []
  | .arg i :: r, zs => ∃ z t, zs = z :: t ∧ us[i]? = some z ∧ SrcR us r t
  | .dfl c :: r, zs => ∃ z t, zs = z :: t ∧ RelV c.v z ∧ SrcR us r t
/-- how a def's parameters come of a call's values: n of them by place, the others by the names ks -/
structure ShapeOk (K : PySem.W.Frag) (fd : FuncData) (ps : List Str) (n : Nat) (ks : List Str) (src : List Src) : Prop where
  len : src.length = ps.length
  run : ∀ (s : Shared) (us ws : List Value), K.In s.heap → us.length = n → ws.length = ks.length → ∃ zs, BindsTo s fd ⟨us, ks.zip ws⟩ (ps.zip zs) ∧ SrcR (us ++ ws) src zs
theorem Cst.r {K : PySem.W.Frag} {mg : Str → Option Value} {ω : Wd} (k : Cst) : R K mg ω k.d k.v := by
  cases k
  · exact .non
  · exact .bl _
  · exact .int _
  · exact .str _
theorem arr_rs {K : PySem.W.Frag} {mg : Str → Option Value} {ω : Wd} {ds : List D} {vs : List V} (r : Rs K mg ω ds vs) : ∀ {src : List Src} {es : List D}, arrD Cst.d ds src = some es → ∃ us, arrD Cst.v vs src = some us ∧ Rs K mg ω es us
  | [], es, e => by cases e; exact ⟨[], rfl, .nil⟩
  | .arg i :: src, es, e => by
    unfold arrD at e
    cases h : ds[i]? with
    | none => rw [h] at e; cases e
    | some d =>
      rw [h] at e
      cases h2 : arrD Cst.d ds src with
      | none => rw [h2] at e; cases e
      | some es' =>
        rw [h2] at e
        cases e
        obtain ⟨v, e1, r1⟩ := r.get h
        obtain ⟨us, e2, r2⟩ := arr_rs r h2
        refine ⟨v :: us, ?_, .cons r1 r2⟩
        unfold arrD
        rw [e1, e2]
        rfl
  | .dfl c :: src, es, e => by
    unfold arrD at e
    cases h2 : arrD Cst.d ds src with
    | none => rw [h2] at e; cases e
    | some es' =>
      rw [h2] at e
      cases e
      obtain ⟨us, e2, r2⟩ := arr_rs r h2
      refine ⟨c.v :: us, ?_, .cons c.r r2⟩
      unfold arrD
      rw [e2]
      rfl
theorem arr_vals {vs : List V} {us : List Value} (r : Vals vs us) : ∀ {src : List Src} {xs : List V} {zs : List Value}, arrD Cst.v vs src = some xs → SrcR us src zs → Vals xs zs
  | [], xs, zs, e, h => by cases e; cases h; exact .nil
  | .arg i :: src, xs, zs, e, h => by
    obtain ⟨z, t, rfl, h1, h2⟩ := h
    unfold arrD at e
    cases q : vs[i]? with
    | none => rw [q] at e; cases e
    | some v =>
      rw [q] at e
      cases q2 : arrD Cst.v vs src with
      | none => rw [q2] at e; cases e
      | some es' =>
        rw [q2] at e
        cases e
        obtain ⟨u, e1, r1⟩ := r.get q
        rw [h1] at e1
        cases e1
        exact .cons r1 (arr_vals r q2 h2)
  | .dfl c :: src, xs, zs, e, h => by
    obtain ⟨z, t, rfl, h1, h2⟩ := h
    unfold arrD at e
    cases q2 : arrD Cst.v vs src with
    | none => rw [q2] at e; cases e
    | some es' =>
      rw [q2] at e
      cases e
      exact .cons h1 (arr_vals r q2 h2)
theorem arr_len {α : Type} {k : Cst → α} {vs : List α} : ∀ {src : List Src} {xs : List α}, arrD k vs src = some xs → xs.length = src.length
  | [], xs, e => by cases e; rfl
  | .arg i :: src, xs, e => by
    unfold arrD at e
    cases q : vs[i]? with
    | none => rw [q] at e; cases e
    | some v =>
      rw [q] at e
      cases q2 : arrD k vs src with
      | none => rw [q2] at e; cases e
      | some es' =>
        rw [q2] at e
        cases e
        show es'.length + 1 = src.length + 1
        rw [arr_len q2]
  | .dfl c :: src, xs, e => by
    unfold arrD at e
    cases q2 : arrD k vs src with
    | none => rw [q2] at e; cases e
    | some es' =>
      rw [q2] at e
      cases e
      show es'.length + 1 = src.length + 1
      rw [arr_len q2]
def spC (K : PySem.W.Frag) (mg : Str → Option Value) (call : CallF) (f : Nat) (n : Nat) : Sp := fun vs H Q E =>
  vs.length = n ∧ ∃ ω c ds, Rel K mg ω c H ∧ Rs K mg ω ds vs ∧ Post K mg (R K mg) ω (fun cls dd _ H => E cls dd H) [] (call f ds c) Q
structure GOk (G : GE) (call : CallF) (k : Nat) (P : Program) (w : World) (K : PySem.W.Frag) (mg : Str → Option Value) (base : Heap) : Prop where
  blt : ∀ f : Blt, mg (bltName f) = none
  rng : mg "range" = none
  ty : ∀ n, n ∈ tyNames → mg (Str.ofString n) = none
  fn : ∀ f n ks src, (f, n, ks, src) ∈ G.shapes → ∃ x a fd ps, G.names[f]? = some x ∧ mg x = some (.ref a) ∧ PySem.W.keepIn K (.ref a) = true ∧ FnOk P w K mg base (L2.CX P w) k a fd ps (spC K mg call f ps.length) ∧ ShapeOk K fd ps n ks src
  exc : ∀ C n fl sup, (C, n, fl, sup) ∈ G.excs → n ≤ 1000 ∧ ∃ a fI fd ps, XInfo K mg C a sup (fl.map (·.1)) ∧ ExcK P w K mg base n fl a fI fd ps
  cls : ∀ n, n ∈ G.cls → ∃ v u, ClsN mg n v u
structure EOk (G : GE) (call : CallF) (k : Nat) (X : Cx) (Γ : SE) (W : WX) : Prop where
  g : GOk G call k X.prog X.w X.K X.mg X.base
  N : X.N = Γ.N
  nd : X.N.Nodup
  sc : X.env.scope = Γ.sc
  calm : X.calm = true
  kind : X.env.scope.kind = .function
  fn : ∀ x, Γ.fn x = true → X.fn x = true
  room : Room k X.A
  two : 2 ≤ k
  takes : Takes X W
  own : PassesOwn (model X.prog X.w) X.A X.env X.xe
section
variable {G : GE} {call : CallF} {k : Nat} {X : Cx} {Γ : SE} {W : WX} {pins : List (Addr × Obj)} {σ : L2.St} {H : Hp} {s : Shared}
/-- the callee runs -/
theorem run_callG {K : PySem.W.Frag} {fd : FuncData} {ps ks : List Str} {n : Nat} {src : List Src} {sp : Sp} {f : Addr} {us ws : List Value} {vs zs xs : List V} {Q : VK} (F : FnOk X.prog X.w X.K X.mg X.base (L2.CX X.prog X.w) k f fd ps sp) (hr : Room k X.A) (sh : ShapeOk X.K fd ps n ks src) (tk : Takes X W)
    (I : Inv X pins σ H s) (r : Vals vs us) (rz : Vals zs ws) (l1 : us.length = n) (l2 : ws.length = ks.length) (e : arrD Cst.v (vs ++ zs) src = some xs) (h : sp xs H Q (fun cls d H' => W cls d σ H')) :
    wpAny (model X.prog X.w) X.A (PySem.call (.ref f) us (ks.zip ws)) (EP X pins σ Q) X.xe s := by
  obtain ⟨ys, hb, hs⟩ := sh.run s us ws I.kIn l1 l2
  refine wpAny_call (codeAny_mono (F.run X.A X.stack s H ⟨us, ks.zip ws⟩ ys xs Q _ hr I.env0 hb (arr_vals (r.append rz) e hs) h) fun r s' hq => ?_)
  cases r with
  | error e => exact tk e s' (XE.of_call I (fun _ _ _ h => h) hq)
  | ok fl =>
    cases fl with
    | ret u => exact I.after hq
    | next => exact False.elim hq
    | brk => exact False.elim hq
    | cont => exact False.elim hq
theorem star_ns {x : Expr} (h : notStarB x = true) (xs : List Expr) (env : Env) : starEach (x :: xs) env = (false, eval x env) :: starEach xs env := by
  cases x <;> first | rfl | cases h
theorem back_ns {env : Env} {pos : Pos} : ∀ {xs : List Expr}, (xs.all notStarB) = true → (backTo pos (starEach xs env)).any (·.1) = false
  | [], _ => rfl
  | x :: xs, h => by
    rw [List.all_cons, Bool.and_eq_true] at h
    rw [star_ns h.1]
    show (false || (backTo pos (starEach xs env)).any (·.1)) = false
    rw [back_ns h.2]
    rfl
theorem kw_all {env : Env} {pos : Pos} : ∀ {es : IEs} {ks : List Str} {kws : List Keyword}, chkK G Γ es ks kws = true → (backToKw pos (keywordEach kws env)).all (·.1.isSome) = true ∧ (backToKw pos (keywordEach kws env)).filterMap (·.1) = ks ∧ (backToKw pos (keywordEach kws env)).any (·.1.isNone) = false
  | .nil, ks, kws, h => by
    cases ks <;> cases kws <;> first | (cases h; done) | exact ⟨rfl, rfl, rfl⟩
  | .cons e es, [], _, h => by cases h
  | .cons e es, _ :: _, [], h => by cases h
  | .cons e es, k :: ks, ⟨nm, x, p⟩ :: kws, h => by
    rw [chkK] at h
    simp only [Bool.and_eq_true, decide_eq_true_eq] at h
    obtain ⟨⟨h1, h2⟩, h3⟩ := h
    subst h1
    obtain ⟨a, b, c⟩ := kw_all (env := env) (pos := pos) h3
    refine ⟨?_, ?_, ?_⟩
    · show (true && (backToKw pos (keywordEach kws env)).all (·.1.isSome)) = true
      rw [a]; rfl
    · show k :: (backToKw pos (keywordEach kws env)).filterMap (·.1) = k :: ks
      rw [b]
    · show (false || (backToKw pos (keywordEach kws env)).any (·.1.isNone)) = false
      rw [c]; rfl
def tCallG (sp : Sp) (n m : Nat) (src : List Src) (W : WX) (t tk : TA) : TE := fun σ H Q => t σ H fun vs H1 => tk σ H1 fun zs H2 => ∃ xs, vs.length = n ∧ zs.length = m ∧ arrD Cst.v (vs ++ zs) src = some xs ∧ sp xs H2 Q (fun cls d H' => W cls d σ H')
theorem pe_callG {x : Str} {p pos : Pos} {e : Expr} {es : List Expr} {kws : List Keyword} {t tk : TA} {fd : FuncData} {ps ks : List Str} {n : Nat} {src : List Src} {sp : Sp} {f : Addr} (F : FnOk X.prog X.w X.K X.mg X.base (L2.CX X.prog X.w) k f fd ps sp) (hr : Room k X.A) (hg : Gl X x) (hm : X.mg x = some (.ref f)) (hk : PySem.W.keepIn X.K (.ref f) = true)
    (sh : ShapeOk X.K fd ps n ks src) (tkW : Takes X W) (ha : PA X (e :: es) t) (hkw : PK X kws tk) (hns : (e :: es).all notStarB = true)
    (hkws : (backToKw pos (keywordEach kws X.env)).all (·.1.isSome) = true ∧ (backToKw pos (keywordEach kws X.env)).filterMap (·.1) = ks ∧ (backToKw pos (keywordEach kws X.env)).any (·.1.isNone) = false)
    (hdb : (x == ("__debug__" : Str)) = false) : PE X (.Call (.Name x p) (e :: es) kws pos) (tCallG sp n ks.length src W t tk) := by
  obtain ⟨hall, hks, hnn⟩ := hkws
  refine ⟨fun pins s σ H Q I h => ?_⟩
  refine wpAny_Call_Name_kw (ld_glob I hg hm ?_ hdb)
  have hns' := hns
  rw [List.all_cons, Bool.and_eq_true] at hns'
  refine PySem.W.callWith_KW (h₀ := X.base) I.ok.mod.kin hk hall (thn (ha.run pos pins s σ H _ I h) fun us s1 ⟨vs, H1, I1, r, q⟩ => ?_) (by rw [back_ns hns, hnn]; rfl) (star_ns hns'.1 _ _)
  refine thn (hkw.run pos pins s1 σ H1 _ I1 q) fun ws s2 ⟨zs, H2, I2, rz, xs, l1, l2, e, q2⟩ => ⟨I2.kIn, ?_⟩
  rw [hks]
  exact run_callG (K := X.K) F hr sh tkW I2 r rz (r.length.symm.trans l1) (rz.length.symm.trans l2) e q2
theorem pe_callG0 {x : Str} {p pos : Pos} {kws : List Keyword} {tk : TA} {fd : FuncData} {ps ks : List Str} {n : Nat} {src : List Src} {sp : Sp} {f : Addr} (F : FnOk X.prog X.w X.K X.mg X.base (L2.CX X.prog X.w) k f fd ps sp) (hr : Room k X.A) (hg : Gl X x) (hm : X.mg x = some (.ref f)) (hk : PySem.W.keepIn X.K (.ref f) = true)
    (sh : ShapeOk X.K fd ps n ks src) (tkW : Takes X W) (hkw : PK X kws tk)
    (hkws : (backToKw pos (keywordEach kws X.env)).all (·.1.isSome) = true ∧ (backToKw pos (keywordEach kws X.env)).filterMap (·.1) = ks ∧ (backToKw pos (keywordEach kws X.env)).any (·.1.isNone) = false)
    (hdb : (x == ("__debug__" : Str)) = false) : PE X (.Call (.Name x p) [] kws pos) (tCallG sp n ks.length src W tNil tk) := by
  obtain ⟨hall, hks, hnn⟩ := hkws
  refine ⟨fun pins s σ H Q I h => ?_⟩
  refine wpAny_Call_Name_kw (ld_glob I hg hm ?_ hdb)
  refine PySem.W.callWith_KW0 (h₀ := X.base) I.ok.mod.kin hk hall (thn (hkw.run pos pins s σ H _ I h) fun ws s2 ⟨zs, H2, I2, rz, xs, l1, l2, e, q2⟩ => ⟨I2.kIn, ?_⟩) (by rw [back_ns (xs := []) rfl, hnn]; rfl)
  rw [hks]
  exact run_callG (K := X.K) (us := []) (vs := []) F hr sh tkW I2 .nil rz (by exact l1) (rz.length.symm.trans l2) e q2
end
end Hv

set_option Elab.async false
set_option linter.all false
set_option maxRecDepth 100000
set_option maxHeartbeats 4000000
/-! HvM: raise. -/
namespace Hv
open PySem PySem.Spec PyProof.Rows L2

section
variable {X : Cx} {n : Nat} {fl : List (Str × Src)} {C fI : Addr} {fd : FuncData} {ps : List Str}
theorem mk_callX {pins : List (Addr × Obj)} {σ : L2.St} {H1 : Hp} {s1 : Shared} {Q : XK} {us : List Value} {vs : List V} {hs : List (Str × V)} (T : ExcK X.prog X.w X.K X.mg X.base n fl C fI fd ps) (hr : Room 2 X.A) (hx : Passes (L2.CX X.prog X.w) X (fun _ _ _ => False)) (I1 : Inv X pins σ H1 s1) (r1 : Vals vs us)
    (hn : vs.length = n) (hz : n ≤ 1000) (hv : flV Cst.v vs fl = some hs) (q : ∀ d, H1 d = none → Q (.ref C) (some d) (upd H1 d (.xd hs.reverse))) :
    wpAny (model X.prog X.w) X.A (PySem.call (.ref C) us) (MkP X pins σ Q) X.xe s1 := by
  obtain ⟨nm, qn, N, bs, bm, sn, sub, ab, col, dd, k0, k1, k2, k3, k5, hC, hbm⟩ := T.oex.cls
  obtain ⟨hp, g, dr, tk, os⟩ := s1
  have hlu : us.length = n := r1.length.symm.trans hn
  have hbig : hp.objs.size ≤ hp.objs.size + 1 := by omega
  have hnone : H1 (hp.objs.size + 1) = none := I1.hok.fresh hbig
  have kk : ∀ b o, hp.get? b = some o → ((hp.push (PySem.W.kdv_tup us)).push (PySem.HandSPX.excO C hp.objs.size)).get? b = some o := by
    intro b o e
    exact Heap.get?_push_of_some _ (Heap.get?_push_of_some _ e)
  have hat : ((hp.push (PySem.W.kdv_tup us)).push (PySem.HandSPX.excO C hp.objs.size)).get? (hp.objs.size + 1) = some (PySem.HandSPX.excO C hp.objs.size) := by
    heap_get
  have J := I1.laid (t' := tk) (a := hp.objs.size + 1) (o := exo (hp.objs.size + 1) C none) (h' := (hp.push (PySem.W.kdv_tup us)).push (PySem.HandSPX.excO C hp.objs.size)) kk hbig (exo_ok hat)
  have rr : Vals (V.ref (hp.objs.size + 1) :: vs) (Value.ref (hp.objs.size + 1) :: us) := .cons rfl r1
  have hsz : us.length ≤ sizeLine := by rw [hlu, sizeLine_eq]; omega
  refine wpAny_call (PySem.HandSPX.call_own F.excBase_ValueError (fun Y => PySem.HandSPX.refsVE_contains Y bm hbm) (I1.kIn _ _ hC) (PySem.W.looks_findIn I1.kIn T.ini) (fun self => PySem.W.bind_fn I1.kIn self T.fty) hsz ?_)
  refine codeAny_mono (T.fok.run _ X.stack _ (upd H1 (hp.objs.size + 1) (exo (hp.objs.size + 1) C none)) ⟨Value.ref (hp.objs.size + 1) :: us, []⟩ (Value.ref (hp.objs.size + 1) :: us) (V.ref (hp.objs.size + 1) :: vs)
    (fun v H2 => v = .non ∧ ∃ (d : Addr), H2 (hp.objs.size + 1) = some (exo (hp.objs.size + 1) C (some d)) ∧ H2 d = some (exd d hs.reverse) ∧ H1 d = none ∧ Q (.ref C) (some d) (upd (del H2 (hp.objs.size + 1)) d (.xd hs.reverse))) (fun _ _ _ => False) (hr.make C us []) (J.env0.make C us [])
    (T.bnd _ (Value.ref (hp.objs.size + 1) :: us) (by rw [List.length_cons, hlu])) rr ⟨by rw [List.length_cons, hn], hp.objs.size + 1, C, vs, hs, rfl, T.oex, T.nof, upd_same, hv, fun dx n1 n2 => ?_⟩) fun r s' hq' => ?_
  · have n3 : H1 dx = none := by rwa [upd_ne n2] at n1
    refine ⟨rfl, dx, upd_same, by rw [upd_ne n2, upd_same], n3, ?_⟩
    have e : upd (del (upd (upd (upd H1 (hp.objs.size + 1) (exo (hp.objs.size + 1) C none)) dx (exd dx hs.reverse)) (hp.objs.size + 1) (exo (hp.objs.size + 1) C (some dx))) (hp.objs.size + 1)) dx (.xd hs.reverse) = upd H1 dx (.xd hs.reverse) := by
      funext b
      by_cases h1 : b = dx
      · rw [h1, upd_same, upd_same]
      · rw [upd_ne h1, upd_ne h1]
        by_cases h2 : b = hp.objs.size + 1
        · rw [h2, del_same, hnone]
        · rw [del_ne h2, upd_ne h2, upd_ne h1, upd_ne h2]
    rw [e]
    exact q dx n3
  · cases r with
    | error er => exact hx pins σ _ _ er s' J hq'
    | ok fw =>
      cases fw with
      | ret u =>
        obtain ⟨v, H2, os2, bare2, un2, hok2, rv, ev, d, ea, ed, hd1, q2⟩ := hq'
        subst ev
        obtain ⟨h2, g2, d2, t2, os'⟩ := s'
        exact ⟨rv, mk_end (raises_own T.oex.exC T.oex.tyC) I1 hbig kk un2 hok2 os2 bare2 ea ed hd1 q2⟩
      | next => exact hq'.elim
      | brk => exact hq'.elim
      | cont => exact hq'.elim
/-- C(e, ..) that is raised -/
def tRse (n : Nat) (fl : List (Str × Src)) (C : Addr) (ta : TA) : L2.St → Hp → XK → Prop := fun σ H Q => ta σ H fun vs H1 => vs.length = n ∧ ∃ hs, flV Cst.v vs fl = some hs ∧ ∀ d, H1 d = none → Q (.ref C) (some d) (upd H1 d (.xd hs.reverse))
theorem pmk_x {x : Str} {p pos : Pos} {e : Expr} {es : List Expr} {ta : TA} (T : ExcK X.prog X.w X.K X.mg X.base n fl C fI fd ps) (hz : n ≤ 1000) (hr : Room 2 X.A) (hx : Passes (L2.CX X.prog X.w) X (fun _ _ _ => False)) (hg : Gl X x) (hm : X.mg x = some (.ref C)) (hdb : (x == ("__debug__" : Str)) = false) (ha : PA X (e :: es) ta) (hns : (e :: es).all notStarB = true) :
    PMk X (.Call (.Name x p) (e :: es) [] pos) (tRse n fl C ta) := by
  intro pins s σ H Q I h
  refine wpAny_Call_Name_kw (ld_glob I hg hm ?_ hdb)
  have hns' := hns
  rw [List.all_cons, Bool.and_eq_true] at hns'
  refine PySem.W.callWith_K (h₀ := X.base) I.ok.mod.kin T.oex.kC (thn (ha.run pos pins s σ H _ I h) fun us s1 ⟨vs, H1, I1, r1, hn, hs, hv, q⟩ => ⟨I1.kIn, ?_⟩) (star_ns hns'.1 _ _) (back_ns hns'.2)
  exact mk_callX T hr hx I1 r1 hn hz hv q
theorem pmk_x0 {x : Str} {p pos : Pos} (T : ExcK X.prog X.w X.K X.mg X.base n fl C fI fd ps) (hz : n ≤ 1000) (hr : Room 2 X.A) (hx : Passes (L2.CX X.prog X.w) X (fun _ _ _ => False)) (hg : Gl X x) (hm : X.mg x = some (.ref C)) (hdb : (x == ("__debug__" : Str)) = false) :
    PMk X (.Call (.Name x p) [] [] pos) (tRse n fl C tNil) := by
  intro pins s σ H Q I h
  refine wpAny_Call_Name_kw (ld_glob I hg hm ?_ hdb)
  refine PySem.W.callWith_KW0 (h₀ := X.base) I.ok.mod.kin T.oex.kC rfl (thn (pk_nil.run pos pins s σ H (fun vs H1 => vs = [] ∧ vs.length = n ∧ ∃ hs, flV Cst.v vs fl = some hs ∧ ∀ d, H1 d = none → Q (.ref C) (some d) (upd H1 d (.xd hs.reverse))) I ⟨rfl, h⟩) fun ws s2 ⟨zs, H2, I2, rz, hz0, hn, hs, hv, q⟩ => ⟨I2.kIn, ?_⟩) rfl
  subst hz0
  exact mk_callX T hr hx I2 .nil hn hz hv q
end
end Hv

set_option Elab.async false
set_option linter.all false
set_option maxRecDepth 100000
set_option maxHeartbeats 4000000
/-! HvN: the except suite. -/
namespace Hv
open PySem PySem.Spec PyProof.Rows L2

def rIsD (K : PySem.W.Frag) (D a dd : Addr) : List V → Hp → VK → Prop := fun xs H Q => ∃ (c : V) (cv : Value) (b : Bool) (fs : List (Str × V)), xs = [.ref a, c] ∧ (∀ u, RelV c u → u = cv) ∧ PySem.W.kitOne K (.ref D) cv = some b ∧ H dd = some (.xd fs) ∧ Q (.bl b) H
theorem call_isD {X : Cx} {a D dd : Addr} {oe : Obj} {pn : List (Addr × Obj)} (C : ExcC X.K D) (hz : Zc (.ref D) (some dd) oe) (hf : ∃ vs, oe.data = .fields vs) : CallR (X.suite a ((a, oe) :: pn)) (.builtin "isinstance") (rIsD X.K D a dd) := by
  intro pins s σ H xs us Q I r h
  obtain ⟨c, cv, b, fs, rfl, hcv, hk, hd, q⟩ := h
  match us, r with
  | [u1, u2], .cons r1 (.cons r2 .nil) =>
    obtain rfl : u1 = Value.ref a := r1
    obtain rfl := hcv _ r2
    have hpin := (I.pin (a, oe) (List.mem_append_left _ List.mem_cons_self)).1
    obtain ⟨vs, hv⟩ := hf
    have hx : ObjOk X.prog X.w H s.heap dd (.xd fs) := I.hok dd _ hd
    obtain ⟨mA, hns, _⟩ := hx
    obtain ⟨od, ho, _⟩ := lookIn_ns hns
    have J : PySem.W.InstAt s.heap a oe D (some od) := ⟨hpin, hz.1, by unfold PySem.W.notCls; rw [hv] <;> rfl, by rw [hz.2]; exact ho⟩
    obtain ⟨cd, hcd, _⟩ := PySem.W.any_some C.hd
    have Z := PySem.W.kitx_exc (x := a) (ox := oe) (od := some od) (show (PySem.W.clsIn X.K D).isSome = true by rw [hcd]; rfl) C.hg C.hk C.hs C.ha C.hn C.ht C.hm
    exact PySem.W.kia_one Z I.kIn J hk (fun z => nomatch z) fun tk => ⟨.bl b, H, I.kept (t' := tk) fun _ _ z => z, rfl, q⟩
/-- e.f, isinstance(e, n) where e stands for the caught exception at a -/
def tHx (K : PySem.W.Frag) (mg : Str → Option Value) (i : Nat) (a : Addr) (cls : Value) (d : Option Addr) : HX → TE
  | .fld f => fun σ H Q => σ[i]? = some (some (.ref a)) ∧ ∃ (C dd : Addr) (fs : List (Str × V)) (v : V), cls = .ref C ∧ XfC K C ∧ PySem.W.findIn K (.ref C) f = some none ∧ d = some dd ∧ H dd = some (.xd fs) ∧ fs.lookup f = some v ∧ Q v H
  | .isi n => fun σ H Q => σ[i]? = some (some (.ref a)) ∧ ∃ (C dd : Addr) (fs : List (Str × V)) (cv : Value) (u : V) (b : Bool), cls = .ref C ∧ ExcC K C ∧ ClsN mg n cv u ∧ PySem.W.kitOne K (.ref C) cv = some b ∧ d = some dd ∧ H dd = some (.xd fs) ∧ Q (.bl b) H
def tHxs (K : PySem.W.Frag) (mg : Str → Option Value) (i : Nat) (a : Addr) (cls : Value) (d : Option Addr) : List HX → TA
  | [] => tNil
  | h :: r => tCons (tHx K mg i a cls d h) (tHxs K mg i a cls d r)
def locN (N : List Str) (sc : Scope) (i : Nat) (x : Str) : Bool := locB N sc i x
def hxB (cl : List Str) (N : List Str) (sc : Scope) (i : Nat) : HX → Expr → Bool
  | .fld f, .Attribute (.Name y _) g _ => locB N sc i y && decide (g = f)
  | .isi c, .Call (.Name z _) [.Name y _, .Name w _] [] _ => decide (z = "isinstance") && locB N sc i y && decide (w = c) && kindB sc z .globalImplicit && kindB sc w .globalImplicit && okName w && cl.contains w
  | _, _ => false
def hxsB (cl : List Str) (N : List Str) (sc : Scope) (i : Nat) : List HX → List Expr → Bool
  | [], l => l.isEmpty
  | h :: r, l => match l with
    | e :: t => notStarB e && hxB cl N sc i h e && hxsB cl N sc i r t
    | [] => false
def suiteB (cl : List Str) (N : List Str) (sc : Scope) (i : Nat) (hx : List HX) (tg : Option Nat) (st : Stmt) : Bool := match tg with
  | none => match st with
    | .Return (some (.Tuple xs _ _)) _ => hxsB cl N sc i hx xs
    | _ => false
  | some j => match st with
    | .Assign [.Name y _] (.Tuple xs _ _) _ => locB N sc j y && decide (j ≠ i) && hxsB cl N sc i hx xs
    | _ => false
def tSuite (K : PySem.W.Frag) (mg : Str → Option Value) (i : Nat) (hx : List HX) (tg : Option Nat) (a : Addr) (cls : Value) (d : Option Addr) : TS := match tg with
  | none => tSeq (tRet (tTup (tHxs K mg i a cls d hx))) tNext
  | some j => tSeq (tAsg (tTup (tHxs K mg i a cls d hx)) (gName j)) tNext
theorem clsN_inj {mg : Str → Option Value} {n : Str} {v v' : Value} {u u' : V} (h : ClsN mg n v u) (h' : ClsN mg n v' u') : v = v' := by
  rcases h.1 with a | ⟨a, b, _⟩
  · rcases h'.1 with a' | ⟨a', _, _⟩
    · exact Option.some.inj (a.symm.trans a')
    · rw [a] at a'; cases a'
  · rcases h'.1 with a' | ⟨a', b', _⟩
    · rw [a] at a'; cases a'
    · exact Option.some.inj (b.symm.trans b')
section
variable {X : Cx} {a : Addr} {oe : Obj} {pn : List (Addr × Obj)} {N cl : List Str} {i : Nat} {cls : Value} {d : Option Addr}
theorem kindB_d {sc : Scope} {x : Str} {k : NameKind} (h : kindB sc x k = true) : sc.names.lookup x = some k := of_decide_eq_true h
theorem okName_e {x : Str} (h : okName x = true) : (x == ("__debug__" : Str)) = false ∧ x ≠ "__name__" := by
  unfold okName at h
  simp only [Bool.and_eq_true, Bool.not_eq_true', decide_eq_false_iff_not] at h
  exact ⟨h.1.1, h.2⟩
theorem pe_clsn {Y : Cx} {w : Str} {v : Value} {u : V} {pos : Pos} (h : ClsN Y.mg w v u) (hg : Gl Y w) (ho : okName w = true) : PE Y (.Name w pos) (tC u) := by
  obtain ⟨e1, e2⟩ := okName_e ho
  rcases h.1 with h1 | ⟨h1, h2, h3⟩
  · exact pe_glob hg h1 ((h.2 v).mpr rfl) e1
  · exact pe_bltn hg h1 h2 ((h.2 v).mpr rfl) h3 e1
theorem pe_hx (hN : X.N = N) (hcl : ∀ n, n ∈ cl → ∃ v u, ClsN X.mg n v u) (hbi : X.mg "isinstance" = none) (hz : Zc cls d oe) (hf : ∃ vs, oe.data = .fields vs) {h : HX} {e : Expr} (hb : hxB cl N X.env.scope i h e = true) :
    PE (X.suite a ((a, oe) :: pn)) e (tHx X.K X.mg i a cls d h) := by
  cases h with
  | fld f =>
    cases e <;> first | (cases hb; done) | skip
    rename_i o g pos
    cases o <;> first | (cases hb; done) | skip
    rename_i y p
    simp only [hxB, Bool.and_eq_true, decide_eq_true_eq] at hb
    obtain ⟨h1, rfl⟩ := hb
    refine ⟨fun pins s σ H Q I hh => ?_⟩
    obtain ⟨hσ, C, dd, fs, v, rfl, T, hno, rfl, hd, hl, q⟩ := hh
    exact (pe_xf (X := X) T hno hz hf (pe_loc (X := X.suite a ((a, oe) :: pn)) hN h1)).run pins s σ H Q I ⟨.ref a, hσ, rfl, rfl, dd, fs, v, rfl, hd, hl, q⟩
  | isi c =>
    cases e <;> first | (cases hb; done) | skip
    rename_i o xs kws pos
    cases o <;> first | (cases hb; done) | skip
    rename_i z pz
    rcases xs with _ | ⟨x1, _ | ⟨x2, _ | ⟨_, _⟩⟩⟩ <;> first | (cases hb; done) | (simp [hxB] at hb; done) | skip
    cases x1 <;> first | (cases hb; done) | skip
    cases x2 <;> first | (cases hb; done) | skip
    cases kws <;> first | (cases hb; done) | skip
    rename_i y py w pw
    simp only [hxB, Bool.and_eq_true, decide_eq_true_eq] at hb
    obtain ⟨⟨⟨⟨⟨⟨rfl, h1⟩, rfl⟩, h2⟩, h3⟩, h4⟩, h5⟩ := hb
    obtain ⟨v, u, hc⟩ := hcl w (by simpa using h5)
    refine ⟨fun pins s σ H Q I hh => ?_⟩
    obtain ⟨hσ, C, dd, fs, cv, u', b, rfl, T, hc', hk, rfl, hd, q⟩ := hh
    obtain rfl := clsN_inj hc hc'
    have hpa : PA (X.suite a ((a, oe) :: pn)) [.Name y py, .Name w pw] (tCons (tVar i) (tCons (tC u) tNil)) := pa_cons (pe_loc (X := X.suite a ((a, oe) :: pn)) hN h1) (pa_cons (pe_clsn (Y := X.suite a ((a, oe) :: pn)) hc (kindB_d h3) h4) pa_nil)
    exact (pe_callB (X := X.suite a ((a, oe) :: pn)) (call_isD T hz hf) (kindB_d h2) hbi (by decide +kernel) hpa).run pins s σ H Q I ⟨.ref a, hσ, u, v, b, fs, rfl, fun z hz => (hc.2 z).mp hz, hk, hd, q⟩
theorem pa_hxs (hN : X.N = N) (hcl : ∀ n, n ∈ cl → ∃ v u, ClsN X.mg n v u) (hbi : X.mg "isinstance" = none) (hz : Zc cls d oe) (hf : ∃ vs, oe.data = .fields vs) : ∀ {hs : List HX} {es : List Expr}, hxsB cl N X.env.scope i hs es = true → PA (X.suite a ((a, oe) :: pn)) es (tHxs X.K X.mg i a cls d hs)
  | [], es, hb => by
    cases es with
    | nil => exact pa_nil
    | cons _ _ => cases hb
  | h :: r, es, hb => by
    cases es with
    | nil => cases hb
    | cons e t =>
      simp only [hxsB, Bool.and_eq_true] at hb
      exact pa_cons (pe_hx hN hcl hbi hz hf hb.1.2) (pa_hxs hN hcl hbi hz hf hb.2) (star_ns hb.1.1 _ _)
theorem pss_suite (hN : X.N = N) (hnd : X.N.Nodup) (hcl : ∀ n, n ∈ cl → ∃ v u, ClsN X.mg n v u) (hbi : X.mg "isinstance" = none) (hz : Zc cls d oe) (hf : ∃ vs, oe.data = .fields vs) {hs : List HX} {tg : Option Nat} {st : Stmt} (hb : suiteB cl N X.env.scope i hs tg st = true) :
    PSs (X.suite a ((a, oe) :: pn)) (st :: []) (tSuite X.K X.mg i hs tg a cls d) := by
  cases tg with
  | none =>
    cases st <;> first | (cases hb; done) | skip
    rename_i v pos
    cases v with
    | none => cases hb
    | some x =>
      cases x <;> first | (cases hb; done) | skip
      exact pss_cons (ps_ret (pe_tup (pa_hxs hN hcl hbi hz hf hb))) pss_nil
  | some j =>
    cases st <;> first | (cases hb; done) | skip
    rename_i tgs x pos
    rcases tgs with _ | ⟨t, _ | ⟨_, _⟩⟩ <;> first | (cases hb; done) | (simp [suiteB] at hb; done) | skip
    cases t <;> first | (cases hb; done) | skip
    cases x <;> first | (cases hb; done) | skip
    simp only [suiteB, Bool.and_eq_true, decide_eq_true_eq] at hb
    obtain ⟨⟨h1, h2⟩, h3⟩ := hb
    unfold locB at h1
    simp only [Bool.and_eq_true, decide_eq_true_eq, Bool.not_eq_true'] at h1
    exact pss_cons (ps_asg (pe_tup (pa_hxs hN hcl hbi hz hf h3)) (pg_name (X := X.suite a ((a, oe) :: pn)) (i := j) hnd (by rw [← hN] at h1; exact h1.1.1.1) (.inl h1.1.1.2) (.inr h1.1.1.2))) pss_nil
end
/-! ### what they tell -/
section
variable {K : PySem.W.Frag} {mg : Str → Option Value} {ω : Wd} {i : Nat} {a : Addr} {x : XD} {cls : Value} {d : Option Addr} {H : Hp} {c : Ct}
theorem rf_lookup : ∀ {fs : List (Str × D)} {gs : List (Str × V)} {f : Str} {y : D}, Rf K mg ω fs gs → fs.lookup f = some y → ∃ v, gs.lookup f = some v ∧ R K mg ω y v ∧ f ∈ fs.map (·.1)
  | _, _, f, y, .nil, h => by cases h
  | _, _, f, y, .cons (f := g) (d := d0) (v := v0) (ds := ds) (vs := vs) r t, h => by
    rw [lookup_put'] at h
    rw [lookup_put]
    by_cases e : f = g
    · rw [if_pos e] at h ⊢
      cases h
      exact ⟨v0, rfl, r, by rw [e]; simp⟩
    · rw [if_neg e] at h ⊢
      obtain ⟨v, h1, h2, h3⟩ := rf_lookup t h
      exact ⟨v, h1, h2, by simp only [List.map_cons, List.mem_cons]; exact .inr h3⟩
where
  lookup_put' {α : Type} {f g : Str} {y : α} {fs : List (Str × α)} : ((f, y) :: fs).lookup g = if g = f then some y else fs.lookup g := by
    by_cases h : g = f
    · subst h
      simp [List.lookup]
    · have e : (g == f) = false := by simpa using h
      rw [if_neg h]
      simp [List.lookup, e]
theorem lookup_mem {α : Type} : ∀ {l : List (Str × α)} {n : Str} {b : α}, l.lookup n = some b → (n, b) ∈ l
  | [], n, b, h => by cases h
  | (m, y) :: l, n, b, h => by
    rw [rf_lookup.lookup_put'] at h
    by_cases e : n = m
    · rw [if_pos e] at h
      cases h
      rw [e]
      exact List.mem_cons_self
    · rw [if_neg e] at h
      exact List.mem_cons_of_mem _ (lookup_mem h)
theorem hx_run (rx : RX K mg ω x cls d) (rel : Rel K mg ω c H) {σ : L2.St} (hσ : σ[i]? = some (some (.ref a))) : ∀ (hs : List HX) (ds : List D) (Q : List V → Hp → Prop), hxVs x hs = some ds → (∀ vs, Rs K mg ω ds vs → Q vs H) → tHxs K mg i a cls d hs σ H Q
  | [], ds, Q, h, q => by
    cases h
    exact q [] .nil
  | h :: r, ds, Q, e, q => by
    have rec_ := hx_run rx rel hσ r
    obtain ⟨C, dd, gs, I, rfl, rfl, hd, rf⟩ := rx
    unfold hxVs at e
    cases e1 : hxV x h with
    | none => rw [e1] at e; cases e
    | some y =>
      rw [e1] at e
      cases e2 : hxVs x r with
      | none => rw [e2] at e; cases e
      | some ys =>
        rw [e2] at e
        cases e
        have go : ∀ v, R K mg ω y v → tHxs K mg i a (.ref C) (some dd) r σ H fun xs H2 => Q (v :: xs) H2 := fun v hv => rec_ ys _ e2 fun vs hvs => q (v :: vs) (.cons hv hvs)
        cases h with
        | fld f =>
          obtain ⟨v, h1, h2, h3⟩ := rf_lookup rf e1
          exact ⟨hσ, C, dd, gs, v, rfl, I.xf, I.nof f h3, rfl, rel.ext _ _ hd, h1, go v h2⟩
        | isi n =>
          have e1 : (x.sup.lookup n).map D.bl = some y := e1
          cases e3 : x.sup.lookup n with
          | none => rw [e3] at e1; cases e1
          | some b =>
            rw [e3] at e1
            cases e1
            obtain ⟨v, u, h1, h2, h3⟩ := I.sup n b (lookup_mem e3)
            exact ⟨hσ, C, dd, gs, v, u, b, rfl, I.isx, h1, h3, rfl, rel.ext _ _ hd, go (.bl b) (.bl b)⟩
end
end Hv

set_option Elab.async false
set_option linter.all false
set_option maxRecDepth 100000
set_option maxHeartbeats 4000000
/-! HvF: freezing, what is walked, targets, comprehensions. -/
namespace Hv
open PySem PySem.Spec PyProof.Rows L2

section
variable {K : PySem.W.Frag} {mg : Str → Option Value}
theorem frzL_ok {f : D → Ct → Option (D × Ct)} (hf : ∀ d c e c', f d c = some (e, c') → ∀ ω H v, Rel K mg ω c H → R K mg ω d v → ∃ ω', ω.le ω' ∧ Rel K mg ω' c' H ∧ R K mg ω' e v) :
    ∀ (ds : List D) (c : Ct) (es : List D) (c' : Ct), frzL f ds c = some (es, c') → ∀ ω H vs, Rel K mg ω c H → Rs K mg ω ds vs → ∃ ω', ω.le ω' ∧ Rel K mg ω' c' H ∧ Rs K mg ω' es vs
  | [], c, es, c', h, ω, H, vs, rel, rs => by
    cases h
    cases rs
    exact ⟨ω, .rfl, rel, .nil⟩
  | d :: ds, c, es, c', h, ω, H, vs, rel, rs => by
    unfold frzL at h
    cases e1 : f d c with
    | none => rw [e1] at h; cases h
    | some p =>
      obtain ⟨e, c1⟩ := p
      rw [e1] at h
      cases e2 : frzL f ds c1 with
      | none => simp only [Option.bind_some, e2] at h; cases h
      | some q =>
        obtain ⟨es', c2⟩ := q
        simp only [Option.bind_some, e2] at h
        cases h
        cases rs with
        | cons r t =>
        obtain ⟨ω1, l1, rel1, r1⟩ := hf _ _ _ _ e1 ω H _ rel r
        obtain ⟨ω2, l2, rel2, r2⟩ := frzL_ok hf ds c1 es' c2 e2 ω1 H _ rel1 (t.mono l1.toLo)
        exact ⟨ω2, l1.trans l2, rel2, .cons (r1.mono l2.toLo) r2⟩
theorem frz_ok : ∀ (k : Nat) (d : D) (c : Ct) (e : D) (c' : Ct), frzD k d c = some (e, c') → ∀ ω H v, Rel K mg ω c H → R K mg ω d v → ∃ ω', ω.le ω' ∧ Rel K mg ω' c' H ∧ R K mg ω' e v := by
  intro k
  induction k with
  | zero =>
    intro d c e c' h ω H v rel r
    cases d <;> first
      | (cases h; done)
      | (cases h; exact ⟨ω, .rfl, rel, r⟩)
  | succ k ih =>
    intro d c e c' h ω H v rel r
    cases d with
    | ref n =>
      unfold frzD at h
      cases hc : c[n]? with
      | none => rw [hc] at h; cases h
      | some u =>
        rw [hc] at h
        cases u with
        | lst xs =>
          simp only at h
          cases e1 : frzL (frzD k) xs (c.set n .dead) with
          | none => rw [e1] at h; cases h
          | some p =>
            obtain ⟨ys, c1⟩ := p
            rw [e1] at h
            cases h
            cases r with
            | ref hm =>
            obtain ⟨k1, k2⟩ := rel.live _ _ _ hm hc (by intro z; cases z)
            unfold COk at k2
            split at k2
            · rename_i z; cases z
            · rename_i us vs z1 z2
              cases z1
              obtain ⟨l1, rel1⟩ := rel.freeze hm hc (by intro z; cases z) z2
              obtain ⟨ω2, l2, rel2, r2⟩ := frzL_ok ih _ _ _ _ e1 _ H _ rel1 (k2.mono l1.toLo)
              refine ⟨ω2, l1.trans l2, rel2, .lst (.inl (.inl (l2.f _ _ ?_))) r2⟩
              exact upd_same
            · rename_i z _; cases z
            · rename_i z _; cases z
            · rename_i z _; cases z
            · exact k2.elim
        | dead => cases h
        | ins _ _ => cases h
        | dct _ => cases h
    | tup xs =>
      unfold frzD at h
      cases e1 : frzL (frzD k) xs c with
      | none => rw [e1] at h; cases h
      | some p =>
        obtain ⟨ys, c1⟩ := p
        rw [e1] at h
        cases h
        cases r with
        | tup ht rs =>
        obtain ⟨ω2, l2, rel2, r2⟩ := frzL_ok ih _ _ _ _ e1 _ H _ rel rs
        exact ⟨ω2, l2, rel2, .tup (ht.mono l2.f) r2⟩
    | lst xs =>
      unfold frzD at h
      cases e1 : frzL (frzD k) xs c with
      | none => rw [e1] at h; cases h
      | some p =>
        obtain ⟨ys, c1⟩ := p
        rw [e1] at h
        cases h
        cases r with
        | lst ht rs =>
        obtain ⟨ω2, l2, rel2, r2⟩ := frzL_ok ih _ _ _ _ e1 _ H _ rel rs
        exact ⟨ω2, l2, rel2, .lst (sq_l l2.f ht) r2⟩
    | non => cases h; exact ⟨ω, .rfl, rel, r⟩
    | bl b => cases h; exact ⟨ω, .rfl, rel, r⟩
    | int b => cases h; exact ⟨ω, .rfl, rel, r⟩
    | str b => cases h; exact ⟨ω, .rfl, rel, r⟩
    | ty _ => cases h
    | ins _ _ => cases h
    | dct _ => cases h
    | glo _ => cases h
end

/-! ### what is walked -/
section
variable (K : PySem.W.Frag) (mg : Str → Option Value)
structure Walks (ω₀ : Wd) (J : It) (ds : List D) : Prop where
  go : ∀ (i : Nat) ω c H, ω₀.lo ω → Rel K mg ω c H → i < ds.length → J.go i H
  yld : ∀ (i : Nat) ω c H x H' d, ω₀.lo ω → Rel K mg ω c H → ds[i]? = some d → J.yld i H x H' → ∃ ω', ω.le ω' ∧ Rel K mg ω' c H' ∧ R K mg ω' d x
  stop : ∀ ω c H, ω₀.lo ω → Rel K mg ω c H → J.stop ds.length H
abbrev liftI (W : WX) (f : Sl → Ct → Res (List D)) : TI := lift K mg (fun ω ds J => Walks K mg ω J ds) W f
end
section
variable {K : PySem.W.Frag} {mg : Str → Option Value} {ω : Wd}
theorem walks_list {a : Addr} {vs : List V} {xs : List D} (h : SqL K ω.F a vs) (r : Rs K mg ω xs vs) : Walks K mg ω (Itl K a) xs where
  go := fun i ω' c H l rel hi => by
    obtain ⟨v, hv, _⟩ := r.get (List.getElem?_eq_getElem hi)
    exact ⟨vs, v, sq_l rel.ext (sq_l l.f h), hv⟩
  yld := fun i ω' c H x H' d l rel hd y => by
    obtain ⟨rfl, y⟩ := y
    obtain ⟨v, hv, rv⟩ := r.get hd
    have e := y vs (sq_l rel.ext (sq_l l.f h))
    rw [hv] at e
    cases e
    exact ⟨ω', .rfl, rel, rv.mono l⟩
  stop := fun ω' c H l rel => ⟨vs, sq_l rel.ext (sq_l l.f h), by rw [r.length]; exact Nat.le_refl _⟩
theorem walks_tup {a : Addr} {vs : List V} {xs : List D} (h : SqT K ω.F a vs) (r : Rs K mg ω xs vs) : Walks K mg ω (Itt K a) xs where
  go := fun i ω' c H l rel hi => by
    obtain ⟨v, hv, _⟩ := r.get (List.getElem?_eq_getElem hi)
    exact ⟨vs, v, sq_t rel.ext (sq_t l.f h), hv⟩
  yld := fun i ω' c H x H' d l rel hd y => by
    obtain ⟨rfl, y⟩ := y
    obtain ⟨v, hv, rv⟩ := r.get hd
    have e := y vs (sq_t rel.ext (sq_t l.f h))
    rw [hv] at e
    cases e
    exact ⟨ω', .rfl, rel, rv.mono l⟩
  stop := fun ω' c H l rel => ⟨vs, sq_t rel.ext (sq_t l.f h), by rw [r.length]; exact Nat.le_refl _⟩
theorem rng_get {lo : Int} {n i : Nat} {d : D} (h : (rngD lo n)[i]? = some d) : i < n ∧ d = .int (lo + i) := by
  unfold rngD at h
  rw [List.getElem?_map] at h
  by_cases hi : i < n
  · rw [List.getElem?_range hi] at h
    cases h
    exact ⟨hi, rfl⟩
  · rw [List.getElem?_eq_none (by simpa using hi)] at h
    cases h
theorem rng_len (lo : Int) (n : Nat) : (rngD lo n).length = n := by simp [rngD]
theorem walks_rng {lo : Int} {n : Nat} : Walks K mg ω (Itr lo n) (rngD lo n) where
  go := fun i ω' c H l rel hi => by
    rw [rng_len] at hi
    exact hi
  yld := fun i ω' c H x H' d l rel hd y => by
    obtain ⟨rfl, rfl⟩ := y
    obtain ⟨_, rfl⟩ := rng_get hd
    exact ⟨ω', .rfl, rel, .int _⟩
  stop := fun ω' c H l rel => by
    rw [rng_len]
    exact Nat.le_refl _
end
section
variable {X : Cx} {W : WX} {tg l : Expr}
theorem _root_.L2.PI.weak {t t' : TI} (h : PI X tg l t) (k : ∀ σ H Q, t' σ H Q → t σ H Q) : PI X tg l t' := ⟨fun pins s σ H Q I q => h.run pins s σ H Q I (k _ _ _ q)⟩
theorem pi_seq {fe : Sl → Ct → Res D} (he : PE X l (liftE X.K X.mg W fe)) : PI X tg l (liftI X.K X.mg W fun sl c => bnd (fe sl c) seqD) := by
  refine ⟨fun pins s σ H Rr I ⟨ω, sl, c, sr, rel, p⟩ => ?_⟩
  refine thn (he.run pins s σ H _ I (post_bind sr rel p)) fun v s1 ⟨x, H1, I1, r1, ω', c', a, le, sr', rel', ra, p'⟩ => ?_
  have fin : ∀ {b : Addr}, b ∈ [s1.heap.objs.size] → FpOk X pins H1 b := fun {b} hb => by
    have e : b = s1.heap.objs.size := by simpa using hb
    subst e
    exact I1.fpOk (Nat.le_refl _) (I1.hok.fresh (Nat.le_refl _))
  unfold seqD at p'
  split at p'
  · cases ra with
    | lst h rs =>
    cases r1
    have hq := sq_l rel'.ext h
    obtain ⟨its, rv, pl, hz⟩ := I1.list hq
    refine wpAny_pyIter_list pl.isList ?_
    exact ⟨s1.heap.objs.size, [s1.heap.objs.size], _, _, H1, rfl, I1.kept (t' := s1.toks) fun b o e => Heap.get?_push_of_some _ e, turn_list _ _, ⟨_, Heap.get?_push_size _ rfl, rfl, rfl⟩, fun b hb => fin hb, p'.ok_of rel' (walks_list h rs)⟩
  · cases ra with
    | tup h rs =>
    cases r1
    have hq := sq_t rel'.ext h.sq
    obtain ⟨its, rv, pl, hz⟩ := I1.tuple hq
    refine wpAny_pyIter_tuple (show s1.heap.IsTuple _ its.toArray from pl) ?_
    exact ⟨s1.heap.objs.size, [s1.heap.objs.size], _, _, H1, rfl, I1.kept (t' := s1.toks) fun b o e => Heap.get?_push_of_some _ e, turn_tuple _ _, ⟨_, Heap.get?_push_size _ rfl, rfl, rfl⟩, fun b hb => fin hb, p'.ok_of rel' (walks_tup h.sq rs)⟩
  · exact p'.elim
end

/-! ### targets -/
/-- the slots of a target are stored, no others -/
def Only' (vs : List Nat) (σ σ' : L2.St) : Prop := σ'.length = σ.length ∧ ∀ i, i ∉ vs → σ'[i]? = σ[i]?
section
variable (K : PySem.W.Frag) (mg : Str → Option Value)
def gT (t : IT) : TG := fun v σ H Q => ∃ ω sl c d sl', SR K mg ω sl σ ∧ Rel K mg ω c H ∧ R K mg ω d v ∧ asT t d sl = some sl' ∧ ∀ σ', SR K mg ω sl' σ' → Only' (slotsT t) σ σ' → Q σ' H
def gTs (ts : List IT) : TGs := fun vs σ H Q => ∃ ω sl c ds sl', SR K mg ω sl σ ∧ Rel K mg ω c H ∧ Rs K mg ω ds vs ∧ asTs ts ds sl = some sl' ∧ ∀ σ', SR K mg ω sl' σ' → Only' (slotsTs ts) σ σ' → Q σ' H
end
section
variable {Γ : SE} {X : Cx}
theorem kindB_iff {sc : Scope} {x : Str} {k : NameKind} : kindB sc x k = true ↔ sc.names.lookup x = some k := by unfold kindB; exact decide_eq_true_iff
theorem _root_.L2.PG.weak {e : Expr} {t t' : TG} (h : PG X e t) (k : ∀ v σ H Q, t' v σ H Q → t v σ H Q) : PG X e t' := ⟨fun pins s σ H v u Q I r q => h.run pins s σ H v u Q I r (k _ _ _ _ q)⟩
theorem _root_.L2.PGs.weak {e : List Expr} {t t' : TGs} (h : PGs X e t) (k : ∀ v σ H Q, t' v σ H Q → t v σ H Q) : PGs X e t' := ⟨fun pins s σ H v u Q I r q => h.run pins s σ H v u Q I r (k _ _ _ _ q)⟩
theorem assign_ns {x : Expr} (h : notStarB x = true) (xs : List Expr) (env : Env) : assignEach (x :: xs) env = (false, fun v => assign x env v) :: assignEach xs env := by
  cases x <;> first | rfl | cases h
theorem assign_len : ∀ {xs : List Expr} {env : Env}, xs.all notStarB = true → (assignEach xs env).length = xs.length ∧ (assignEach xs env).findIdx? (·.1) = none
  | [], _, _ => ⟨rfl, rfl⟩
  | x :: xs, env, h => by
    rw [List.all_cons, Bool.and_eq_true] at h
    obtain ⟨h1, h2⟩ := assign_len (env := env) h.2
    rw [assign_ns h.1]
    refine ⟨by simp [h1], ?_⟩
    rw [List.findIdx?_cons]
    simp [h2]
theorem gos_all : ∀ {ts : List IT} {es : List Expr}, chkT'.gos Γ ts es = true → es.all notStarB = true ∧ ts.length = es.length
  | [], [], _ => ⟨rfl, rfl⟩
  | t :: ts, e :: es, h => by
    unfold chkT'.gos at h
    simp only [Bool.and_eq_true] at h
    obtain ⟨h1, h2⟩ := gos_all h.2
    exact ⟨by rw [List.all_cons, h.1.1, h1]; rfl, by simp [h2]⟩
  | [], _ :: _, h => by unfold chkT'.gos at h; cases h
  | _ :: _, [], h => by unfold chkT'.gos at h; cases h
theorem asTs_len : ∀ {ts : List IT} {ds : List D} {sl sl' : Sl}, asTs ts ds sl = some sl' → ds.length = ts.length
  | [], [], _, _, _ => rfl
  | t :: ts, d :: ds, sl, sl', h => by
    unfold asTs at h
    cases e : asT t d sl with
    | none => rw [e] at h; cases h
    | some s => rw [e] at h; simp [asTs_len (show asTs ts ds s = some sl' from h)]
  | [], _ :: _, _, _, h => by unfold asTs at h; cases h
  | _ :: _, [], _, _, h => by unfold asTs at h; cases h
variable (hN : X.N = Γ.N) (nd : X.N.Nodup) (sc : X.env.scope = Γ.sc) (fn : ∀ x, Γ.fn x = true → X.fn x = true) (hc : X.calm = true)
include hN nd sc fn hc
mutual
theorem pg_T : ∀ (t : IT) (e : Expr), chkT'.go Γ t e = true → PG X e (gT X.K X.mg t)
  | .nm i, .Name x pos, h => by
    unfold chkT'.go at h
    simp only [Bool.and_eq_true, Bool.or_eq_true, decide_eq_true_eq, kindB_iff] at h
    obtain ⟨h1, h2⟩ := h
    have hl : Loc X.env.scope x := by
      rw [sc]
      rcases h2 with h2 | h2
      · exact .inl h2
      · exact .inr h2.1
    have hf : X.fn x = true ∨ X.env.scope.names.lookup x = some .local := by
      rw [sc]
      rcases h2 with h2 | h2
      · exact .inr h2
      · exact .inl (fn x h2.2)
    refine (pg_name (i := i) nd (by rw [hN]; exact h1) hl hf).weak fun v σ H Q ⟨ω, sl, c, d, sl', sr, rel, r, e, k⟩ => ?_
    unfold asT at e
    cases e
    refine k _ (sr.set i r) ⟨by simp, fun j hj => ?_⟩
    unfold slotsT at hj
    rw [List.mem_singleton] at hj
    rw [List.getElem?_set_ne (Ne.symm hj)]
  | .tp ts, .Tuple es kk pos, h => by
    unfold chkT'.go at h
    obtain ⟨h1, h2⟩ := gos_all h
    obtain ⟨h3, h4⟩ := assign_len (env := X.env) h1
    refine (pg_tup (n := es.length) hc (pgs_T ts es h) h3 h4).weak fun v σ H Q ⟨ω, sl, c, d, sl', sr, rel, r, e, k⟩ => ?_
    cases d with
    | tup ds =>
      unfold asT at e
      cases r with
      | tup ht rs =>
      refine ⟨_, _, rfl, sq_t rel.ext ht.sq, ?_, ω, sl, c, ds, sl', sr, rel, rs, e, fun σ' s' o => k σ' s' (by unfold slotsT; exact o)⟩
      rw [← rs.length, asTs_len e, h2]
    | _ => unfold asT at e; cases e
  | .nm _, .BoolOp .., h | .nm _, .NamedExpr .., h | .nm _, .BinOp .., h | .nm _, .UnaryOp .., h | .nm _, .Lambda .., h | .nm _, .IfExp .., h | .nm _, .Dict .., h | .nm _, .Set .., h | .nm _, .ListComp .., h | .nm _, .SetComp .., h | .nm _, .DictComp .., h
  | .nm _, .GeneratorExp .., h | .nm _, .Await .., h | .nm _, .Yield .., h | .nm _, .YieldFrom .., h | .nm _, .Compare .., h | .nm _, .Call .., h | .nm _, .FormattedValue .., h | .nm _, .JoinedStr .., h | .nm _, .Constant .., h | .nm _, .Attribute .., h
  | .nm _, .Subscript .., h | .nm _, .Starred .., h | .nm _, .List .., h | .nm _, .Tuple .., h | .nm _, .Slice .., h => by cases h
  | .tp _, .BoolOp .., h | .tp _, .NamedExpr .., h | .tp _, .BinOp .., h | .tp _, .UnaryOp .., h | .tp _, .Lambda .., h | .tp _, .IfExp .., h | .tp _, .Dict .., h | .tp _, .Set .., h | .tp _, .ListComp .., h | .tp _, .SetComp .., h | .tp _, .DictComp .., h
  | .tp _, .GeneratorExp .., h | .tp _, .Await .., h | .tp _, .Yield .., h | .tp _, .YieldFrom .., h | .tp _, .Compare .., h | .tp _, .Call .., h | .tp _, .FormattedValue .., h | .tp _, .JoinedStr .., h | .tp _, .Constant .., h | .tp _, .Attribute .., h
  | .tp _, .Subscript .., h | .tp _, .Starred .., h | .tp _, .List .., h | .tp _, .Name .., h | .tp _, .Slice .., h => by cases h
theorem pgs_T : ∀ (ts : List IT) (es : List Expr), chkT'.gos Γ ts es = true → PGs X es (gTs X.K X.mg ts)
  | [], [], _ => pgs_nil.weak fun v σ H Q ⟨ω, sl, c, ds, sl', sr, rel, rs, e, k⟩ => by
    cases ds with
    | nil =>
      unfold asTs at e
      cases e
      cases rs
      exact ⟨rfl, k σ sr ⟨rfl, fun _ _ => rfl⟩⟩
    | cons d ds => unfold asTs at e; cases e
  | t :: ts, e :: es, h => by
    unfold chkT'.gos at h
    simp only [Bool.and_eq_true] at h
    obtain ⟨⟨h0, h1⟩, h2⟩ := h
    refine (pgs_cons (pg_T t e h1) (pgs_T ts es h2) (by rw [assign_ns h0]; rfl)).weak fun v σ H Q ⟨ω, sl, c, ds, sl', sr, rel, rs, e, k⟩ => ?_
    cases ds with
    | nil => unfold asTs at e; cases e
    | cons d ds =>
      unfold asTs at e
      cases e1 : asT t d sl with
      | none => rw [e1] at e; cases e
      | some sl1 =>
        rw [e1] at e
        cases rs with
        | cons r rs =>
        refine ⟨_, _, rfl, ω, sl, c, d, sl1, sr, rel, r, e1, fun σ1 s1 o1 => ?_⟩
        refine ⟨ω, sl1, c, ds, sl', s1, rel, rs, e, fun σ2 s2 o2 => k σ2 s2 ⟨o2.1.trans o1.1, fun i hi => ?_⟩⟩
        unfold slotsTs at hi
        rw [List.mem_append, not_or] at hi
        rw [o2.2 i hi.2, o1.2 i hi.1]
  | [], _ :: _, h => by unfold chkT'.gos at h; cases h
  | _ :: _, [], h => by unfold chkT'.gos at h; cases h
end
end

/-! ### comprehensions -/
section
variable {K : PySem.W.Frag} {mg : Str → Option Value} {ω : Wd}
theorem wipe_get {α : Type} (w : List (Option α) → List Nat → List (Option α)) (h0 : ∀ s, w s [] = s) (h1 : ∀ s v vs, w s (v :: vs) = (w s vs).set v none) : ∀ (vs : List Nat) (s : List (Option α)) (i : Nat), (w s vs)[i]? = if i ∈ vs ∧ i < s.length then some none else s[i]?
  | [], s, i => by rw [h0]; simp
  | v :: vs, s, i => by
    rw [h1]
    have ih := wipe_get w h0 h1 vs s
    have hl : (w s vs).length = s.length := by
      clear ih
      induction vs with
      | nil => rw [h0]
      | cons u us ih2 => rw [h1, List.length_set, ih2]
    by_cases hv : v = i
    · subst hv
      by_cases hlt : v < s.length
      · rw [List.getElem?_set_self (by rw [hl]; exact hlt), if_pos ⟨List.mem_cons_self, hlt⟩]
      · rw [if_neg (fun z => hlt z.2), List.getElem?_eq_none (by rw [List.length_set, hl]; omega), List.getElem?_eq_none (by omega)]
    · rw [List.getElem?_set_ne hv, ih]
      by_cases hm : i ∈ vs ∧ i < s.length
      · rw [if_pos hm, if_pos ⟨List.mem_cons_of_mem _ hm.1, hm.2⟩]
      · rw [if_neg hm, if_neg]
        rintro ⟨z1, z2⟩
        rcases List.mem_cons.mp z1 with z | z
        · exact hv z.symm
        · exact hm ⟨z, z2⟩
theorem wipe_at (vs : List Nat) (s : L2.St) (i : Nat) : (wipe s vs)[i]? = if i ∈ vs ∧ i < s.length then some none else s[i]? := wipe_get wipe (fun _ => rfl) (fun _ _ _ => rfl) vs s i
theorem wipeD_at (vs : List Nat) (s : Sl) (i : Nat) : (wipeD s vs)[i]? = if i ∈ vs ∧ i < s.length then some none else s[i]? := wipe_get wipeD (fun _ => rfl) (fun _ _ _ => rfl) vs s i
theorem wipeD_len (s : Sl) : ∀ vs : List Nat, (wipeD s vs).length = s.length
  | [] => rfl
  | v :: vs => by unfold wipeD; rw [List.length_set, wipeD_len s vs]
theorem SR.wipe {sl : Sl} {σ : L2.St} (s : SR K mg ω sl σ) (vs : List Nat) : SR K mg ω (wipeD sl vs) (L2.wipe σ vs) := by
  refine ⟨by rw [wipeD_len, wipe_length, s.len], fun i d e => ?_⟩
  rw [wipeD_at] at e
  rw [wipe_at]
  by_cases h : i ∈ vs ∧ i < sl.length
  · rw [if_pos h] at e; cases e
  · rw [if_neg h] at e
    rw [if_neg (by rw [← s.len]; exact h)]
    exact s.get i d e
theorem wipe_only {vs us : List Nat} {σ σ' : L2.St} (h : Only' us σ σ') (hs : ∀ i ∈ us, i ∈ vs) : L2.wipe σ' vs = L2.wipe σ vs := by
  refine List.ext_getElem? fun i => ?_
  rw [wipe_at, wipe_at, h.1]
  by_cases hi : i ∈ vs ∧ i < σ.length
  · rw [if_pos hi, if_pos hi]
  · rw [if_neg hi, if_neg hi]
    by_cases hm : i ∈ vs
    · have hl : ¬ i < σ.length := fun z => hi ⟨hm, z⟩
      rw [List.getElem?_eq_none (by rw [h.1]; omega), List.getElem?_eq_none (by omega)]
    · exact h.2 i fun z => hm (hs i z)
theorem wipe_wipe (vs : List Nat) (σ : L2.St) : L2.wipe (L2.wipe σ vs) vs = L2.wipe σ vs := by
  refine List.ext_getElem? fun i => ?_
  rw [wipe_at, wipe_at, wipe_length]
  by_cases hi : i ∈ vs ∧ i < σ.length
  · rw [if_pos hi, if_pos hi]
  · rw [if_neg hi]
abbrev noW : WX := fun _ _ _ _ => False
theorem comp_tlc {mu : Bool} {t : IT} {fi : Sl → Ct → Res (List D)} {fq : Sl → Ct → Res Bool} {fe : Sl → Ct → Res D} {vs : List Nat} {W : WX} {σ : L2.St} {H : Hp} {Q : VK} (hs : ∀ i ∈ slotsT t, i ∈ vs)
    (h : liftE K mg W (fun sl c => bnd (fi sl c) fun its c => compK mu t fq fe (wipeD sl vs) its c) σ H Q) :
    tLc (liftI K mg W fi) (gT K mg t) (liftT K mg noW fq) (liftE K mg noW fe) vs σ H Q := by
  obtain ⟨ω0, sl, c0, sr0, rel0, p⟩ := h
  refine (post_bind sr0 rel0 p).mono fun J H1 ⟨ω1, c1, its, l1, sr1, rel1, wk, p1⟩ => ?_
  intro D hD
  unfold compK at p1
  cases hr : compR (asT t) fq fe (wipeD sl vs) its c1 with
  | stuck => rw [hr] at p1; exact p1.elim
  | exc x c => rw [hr] at p1; exact p1.elim
  | ok es cE =>
    rw [hr] at p1
    simp only at p1
    unfold mkD at p1
    by_cases hz : es.length ≤ 100000
    · rw [if_pos hz] at p1
      have hrx : ∀ q u, (q, u) ∈ ω1.x → q ≠ D := fun q u hq => ne_of_none (rel1.xs q u hq).1 hD
      obtain ⟨la, ra⟩ := rel1.aside hD (.lst [])
      refine ⟨fun i m H => i + m = its.length ∧ ∃ ω c accD accV rest, ω1.lo ω ∧ ω.x = (D, .lst accV) :: ω1.x ∧ Rel K mg ω c H ∧ Rs K mg ω accD accV ∧ compR (asT t) fq fe (wipeD sl vs) (its.drop i) c = .ok rest cE ∧ accD ++ rest = es,
        ⟨its.length, by omega, _, c1, [], [], es, la, rfl, ra, .nil, hr, rfl⟩, ?_⟩
      rintro i m H2 ⟨him, ω, c, accD, accV, rest, lo, hx, rel, rs, hc, he⟩
      by_cases hi : i < its.length
      · have hd : its[i]? = some its[i] := List.getElem?_eq_getElem hi
        have hdrop : its.drop i = its[i] :: its.drop (i + 1) := List.drop_eq_getElem_cons hi
        rw [hdrop] at hc
        unfold compR at hc
        cases ht : asT t its[i] (wipeD sl vs) with
        | none => rw [ht] at hc; cases hc
        | some sl' =>
          rw [ht] at hc
          simp only at hc
          refine .inr ⟨wk.go i ω c H2 lo rel hi, fun H' => i + 1 + (m - 1) = its.length ∧ ∃ ω c accD accV rest, ω1.lo ω ∧ ω.x = (D, .lst accV) :: ω1.x ∧ Rel K mg ω c H' ∧ Rs K mg ω accD accV ∧ compR (asT t) fq fe (wipeD sl vs) (its.drop (i + 1)) c = .ok rest cE ∧ accD ++ rest = es,
            fun H' hn => ⟨m - 1, by omega, hn⟩, fun x H3 hy => ?_⟩
          obtain ⟨ω3, l3, rel3, r3⟩ := wk.yld i ω c H2 x H3 its[i] lo rel hd hy
          have sr3 : SR K mg ω3 (wipeD sl vs) (L2.wipe σ vs) := (sr1.mono (lo.trans l3.toLo)).wipe vs
          refine ⟨ω3, wipeD sl vs, c, its[i], sl', sr3, rel3, r3, ht, fun σ2 sr4 o4 => ⟨?_, ?_⟩⟩
          · rw [wipe_only o4 hs, wipe_wipe]
          · have x3 : ω3.x = (D, .lst accV) :: ω1.x := l3.x.trans hx
            cases hq : fq sl' c with
            | stuck => rw [hq] at hc; cases hc
            | exc x c => rw [hq] at hc; cases hc
            | ok b c2 =>
              rw [hq] at hc
              refine ⟨ω3, sl', c, sr4, rel3, ?_⟩
              rw [hq]
              intro ω5 b' H5 l5 rel5 eb
              subst eb
              cases b with
              | false =>
                simp only at hc
                rw [if_neg (by decide)]
                exact ⟨by omega, ω5, c2, accD, accV, rest, (lo.trans l3.toLo).trans l5.toLo, l5.x.trans x3, rel5, rs.mono (l3.toLo.trans l5.toLo), hc, he⟩
              | true =>
                simp only at hc
                rw [if_pos rfl]
                cases hf : fe sl' c2 with
                | stuck => rw [hf] at hc; cases hc
                | exc x c => rw [hf] at hc; cases hc
                | ok e c6 =>
                  rw [hf] at hc
                  simp only at hc
                  cases hR : compR (asT t) fq fe (wipeD sl vs) (its.drop (i + 1)) c6 with
                  | stuck => rw [hR] at hc; cases hc
                  | exc x c => rw [hR] at hc; cases hc
                  | ok rest' c7 =>
                    rw [hR] at hc
                    cases hc
                    refine ⟨ω5, sl', c2, sr4.mono l5.toLo, rel5, ?_⟩
                    rw [hf]
                    intro ω8 y H8 l8 rel8 r8
                    have x8 : ω8.x = (D, .lst accV) :: ω1.x := (l8.x.trans l5.x).trans x3
                    have hD8 := (rel8.xs D (.lst accV) (by rw [x8]; exact List.mem_cons_self)).1
                    have hlen : accV.length < 100000 := by
                      rw [← rs.length]
                      have := congrArg List.length he
                      simp only [List.length_append, List.length_cons] at this
                      omega
                    refine ⟨accV, hD8, Nat.lt_of_lt_of_le hlen (by decide), by omega, ?_⟩
                    obtain ⟨l9, rel9⟩ := rel8.asideSet x8 (o' := .lst (accV ++ [y])) hrx
                    have lo8 : ω1.lo ω8 := ((lo.trans l3.toLo).trans l5.toLo).trans l8.toLo
                    refine ⟨_, c6, accD ++ [e], accV ++ [y], rest', lo8.trans l9, rfl, rel9, ?_, hR, by rw [← he]; simp⟩
                    exact Rs.append (rs.mono (((l3.toLo.trans l5.toLo).trans l8.toLo).trans l9)) (.cons (r8.mono l9) .nil)
      · have e0 : i = its.length := by omega
        subst e0
        rw [List.drop_length] at hc
        unfold compR at hc
        cases hc
        rw [List.append_nil] at he
        subst he
        refine .inl ⟨wk.stop ω _ H2 lo rel, ?_⟩
        cases mu with
        | true =>
          rw [if_pos rfl] at p1
          obtain ⟨l2, hm, rel2⟩ := rel.asideC hx hrx (u := .lst accD) rs
          exact p1.ok_le ⟨lo.trans l2, rfl⟩ rel2 (.ref hm)
        | false =>
          rw [if_neg (by decide)] at p1
          obtain ⟨l2, rel2⟩ := rel.asideF hx hrx
          exact p1.ok_le ⟨lo.trans l2, rfl⟩ rel2 (.lst (.inl (.inl upd_same)) (rs.mono l2))
    · rw [if_neg hz] at p1
      exact p1.elim
end
end Hv

set_option Elab.async false
set_option linter.all false
set_option maxRecDepth 100000
set_option maxHeartbeats 4000000
/-! HvG: soundness of expressions, all together. -/
namespace Hv
open PySem PySem.Spec PyProof.Rows L2

section
variable {X : Cx} {W : WX} {ea eb ec : Expr} {pos : Pos} {fa fb fc : Sl → Ct → Res D}
theorem sl_D : SlR X (fun x lo hi H Q => ∃ ω dx c W σ, Rel X.K X.mg ω c H ∧ R X.K X.mg ω dx x ∧ Post X.K X.mg (R X.K X.mg) ω W σ (slcD dx lo hi c) Q) := by
  intro pins s σ H x v vl vu lo hi sl Q I rx hs pl pu ⟨ω, dx, c, W, σ', rel, r, p⟩
  unfold slcD at p
  cases e3 : itsD dx c with
  | none => rw [e3] at p; exact p.elim
  | some xs =>
    rw [e3] at p
    simp only at p
    by_cases hl : isL dx = true
    · rw [if_pos hl] at p
      obtain ⟨a, vs, rfl, rs, hq⟩ := its_of rel r e3
      rcases hq with ⟨_, hq⟩ | ⟨z, _⟩
      · exact sl_list pins s σ H _ v vl vu lo hi sl Q I rx hs pl pu ⟨a, vs, rfl, hq, new_lst rel (cut_rs rs lo hi) p⟩
      · rw [hl] at z; cases z
    · rw [if_neg hl] at p
      exact p.elim
theorem snd_bin {o : BOp} (ha : PE X ea (liftE X.K X.mg W fa)) (hb : PE X eb (liftE X.K X.mg W fb)) : PE X (.BinOp ea (opOf o) eb pos) (liftE X.K X.mg W fun sl c => bnd (fa sl c) fun x c => bnd (fb sl c) fun y c => binD o x y c) :=
  (pe_op (op_bin o) ha hb).weak fun σ H Q ⟨ω, sl, c, sr, rel, p⟩ => (post_bind sr rel p).mono fun x H1 ⟨ω1, c1, dx, l1, sr1, rel1, rx, p1⟩ => (post_bind sr1 rel1 p1).mono fun y H2 ⟨ω2, c2, dy, l2, sr2, rel2, ry, p2⟩ =>
    ⟨ω2, dx, dy, c2, W, σ, rel2, rx.mono l2.toLo, ry, p2⟩
theorem set_ns {op : CmpOp} {b : Expr} (h : isSetB b = false) : behindInMarks op b = false := by
  cases b <;> first | rfl | cases h
theorem snd_cmp {o : COp} (hs : isSetB eb = false) (ha : PE X ea (liftE X.K X.mg W fa)) (hb : PE X eb (liftE X.K X.mg W fb)) : PE X (.Compare ea [copOf o] [eb] pos) (liftE X.K X.mg W fun sl c => bnd (fa sl c) fun x c => bnd (fb sl c) fun y c => cmpD o x y c) :=
  (pe_cmpR (op_cmp o) ha hb (set_ns hs)).weak fun σ H Q ⟨ω, sl, c, sr, rel, p⟩ => (post_bind sr rel p).mono fun x H1 ⟨ω1, c1, dx, l1, sr1, rel1, rx, p1⟩ => (post_bind sr1 rel1 p1).mono fun y H2 ⟨ω2, c2, dy, l2, sr2, rel2, ry, p2⟩ =>
    ⟨ω2, dx, dy, c2, W, σ, rel2, rx.mono l2.toLo, ry, p2⟩
/-- a comparison gives a truth value, and changes nothing -/
theorem cmpD_bl {o : COp} {x y d : D} {c c' : Ct} (h : cmpD o x y c = .ok d c') : c' = c ∧ ∃ b, d = .bl b := by
  unfold cmpD at h
  split at h <;> first
    | (cases h; exact ⟨rfl, _, rfl⟩)
    | (split at h <;> first | (cases h; exact ⟨rfl, _, rfl⟩) | cases h)
    | cases h
theorem cmpD_ne {o : COp} {x y : D} {c c' : Ct} {e : XD} (h : cmpD o x y c = .exc e c') : False := by
  unfold cmpD at h
  split at h <;> first | (cases h; done) | (split at h <;> cases h)
theorem snd_cmpT {o : COp} (hs : isSetB eb = false) (ha : PE X ea (liftE X.K X.mg W fa)) (hb : PE X eb (liftE X.K X.mg W fb)) : PT X (.Compare ea [copOf o] [eb] pos) (liftT X.K X.mg W fun sl c => bnd (bnd (fa sl c) fun x c => bnd (fb sl c) fun y c => cmpD o x y c) truD) :=
  (pt_cmpR (op_cmp o) ha hb (set_ns hs)).weak fun σ H Q ⟨ω, sl, c, sr, rel, p⟩ => by
    have e : bnd (bnd (fa sl c) fun x c => bnd (fb sl c) fun y c => cmpD o x y c) truD = bnd (fa sl c) fun x c => bnd (fb sl c) fun y c => bnd (cmpD o x y c) truD := by
      cases fa sl c with
      | ok a c => show bnd (bnd (fb sl c) _) _ = bnd (fb sl c) _; cases fb sl c <;> rfl
      | exc x c => rfl
      | stuck => rfl
    dsimp only at p
    rw [e] at p
    refine (post_bind sr rel p).mono fun x H1 ⟨ω1, c1, dx, l1, sr1, rel1, rx, p1⟩ => (post_bind sr1 rel1 p1).mono fun y H2 ⟨ω2, c2, dy, l2, sr2, rel2, ry, p2⟩ => ?_
    refine ⟨ω2, dx, dy, c2, W, σ, rel2, rx.mono l2.toLo, ry, ?_⟩
    cases h : cmpD o dx dy c2 with
    | stuck => rw [h] at p2; exact p2
    | exc x c => exact (cmpD_ne h).elim
    | ok d c3 =>
      rw [h] at p2
      obtain ⟨rfl, b, rfl⟩ := cmpD_bl h
      intro ω3 v H3 l3 rel3 r3
      cases r3
      exact ⟨b, rfl, p2 ω3 b H3 l3 rel3 rfl⟩
theorem snd_chn {o o' : COp} (hs : isSetB eb = false) (hs' : isSetB ec = false) (ha : PE X ea (liftE X.K X.mg W fa)) (hb : PE X eb (liftE X.K X.mg W fb)) (hc : PE X ec (liftE X.K X.mg W fc)) :
    PE X (.Compare ea [copOf o, copOf o'] [eb, ec] pos) (liftE X.K X.mg W fun sl c => bnd (fa sl c) fun x c => bnd (fb sl c) fun y c => chnK o o' x y (fc sl) c) := by
  refine PE.weak (pe_chain (op_cmp o) (op_cmp o') ha hb hc (set_ns hs')) fun σ H Q ⟨ω, sl, c, sr, rel, p⟩ => (post_bind sr rel p).mono fun x H1 ⟨ω1, c1, dx, l1, sr1, rel1, rx, p1⟩ => (post_bind sr1 rel1 p1).mono fun y H2 ⟨ω2, c2, dy, l2, sr2, rel2, ry, p2⟩ => ?_
  refine ⟨ω2, dx, dy, c2, W, σ, rel2, rx.mono l2.toLo, ry, ?_⟩
  unfold chnK at p2
  cases h : cmpD o dx dy c2 with
  | stuck => rw [h] at p2; exact p2
  | exc x c => exact (cmpD_ne h).elim
  | ok d c3 =>
    rw [h] at p2
    obtain ⟨rfl, b, rfl⟩ := cmpD_bl h
    intro ω3 v H3 l3 rel3 r3
    cases r3
    refine ⟨b, rfl, ?_⟩
    cases b with
    | false =>
      rw [if_neg (by decide)]
      exact p2 ω3 _ H3 l3 rel3 (.bl _)
    | true =>
      rw [if_pos rfl]
      have p3 : Post X.K X.mg (R X.K X.mg) ω3 W σ (bnd (fc sl c3) fun z c => cmpD o' dy z c) Q := Post.le p2 l3
      exact (post_bind (sr2.mono l3.toLo) rel3 p3).mono fun z H4 ⟨ω4, c4, dz, l4, sr4, rel4, rz, p4⟩ => ⟨ω4, dy, dz, c4, W, σ, rel4, (ry.mono l3.toLo).mono l4.toLo, rz, p4⟩
theorem snd_chnT {o o' : COp} (hs' : isSetB ec = false) (ha : PE X ea (liftE X.K X.mg W fa)) (hb : PE X eb (liftE X.K X.mg W fb)) (hc : PE X ec (liftE X.K X.mg W fc)) :
    PT X (.Compare ea [copOf o, copOf o'] [eb, ec] pos) (liftT X.K X.mg W fun sl c => bnd (bnd (fa sl c) fun x c => bnd (fb sl c) fun y c => chnK o o' x y (fc sl) c) truD) := by
  refine PT.weak (pt_chain (op_cmp o) (op_cmp o') ha hb hc (set_ns hs')) fun σ H Q ⟨ω, sl, c, sr, rel, p⟩ => ?_
  have e : bnd (bnd (fa sl c) fun x c => bnd (fb sl c) fun y c => chnK o o' x y (fc sl) c) truD = bnd (fa sl c) fun x c => bnd (fb sl c) fun y c => bnd (chnK o o' x y (fc sl) c) truD := by
    cases fa sl c with
    | ok a c => show bnd (bnd (fb sl c) _) _ = bnd (fb sl c) _; cases fb sl c <;> rfl
    | exc x c => rfl
    | stuck => rfl
  dsimp only at p
  rw [e] at p
  refine (post_bind sr rel p).mono fun x H1 ⟨ω1, c1, dx, l1, sr1, rel1, rx, p1⟩ => (post_bind sr1 rel1 p1).mono fun y H2 ⟨ω2, c2, dy, l2, sr2, rel2, ry, p2⟩ => ?_
  refine ⟨ω2, dx, dy, c2, W, σ, rel2, rx.mono l2.toLo, ry, ?_⟩
  unfold chnK at p2
  cases h : cmpD o dx dy c2 with
  | stuck => rw [h] at p2; exact p2
  | exc x c => exact (cmpD_ne h).elim
  | ok d c3 =>
    rw [h] at p2
    obtain ⟨rfl, b, rfl⟩ := cmpD_bl h
    intro ω3 v H3 l3 rel3 r3
    cases r3
    refine ⟨b, rfl, ?_⟩
    cases b with
    | false =>
      rw [if_neg (by decide)]
      exact ⟨false, rfl, p2 ω3 _ H3 l3 rel3 rfl⟩
    | true =>
      rw [if_pos rfl]
      have e4 : bnd (bnd (fc sl c3) fun z c => cmpD o' dy z c) truD = bnd (fc sl c3) fun z c => bnd (cmpD o' dy z c) truD := by cases fc sl c3 <;> rfl
      have p3 : Post X.K X.mg (fun _ a b => a = b) ω3 W σ (bnd (fc sl c3) fun z c => bnd (cmpD o' dy z c) truD) Q := by rw [← e4]; exact Post.le p2 l3
      refine (post_bind (sr2.mono l3.toLo) rel3 p3).mono fun z H4 ⟨ω4, c4, dz, l4, sr4, rel4, rz, p4⟩ => ⟨ω4, dy, dz, c4, W, σ, rel4, (ry.mono l3.toLo).mono l4.toLo, rz, ?_⟩
      cases h5 : cmpD o' dy dz c4 with
      | stuck => rw [h5] at p4; exact p4
      | exc x c => exact (cmpD_ne h5).elim
      | ok d5 c5 =>
        rw [h5] at p4
        obtain ⟨rfl, b5, rfl⟩ := cmpD_bl h5
        intro ω6 v6 H6 l6 rel6 r6
        cases r6
        exact ⟨b5, rfl, p4 ω6 b5 H6 l6 rel6 rfl⟩
/-! ### and, or, not, if -/
theorem snd_and {rest : List Expr} (ha : PE X ea (liftE X.K X.mg W fa)) (hb : PE X (.BoolOp .And (eb :: rest) pos) (liftE X.K X.mg W fb)) : PE X (.BoolOp .And (ea :: eb :: rest) pos) (liftE X.K X.mg W fun sl c => bnd (fa sl c) fun x c => andK x (fb sl) c) :=
  (pe_and ha hb).weak fun σ H Q ⟨ω, sl, c, sr, rel, p⟩ => (post_bind sr rel p).mono fun x H1 ⟨ω1, c1, dx, l1, sr1, rel1, rx, p1⟩ => by
    unfold andK at p1
    split at p1
    · cases rx
      exact ⟨true, rfl, by rw [if_pos rfl]; exact ⟨ω1, sl, c1, sr1, rel1, p1⟩⟩
    · cases rx
      exact ⟨false, rfl, by rw [if_neg (by decide)]; exact p1.ok_of rel1 (.bl _)⟩
    · exact p1.elim
theorem snd_or {rest : List Expr} (ha : PE X ea (liftE X.K X.mg W fa)) (hb : PE X (.BoolOp .Or (eb :: rest) pos) (liftE X.K X.mg W fb)) : PE X (.BoolOp .Or (ea :: eb :: rest) pos) (liftE X.K X.mg W fun sl c => bnd (fa sl c) fun x c => orK x (fb sl) c) :=
  (pe_or ha hb).weak fun σ H Q ⟨ω, sl, c, sr, rel, p⟩ => (post_bind sr rel p).mono fun x H1 ⟨ω1, c1, dx, l1, sr1, rel1, rx, p1⟩ => by
    unfold orK at p1
    split at p1
    · cases rx
      exact ⟨false, rfl, by rw [if_neg (by decide)]; exact ⟨ω1, sl, c1, sr1, rel1, p1⟩⟩
    · cases rx
      exact ⟨true, rfl, by rw [if_pos rfl]; exact p1.ok_of rel1 (.bl _)⟩
    · exact p1.elim
theorem snd_not (ha : PE X ea (liftE X.K X.mg W fa)) : PE X (.UnaryOp .Not ea pos) (liftE X.K X.mg W fun sl c => bnd (fa sl c) notK) :=
  (pe_not ha).weak fun σ H Q ⟨ω, sl, c, sr, rel, p⟩ => (post_bind sr rel p).mono fun x H1 ⟨ω1, c1, dx, l1, sr1, rel1, rx, p1⟩ => by
    unfold notK at p1
    split at p1
    · cases rx
      exact ⟨_, rfl, p1.ok_of rel1 (.bl _)⟩
    · exact p1.elim
theorem snd_ifx {ft : Sl → Ct → Res Bool} (ht : PT X ec (liftT X.K X.mg W ft)) (ha : PE X ea (liftE X.K X.mg W fa)) (hb : PE X eb (liftE X.K X.mg W fb)) : PE X (.IfExp ec ea eb pos) (liftE X.K X.mg W fun sl c => bnd (ft sl c) fun k c => ifK k (fa sl) (fb sl) c) :=
  (pe_ifExp ht ha hb).weak fun σ H Q ⟨ω, sl, c, sr, rel, p⟩ => (post_bind sr rel p).mono fun x H1 ⟨ω1, c1, dx, l1, sr1, rel1, rx, p1⟩ => by
    subst rx
    unfold ifK at p1
    cases dx with
    | true => rw [if_pos rfl] at p1 ⊢; exact ⟨ω1, sl, c1, sr1, rel1, p1⟩
    | false => rw [if_neg (by decide)] at p1 ⊢; exact ⟨ω1, sl, c1, sr1, rel1, p1⟩
/-! ### tests -/
theorem tru_of {ω : Wd} {c : Ct} {H : Hp} {d : D} {x : V} {b : Bool} {c' : Ct} {K : PySem.W.Frag} {mg : Str → Option Value} (rel : Rel K mg ω c H) (r : R K mg ω d x) (e : truD d c = .ok b c') : c' = c ∧ TruV K x H b := by
  have emp : ∀ {xs : List D} {vs : List V}, Rs K mg ω xs vs → (!xs.isEmpty) = !vs.isEmpty := fun h => by cases h <;> rfl
  have go : ∀ {xs : List D}, itsD d c = some xs → TruV K x H (!xs.isEmpty) := fun {xs} hx => by
    obtain ⟨a, vs, rfl, rs, h⟩ := its_of rel r hx
    rw [emp rs]
    rcases h with ⟨_, h⟩ | ⟨_, h, _⟩
    · exact .inl ⟨vs, h, rfl⟩
    · exact .inr (.inl ⟨vs, h, rfl⟩)
  cases d with
  | non => cases e; cases r; exact ⟨rfl, rfl⟩
  | bl k => cases e; cases r; exact ⟨rfl, rfl⟩
  | int k => cases e; cases r; exact ⟨rfl, rfl⟩
  | lst xs => cases e; exact ⟨rfl, go rfl⟩
  | tup xs => cases e; exact ⟨rfl, go rfl⟩
  | ref n =>
    dsimp only [truD] at e
    cases hc : c[n]? with
    | none => rw [hc] at e; cases e
    | some u =>
      rw [hc] at e
      cases u with
      | lst xs => cases e; exact ⟨rfl, go (by dsimp only [itsD]; rw [hc])⟩
      | dead => cases e
      | ins _ _ => cases e
      | dct _ => cases e
  | str _ => cases e
  | ty _ => cases e
  | ins _ _ => cases e
  | dct _ => cases e
  | glo _ => cases e
theorem pt_tru (ha : PE X ea (liftE X.K X.mg W fa)) (hp : plainT ea = true) : PT X ea (liftT X.K X.mg W fun sl c => bnd (fa sl c) truD) := by
  have he : ∀ whole, isTrue ea X.env whole = (do let v ← whole; standAt ea.pos; holding [v] (truthy v)) := fun whole => by
    cases ea <;> first | rfl | (cases hp; done) | (rename_i op _ _; cases op <;> first | rfl | cases hp)
  refine (pt_truth ha he).weak fun σ H Q ⟨ω, sl, c, sr, rel, p⟩ => (post_bind sr rel p).mono fun x H1 ⟨ω1, c1, dx, l1, sr1, rel1, rx, p1⟩ => ?_
  cases h : truD dx c1 with
  | stuck => rw [h] at p1; exact p1.elim
  | exc x c =>
    exfalso
    unfold truD at h
    split at h <;> first | (cases h; done) | (split at h <;> cases h)
  | ok b c2 =>
    rw [h] at p1
    obtain ⟨rfl, t⟩ := tru_of rel1 rx h
    exact ⟨b, t, p1.ok_of rel1 rfl⟩
theorem snd_andT {rest : List Expr} {ft fu : Sl → Ct → Res Bool} (ha : PT X ea (liftT X.K X.mg W ft)) (hb : PW X (.BoolOp .And (eb :: rest) pos) (liftT X.K X.mg W fu)) : PW X (.BoolOp .And (ea :: eb :: rest) pos) (liftT X.K X.mg W fun sl c => bnd (ft sl c) fun k c => if k = true then fu sl c else .ok false c) :=
  ⟨fun wh pins s σ H Q I ⟨ω, sl, c, sr, rel, p⟩ => (pw_and ha hb).run wh pins s σ H Q I ((post_bind sr rel p).mono fun x H1 ⟨ω1, c1, dx, l1, sr1, rel1, rx, p1⟩ => by
    subst rx
    cases dx with
    | true => rw [if_pos rfl] at p1 ⊢; exact ⟨ω1, sl, c1, sr1, rel1, p1⟩
    | false => rw [if_neg (by decide)] at p1 ⊢; exact p1.ok_of rel1 rfl)⟩
theorem snd_orT {rest : List Expr} {ft fu : Sl → Ct → Res Bool} (ha : PT X ea (liftT X.K X.mg W ft)) (hb : PW X (.BoolOp .Or (eb :: rest) pos) (liftT X.K X.mg W fu)) : PW X (.BoolOp .Or (ea :: eb :: rest) pos) (liftT X.K X.mg W fun sl c => bnd (ft sl c) fun k c => if k = true then .ok true c else fu sl c) :=
  ⟨fun wh pins s σ H Q I ⟨ω, sl, c, sr, rel, p⟩ => (pw_or ha hb).run wh pins s σ H Q I ((post_bind sr rel p).mono fun x H1 ⟨ω1, c1, dx, l1, sr1, rel1, rx, p1⟩ => by
    subst rx
    cases dx with
    | true => rw [if_pos rfl] at p1 ⊢; exact p1.ok_of rel1 rfl
    | false => rw [if_neg (by decide)] at p1 ⊢; exact ⟨ω1, sl, c1, sr1, rel1, p1⟩)⟩
theorem snd_notT {ft : Sl → Ct → Res Bool} (ha : PT X ea (liftT X.K X.mg W ft)) : PT X (.UnaryOp .Not ea pos) (liftT X.K X.mg W fun sl c => bnd (ft sl c) fun k c => .ok (!k) c) :=
  (pt_not ha).weak fun σ H Q ⟨ω, sl, c, sr, rel, p⟩ => (post_bind sr rel p).mono fun x H1 ⟨ω1, c1, dx, l1, sr1, rel1, rx, p1⟩ => by
    subst rx
    exact p1.ok_of rel1 rfl
/-! ### lists of arguments, displays -/
theorem snd_nil : PA X [] (liftA X.K X.mg W fun _ c => .ok [] c) := pa_nil.weak fun σ H Q ⟨ω, sl, c, sr, rel, p⟩ => p.ok_of rel .nil
theorem snd_cons {es : List Expr} {fr : Sl → Ct → Res (List D)} (hn : notStarB ea = true) (ha : PE X ea (liftE X.K X.mg W fa)) (hr : PA X es (liftA X.K X.mg W fr)) : PA X (ea :: es) (liftA X.K X.mg W fun sl c => bnd (fa sl c) fun x c => bnd (fr sl c) fun xs c => .ok (x :: xs) c) :=
  (pa_cons ha hr (star_ns hn _ _)).weak fun σ H Q ⟨ω, sl, c, sr, rel, p⟩ => (post_bind sr rel p).mono fun x H1 ⟨ω1, c1, dx, l1, sr1, rel1, rx, p1⟩ => (post_bind sr1 rel1 p1).mono fun xs H2 ⟨ω2, c2, ds, l2, sr2, rel2, rs, p2⟩ => p2.ok_of rel2 (.cons (rx.mono l2.toLo) rs)
theorem _root_.L2.PK.weak {kws : List Keyword} {t t' : TA} (h : PK X kws t) (k : ∀ σ H Q, t' σ H Q → t σ H Q) : PK X kws t' := ⟨fun pos pins s σ H Q I q => h.run pos pins s σ H Q I (k _ _ _ q)⟩
theorem snd_knil : PK X [] (liftA X.K X.mg W fun _ c => .ok [] c) := PK.weak pk_nil fun σ H Q ⟨ω, sl, c, sr, rel, p⟩ => p.ok_of rel .nil
theorem snd_kcons {nm : Option Str} {kpos : Pos} {kws : List Keyword} {fr : Sl → Ct → Res (List D)} (ha : PE X ea (liftE X.K X.mg W fa)) (hr : PK X kws (liftA X.K X.mg W fr)) : PK X (⟨nm, ea, kpos⟩ :: kws) (liftA X.K X.mg W fun sl c => bnd (fa sl c) fun x c => bnd (fr sl c) fun xs c => .ok (x :: xs) c) :=
  PK.weak (pk_cons ha hr) fun σ H Q ⟨ω, sl, c, sr, rel, p⟩ => (post_bind sr rel p).mono fun x H1 ⟨ω1, c1, dx, l1, sr1, rel1, rx, p1⟩ => (post_bind sr1 rel1 p1).mono fun xs H2 ⟨ω2, c2, ds, l2, sr2, rel2, rs, p2⟩ => p2.ok_of rel2 (.cons (rx.mono l2.toLo) rs)
theorem snd_tup {x1 : Nat} {es : List Expr} {fr : Sl → Ct → Res (List D)} (hr : PA X es (liftA X.K X.mg W fr)) : PE X (.Tuple es x1 pos) (liftE X.K X.mg W fun sl c => bnd (fr sl c) tupK) :=
  (pe_tup hr).weak fun σ H Q ⟨ω, sl, c, sr, rel, p⟩ => (post_bind sr rel p).mono fun xs H1 ⟨ω1, c1, ds, l1, sr1, rel1, rs, p1⟩ => by
    unfold tupK at p1
    by_cases hz : ds.length ≤ 1000
    · rw [if_pos hz] at p1
      exact ⟨by rw [← rs.length]; exact Nat.le_trans hz (by decide), new_tup rel1 rs p1⟩
    · rw [if_neg hz] at p1; exact p1.elim
theorem snd_lst {mu : Bool} {es : List Expr} {fr : Sl → Ct → Res (List D)} (hr : PA X es (liftA X.K X.mg W fr)) : PE X (.List es pos) (liftE X.K X.mg W fun sl c => bnd (fr sl c) (lstK mu)) :=
  (pe_lst hr).weak fun σ H Q ⟨ω, sl, c, sr, rel, p⟩ => (post_bind sr rel p).mono fun xs H1 ⟨ω1, c1, ds, l1, sr1, rel1, rs, p1⟩ => by
    unfold lstK at p1
    by_cases hz : ds.length ≤ 1000
    · rw [if_pos hz] at p1
      refine ⟨by rw [← rs.length]; exact Nat.le_trans hz (by decide), ?_⟩
      cases mu with
      | true => rw [if_pos rfl] at p1; exact new_cell rel1 rs p1
      | false => rw [if_neg (by decide)] at p1; exact new_lst rel1 rs p1
    · rw [if_neg hz] at p1; exact p1.elim
theorem plain_ix {b : Expr} (h : isSliceB b = false) : PlainIx b := fun _ _ => by
  cases b <;> first | rfl | cases h
theorem snd_idx (hs : isSliceB eb = false) (ha : PE X ea (liftE X.K X.mg W fa)) (hb : PE X eb (liftE X.K X.mg W fb)) : PE X (.Subscript ea eb pos) (liftE X.K X.mg W fun sl c => bnd (fa sl c) fun x c => bnd (fb sl c) fun y c => idxD x y c) :=
  (pe_ix ix_D ha hb (plain_ix hs)).weak fun σ H Q ⟨ω, sl, c, sr, rel, p⟩ => (post_bind sr rel p).mono fun x H1 ⟨ω1, c1, dx, l1, sr1, rel1, rx, p1⟩ => (post_bind sr1 rel1 p1).mono fun y H2 ⟨ω2, c2, dy, l2, sr2, rel2, ry, p2⟩ =>
    ⟨ω2, dx, dy, c2, W, σ, rel2, rx.mono l2.toLo, ry, p2⟩
theorem snd_frz {k : Nat} (ha : PE X ea (liftE X.K X.mg W fa)) : PE X ea (liftE X.K X.mg W fun sl c => bnd (fa sl c) (frzK k)) :=
  ha.weak fun σ H Q ⟨ω, sl, c, sr, rel, p⟩ => (post_bind sr rel p).mono fun x H1 ⟨ω1, c1, dx, l1, sr1, rel1, rx, p1⟩ => by
    unfold frzK at p1
    cases h : frzD k dx c1 with
    | none => rw [h] at p1; exact p1.elim
    | some q =>
      obtain ⟨y, c2⟩ := q
      rw [h] at p1
      obtain ⟨ω2, l2, rel2, r2⟩ := frz_ok k dx c1 y c2 h ω1 H1 x rel1 rx
      exact p1.ok_le l2 rel2 r2
end

/-! ### names, constants, built-ins, calls, walks -/
section
variable {G : GE} {call : CallF} {k : Nat} {X : Cx} {Γ : SE} {W : WX} {pos : Pos}
theorem okName_d {x : Str} (h : okName x = true) : (x == ("__debug__" : Str)) = false ∧ (x == ("__classdict__" : Str)) = false ∧ x ≠ "__name__" := by
  unfold okName at h
  simp only [Bool.and_eq_true, Bool.not_eq_true', decide_eq_false_iff_not] at h
  exact ⟨h.1.1, h.1.2, h.2⟩
theorem snd_var (E : EOk G call k X Γ W) {i : Nat} {x : Str} (h1 : Γ.N[i]? = some x) (h2 : visB Γ.sc x = true) (h3 : okName x = true) : PE X (.Name x pos) (liftE X.K X.mg W fun sl c => varK sl[i]? c) := by
  obtain ⟨e1, e2, e3⟩ := okName_d h3
  have hv : Vis X.env.scope x := by
    rw [E.sc]
    unfold visB at h2
    simp only [Bool.or_eq_true, kindB_iff] at h2
    rcases h2 with (h | h) | h
    · exact .inl h
    · exact .inr (.inl h)
    · exact .inr (.inr h)
  refine (pe_var (i := i) (by rw [E.N]; exact h1) hv e1 e2).weak fun σ H Q ⟨ω, sl, c, sr, rel, p⟩ => ?_
  dsimp only at p
  unfold varK at p
  cases h : sl[i]? with
  | none => rw [h] at p; exact p.elim
  | some o =>
    cases o with
    | none => rw [h] at p; exact p.elim
    | some d =>
      rw [h] at p
      obtain ⟨v, hv, r⟩ := sr.get i d h
      exact ⟨v, hv, p.ok_of rel r⟩
theorem snd_cst {q : Cst} {v : Const} {j : Nat} (h : cstB q v = true) : PE X (.Constant v j pos) (liftE X.K X.mg W fun _ c => .ok q.d c) := by
  unfold cstB at h
  split at h
  · exact pe_non.weak fun σ H Q ⟨ω, sl, c, sr, rel, p⟩ => p.ok_of rel .non
  · simp only [beq_iff_eq] at h
    subst h
    exact pe_bl.weak fun σ H Q ⟨ω, sl, c, sr, rel, p⟩ => p.ok_of rel (.bl _)
  · simp only [decide_eq_true_eq] at h
    subst h
    exact pe_int.weak fun σ H Q ⟨ω, sl, c, sr, rel, p⟩ => p.ok_of rel (.int _)
  · simp only [decide_eq_true_eq] at h
    subst h
    exact pe_str.weak fun σ H Q ⟨ω, sl, c, sr, rel, p⟩ => p.ok_of rel (.str _)
  · cases h
theorem snd_neg {n m : Int} {j : Nat} {pos' : Pos} (h : n = -m) : PE X (.UnaryOp .USub (.Constant (.int m) j pos') pos) (liftE X.K X.mg W fun _ c => .ok (.int n) c) :=
  (pe_un un_neg pe_int).weak fun σ H Q ⟨ω, sl, c, sr, rel, p⟩ => ⟨m, rfl, by show Q (.int (-m)) H; rw [← h]; exact p.ok_of rel (.int _)⟩
theorem boot_ty : ∀ n ∈ tyNames, bootBuiltins (Str.ofString n) = some (.type n) := by decide +kernel
theorem snd_typ (E : EOk G call k X Γ W) {n : String} {x : Str} (h0 : x = Str.ofString n) (h1 : n ∈ tyNames) (h2 : kindB Γ.sc x .globalImplicit = true) (h3 : okName x = true) : PE X (.Name x pos) (liftE X.K X.mg W fun _ c => .ok (.ty n) c) := by
  obtain ⟨e1, e2, e3⟩ := okName_d h3
  have hg : Gl X x := by
    show X.env.scope.names.lookup x = _
    rw [E.sc]
    exact kindB_iff.mp h2
  subst h0
  exact (pe_bltn (v := .ty n) hg (E.g.ty n h1) (boot_ty n h1) rfl e3 e1).weak fun σ H Q ⟨ω, sl, c, sr, rel, p⟩ => p.ok_of rel (.ty n)
theorem boot_blt (f : Blt) : bootBuiltins (bltName f) = some (bltVal f) := by
  cases f <;> decide +kernel
theorem snd_blt (E : EOk G call k X Γ W) {f : Blt} {x : Str} {p0 : Pos} {xs : List Expr} {fr : Sl → Ct → Res (List D)} (h0 : x = bltName f) (h1 : kindB Γ.sc x .globalImplicit = true) (hne : xs.isEmpty = false) (hns : xs.all notStarB = true) (hr : PA X xs (liftA X.K X.mg W fr)) :
    PE X (.Call (.Name x p0) xs [] pos) (liftE X.K X.mg W fun sl c => bnd (fr sl c) fun ds c => bltD f ds c) := by
  have hg : Gl X x := by
    show X.env.scope.names.lookup x = _
    rw [E.sc]
    exact kindB_iff.mp h1
  subst h0
  cases xs with
  | nil => cases hne
  | cons e es =>
    rw [List.all_cons, Bool.and_eq_true] at hns
    have hm := E.g.blt f
    have hv := boot_blt f
    have hn : bltName f ≠ "__name__" := by cases f <;> decide
    have hd : (bltName f == ("__debug__" : Str)) = false := by cases f <;> decide
    have hc := blt_call (X := X) E.calm f
    have fin : ∀ σ H Q, liftE X.K X.mg W (fun sl c => bnd (fr sl c) fun ds c => bltD f ds c) σ H Q → tCB (rAr X.K X.mg (bltD f)) (liftA X.K X.mg W fr) σ H Q := fun σ H Q ⟨ω, sl, c, sr, rel, p⟩ =>
      (post_bind sr rel p).mono fun xs H1 ⟨ω1, c1, ds, l1, sr1, rel1, rs, p1⟩ => ⟨ω1, ds, c1, W, σ, rel1, rs, p1⟩
    cases hf : bltVal f with
    | builtin id =>
      rw [hf] at hv hc
      exact (pe_callB hc hg hm hv hr hn hd (star_ns hns.1 _ _) (back_ns hns.2)).weak fin
    | type T =>
      rw [hf] at hv hc
      exact (pe_callTy hc hg hm hv hr hn hd (star_ns hns.1 _ _) (back_ns hns.2)).weak fin
    | _ => cases f <;> cases hf
theorem chkA_all : ∀ {es : IEs} {xs : List Expr}, chkA G Γ es xs = true → xs.all notStarB = true
  | .nil, [], _ => rfl
  | .nil, _ :: _, h => by cases h
  | .cons _ _, [], h => by cases h
  | .cons e es, x :: xs, h => by
    rw [chkA] at h
    simp only [Bool.and_eq_true] at h
    rw [List.all_cons, h.1.1, chkA_all h.2]; rfl
theorem chkA_len : ∀ {es : IEs} {xs : List Expr}, chkA G Γ es xs = true → ∀ {sl : Sl} {c c' : Ct} {ds : List D}, evA call es sl c = .ok ds c' → ds.length = xs.length
  | .nil, [], _, sl, c, c', ds, e => by rw [evA] at e; cases e; rfl
  | .nil, _ :: _, h, _, _, _, _, _ => by cases h
  | .cons _ _, [], h, _, _, _, _, _ => by cases h
  | .cons e es, x :: xs, h, sl, c, c', ds, q => by
    rw [chkA] at h
    simp only [Bool.and_eq_true] at h
    rw [evA] at q
    cases e1 : evM call false e sl c with
    | stuck => rw [e1] at q; cases q
    | exc _ _ => rw [e1] at q; cases q
    | ok d c1 =>
      rw [e1] at q
      simp only [bnd_ok] at q
      cases e2 : evA call es sl c1 with
      | stuck => rw [e2] at q; cases q
      | exc _ _ => rw [e2] at q; cases q
      | ok r c2 =>
        rw [e2] at q
        cases q
        simp [chkA_len h.2 e2]
theorem chkK_len : ∀ {es : IEs} {ks : List Str} {xs : List Keyword}, chkK G Γ es ks xs = true → ∀ {sl : Sl} {c c' : Ct} {ds : List D}, evA call es sl c = .ok ds c' → ds.length = ks.length
  | .nil, ks, xs, h, sl, c, c', ds, e => by
    rw [evA] at e
    cases e
    cases ks with
    | nil => rfl
    | cons _ _ => cases h
  | .cons _ _, [], _, h, _, _, _, _, _ => by cases h
  | .cons _ _, _ :: _, [], h, _, _, _, _, _ => by cases h
  | .cons e es, k :: ks, ⟨nm, x, _⟩ :: xs, h, sl, c, c', ds, q => by
    rw [chkK] at h
    simp only [Bool.and_eq_true] at h
    rw [evA] at q
    cases e1 : evM call false e sl c with
    | stuck => rw [e1] at q; cases q
    | exc _ _ => rw [e1] at q; cases q
    | ok d c1 =>
      rw [e1] at q
      simp only [bnd_ok] at q
      cases e2 : evA call es sl c1 with
      | stuck => rw [e2] at q; cases q
      | exc _ _ => rw [e2] at q; cases q
      | ok r c2 =>
        rw [e2] at q
        cases q
        simp [chkK_len h.2 e2]
theorem snd_call (E : EOk G call k X Γ W) {f : Nat} {x : Str} {ks : List Str} {src : List Src} {p0 : Pos} {xs : List Expr} {kws : List Keyword} {es kes : IEs} (h0 : G.names[f]? = some x) (h1 : kindB Γ.sc x .globalImplicit = true) (h2 : okName x = true) (h3 : (f, xs.length, ks, src) ∈ G.shapes)
    (h4 : chkA G Γ es xs = true) (h5 : chkK G Γ kes ks kws = true) (ha : PA X xs (liftA X.K X.mg W (evA call es))) (hk : PK X kws (liftA X.K X.mg W (evA call kes))) :
    PE X (.Call (.Name x p0) xs kws pos) (liftE X.K X.mg W fun sl c => bnd (evA call es sl c) fun ds c => bnd (evA call kes sl c) fun zs c => callK call f src ds zs c) := by
  obtain ⟨e1, e2, e3⟩ := okName_d h2
  have hg : Gl X x := by
    show X.env.scope.names.lookup x = _
    rw [E.sc]
    exact kindB_iff.mp h1
  obtain ⟨x', a, fd, ps, q0, q1, q2, q3, q4⟩ := E.g.fn _ _ _ _ h3
  rw [h0] at q0
  cases q0
  have hns := chkA_all h4
  have hkw := kw_all (env := X.env) (pos := pos) h5
  have fin : ∀ σ H Q, liftE X.K X.mg W (fun sl c => bnd (evA call es sl c) fun ds c => bnd (evA call kes sl c) fun zs c => callK call f src ds zs c) σ H Q → tCallG (spC X.K X.mg call f ps.length) xs.length ks.length src W (liftA X.K X.mg W (evA call es)) (liftA X.K X.mg W (evA call kes)) σ H Q := fun σ H Q ⟨ω, sl, c, sr, rel, p⟩ => by
    refine ⟨ω, sl, c, sr, rel, ?_⟩
    dsimp only at p
    cases v1 : evA call es sl c with
    | stuck => rw [v1] at p; exact p.elim
    | exc _ _ => rw [v1] at p; exact p
    | ok ds c1 =>
      rw [v1] at p
      simp only [bnd_ok] at p
      intro ω1 vs H1 l1 rel1 rs1
      refine ⟨ω1, sl, c1, sr.mono l1.toLo, rel1, ?_⟩
      cases v2 : evA call kes sl c1 with
      | stuck => rw [v2] at p; exact p.elim
      | exc _ _ => rw [v2] at p; exact Post.le p l1
      | ok zs c2 =>
        rw [v2] at p
        simp only [bnd_ok] at p
        intro ω2 us H2 l2 rel2 rs2
        unfold callK at p
        cases v3 : arrD Cst.d (ds ++ zs) src with
        | none => rw [v3] at p; exact p.elim
        | some as =>
          rw [v3] at p
          obtain ⟨ys, e4, r4⟩ := arr_rs (Rs.append (rs1.mono l2.toLo) rs2) v3
          refine ⟨ys, by rw [← rs1.length]; exact chkA_len h4 v1, by rw [← rs2.length]; exact chkK_len h5 v2, e4, ?_, ω2, c2, as, rel2, r4, ?_⟩
          · rw [arr_len e4, q4.len]
          · have p : Post X.K X.mg (R X.K X.mg) ω2 W σ (call f as c2) Q := Post.le p (l1.trans l2)
            cases v4 : call f as c2 with
            | stuck => rw [v4] at p; exact p.elim
            | exc _ _ => rw [v4] at p; exact p
            | ok _ _ => rw [v4] at p; exact p
  cases xs with
  | cons e es' => exact (pe_callG q3 E.room hg q1 q2 q4 E.takes ha hk hns hkw e1).weak fin
  | nil =>
    refine (pe_callG0 q3 E.room hg q1 q2 q4 E.takes hk hkw e1).weak fun σ H Q hh => ?_
    have hh := fin σ H Q hh
    obtain ⟨ω, sl, c, sr, rel, p⟩ := hh
    have hz : evA call es sl c = .ok [] c := by
      cases es with
      | nil => rw [evA]
      | cons _ _ => cases h4
    rw [hz] at p
    exact p.ok_of rel .nil
abbrev liftO (K : PySem.W.Frag) (mg : Str → Option Value) (W : WX) (f : Sl → Ct → Res (Option Int)) : TO := lift K mg (fun _ a o => a = o) W f
theorem snd_slc {ea : Expr} {lo hi : Option Expr} {p2 : Pos} {fa : Sl → Ct → Res D} {fl fh : Sl → Ct → Res (Option Int)} (ha : PE X ea (liftE X.K X.mg W fa)) (hl : PO X lo (liftO X.K X.mg W fl)) (hh : PO X hi (liftO X.K X.mg W fh)) :
    PE X (.Subscript ea (.Slice lo hi none p2) pos) (liftE X.K X.mg W fun sl c => bnd (fa sl c) fun x c => bnd (fl sl c) fun l c => bnd (fh sl c) fun h c => slcD x l h c) :=
  (pe_slice sl_D ha hl hh).weak fun σ H Q ⟨ω, sl, c, sr, rel, p⟩ => (post_bind sr rel p).mono fun x H1 ⟨ω1, c1, dx, l1, sr1, rel1, rx, p1⟩ =>
    (post_bind (ρ := fun _ a o => a = o) sr1 rel1 p1).mono fun lo H2 ⟨ω2, c2, dl, l2, sr2, rel2, rl, p2⟩ => (post_bind (ρ := fun _ a o => a = o) sr2 rel2 p2).mono fun hi H3 ⟨ω3, c3, dh, l3, sr3, rel3, rh, p3⟩ => by
      subst rl rh
      exact ⟨ω3, dx, c3, W, σ, rel3, rx.mono (l2.toLo.trans l3.toLo), p3⟩
theorem po_lift {e : Expr} {fa : Sl → Ct → Res D} (ha : PE X e (liftE X.K X.mg W fa)) : PO X (some e) (liftO X.K X.mg W fun sl c => bnd (fa sl c) intO) :=
  ⟨fun pins s σ H Q I ⟨ω, sl, c, sr, rel, p⟩ => (po_some ha).run pins s σ H Q I ((post_bind sr rel p).mono fun x H1 ⟨ω1, c1, dx, l1, sr1, rel1, rx, p1⟩ => by
    unfold intO at p1
    split at p1
    · cases rx; exact ⟨_, rfl, p1.ok_of rel1 rfl⟩
    · exact p1.elim)⟩
theorem po_hole : PO X none (liftO X.K X.mg W fun _ c => .ok none c) := ⟨fun pins s σ H Q I ⟨ω, sl, c, sr, rel, p⟩ => po_none.run pins s σ H Q I (p.ok_of rel rfl)⟩

/-! ### all together -/
theorem lift.conv {α β : Type} {K : PySem.W.Frag} {mg : Str → Option Value} {ρ : Wd → α → β → Prop} {f g : Sl → Ct → Res α} {σ : L2.St} {H : Hp} {Q : β → Hp → Prop} (e : ∀ sl c, g sl c = f sl c) (h : lift K mg ρ W g σ H Q) : lift K mg ρ W f σ H Q := by
  obtain ⟨ω, sl, c, sr, rel, p⟩ := h
  exact ⟨ω, sl, c, sr, rel, by rw [← e]; exact p⟩
theorem PEc {e : Expr} {f g : Sl → Ct → Res D} (h : PE X e (liftE X.K X.mg W f)) (q : ∀ sl c, g sl c = f sl c) : PE X e (liftE X.K X.mg W g) := h.weak fun _ _ _ => lift.conv q
theorem PTc {e : Expr} {f g : Sl → Ct → Res Bool} (h : PT X e (liftT X.K X.mg W f)) (q : ∀ sl c, g sl c = f sl c) : PT X e (liftT X.K X.mg W g) := h.weak fun _ _ _ => lift.conv q
theorem PWc {e : Expr} {f g : Sl → Ct → Res Bool} (h : PW X e (liftT X.K X.mg W f)) (q : ∀ sl c, g sl c = f sl c) : PW X e (liftT X.K X.mg W g) := ⟨fun wh pins s σ H Q I hw => h.run wh pins s σ H Q I (lift.conv q hw)⟩
theorem PAc {e : List Expr} {f g : Sl → Ct → Res (List D)} (h : PA X e (liftA X.K X.mg W f)) (q : ∀ sl c, g sl c = f sl c) : PA X e (liftA X.K X.mg W g) := h.weak fun _ _ _ => lift.conv q
theorem PKc {e : List Keyword} {f g : Sl → Ct → Res (List D)} (h : PK X e (liftA X.K X.mg W f)) (q : ∀ sl c, g sl c = f sl c) : PK X e (liftA X.K X.mg W g) := PK.weak h fun _ _ _ => lift.conv q
theorem PIc {tg e : Expr} {f g : Sl → Ct → Res (List D)} (h : PI X tg e (liftI X.K X.mg W f)) (q : ∀ sl c, g sl c = f sl c) : PI X tg e (liftI X.K X.mg W g) := h.weak fun _ _ _ => lift.conv q
theorem fold_ns {e : Expr} (h : isSetB e = false) (env : Env) (x : Value) : foldedSetIterable e env x = pure x := by
  cases e <;> first | rfl | cases h
theorem EOk.blk (E : EOk G call k X Γ W) {s : Shared} {H : Hp} {scope : Scope} (hk : scope.kind = .function) {C : Addr} {cl : List (Str × Addr)} {fp : List Addr} : EOk G call k (X.blk s H scope (compEnvC scope cl C X.env) fp) (Γ.blk scope) noW where
  g := E.g
  N := E.N
  nd := E.nd
  sc := by
    show relS scope X.env.scope = relS scope Γ.sc
    rw [E.sc]
  calm := E.calm
  two := E.two
  kind := hk
  fn := fun x h => h
  room := E.room
  takes := takes0
  own := PassesOwn.never
theorem pw_single {o : BoolOp} {e : Expr} {t : TT} (h : PT X e t) : PW X (.BoolOp o [e] pos) t := by
  cases o
  · exact pw_and1 h
  · exact pw_or1 h
theorem snd_rng1 (E : EOk G call k X Γ W) {tg y : Expr} {x : Str} {p0 : Pos} {fa : Sl → Ct → Res D} (h0 : x = "range") (h1 : kindB Γ.sc x .globalImplicit = true) (hn : notStarB y = true) (ha : PE X y (liftE X.K X.mg W fa)) : PI X tg (.Call (.Name x p0) [y] [] pos) (liftI X.K X.mg W fun sl c => bnd (fa sl c) rng1K) := by
  have hg : Gl X x := by
    show X.env.scope.names.lookup x = _
    rw [E.sc]
    exact kindB_iff.mp h1
  subst h0
  refine (pi_range1 hg E.g.rng (pa_cons ha pa_nil (star_ns hn _ _)) (star_ns hn _ _)).weak fun σ H Q ⟨ω, sl, c, sr, rel, p⟩ => (post_bind sr rel p).mono fun x H1 ⟨ω1, c1, dx, l1, sr1, rel1, rx, p1⟩ => ?_
  cases dx with
  | int j =>
    cases rx
    dsimp only [rng1K] at p1
    by_cases hs : small j
    · rw [if_pos hs] at p1
      exact ⟨j, rfl, hs.1, hs.2, p1.ok_of rel1 walks_rng⟩
    · rw [if_neg hs] at p1; exact p1.elim
  | _ => exact p1.elim
theorem snd_rng2 (E : EOk G call k X Γ W) {tg y z : Expr} {x : Str} {p0 : Pos} {fa fb : Sl → Ct → Res D} (h0 : x = "range") (h1 : kindB Γ.sc x .globalImplicit = true) (hn : notStarB y = true) (hn' : notStarB z = true) (ha : PE X y (liftE X.K X.mg W fa)) (hb : PE X z (liftE X.K X.mg W fb)) :
    PI X tg (.Call (.Name x p0) [y, z] [] pos) (liftI X.K X.mg W fun sl c => bnd (fa sl c) fun x c => bnd (fb sl c) fun y c => rng2K x y c) := by
  have hg : Gl X x := by
    show X.env.scope.names.lookup x = _
    rw [E.sc]
    exact kindB_iff.mp h1
  subst h0
  refine PI.weak (pi_range2 hg E.g.rng (pa_cons ha (pa_cons hb pa_nil (star_ns hn' _ _)) (star_ns hn _ _)) (by rw [star_ns hn, star_ns hn']; rfl) (star_ns hn' _ _)) fun σ H Q ⟨ω, sl, c, sr, rel, p⟩ => (post_bind sr rel p).mono fun x H1 ⟨ω1, c1, dx, l1, sr1, rel1, rx, p1⟩ => (post_bind sr1 rel1 p1).mono fun y H2 ⟨ω2, c2, dy, l2, sr2, rel2, ry, p2⟩ => ?_
  cases dx with
  | int i =>
    cases dy with
    | int j =>
      cases rx
      cases ry
      dsimp only [rng2K] at p2
      by_cases hs : small i ∧ small j
      · rw [if_pos hs] at p2
        exact ⟨i, j, rfl, ⟨hs.1.1, hs.1.2, hs.2.1, hs.2.2⟩, p2.ok_of rel2 walks_rng⟩
      · rw [if_neg hs] at p2; exact p2.elim
    | _ => exact p2.elim
  | _ => exact p2.elim
/-- a value's expression as a test -/
theorem tstT {e : Expr} {f : Sl → Ct → Res D} (hp : plainT e = true) (h : PE X e (liftE X.K X.mg W f)) : PT X e (liftT X.K X.mg W fun sl c => bnd (tst true (f sl c)) bolK) :=
  PTc (pt_tru h hp) fun sl c => by
    show bnd (bnd (f sl c) truK) bolK = bnd (f sl c) truD
    cases f sl c with
    | stuck => rfl
    | exc _ _ => rfl
    | ok x c => 
      show bnd (truK x c) bolK = truD x c
      unfold truK
      cases truD x c <;> rfl
/-- what is shown of each: as a value, as a test -/
def Mode (X : Cx) (W : WX) (call : CallF) (tm : Bool) (i : IE) (e : Expr) : Prop :=
  match tm with
  | false => PE X e (liftE X.K X.mg W (evM call false i))
  | true => PT X e (liftT X.K X.mg W (evT call i)) ∧ (∀ o es p, e = .BoolOp o es p → PW X e (liftT X.K X.mg W (evT call i)))
theorem mode_of {tm : Bool} {i : IE} {e : Expr} {f : Sl → Ct → Res D} (hp : plainT e = true) (h : PE X e (liftE X.K X.mg W f)) (q : ∀ b sl c, evM call b i sl c = tst b (f sl c)) : Mode X W call tm i e := by
  cases tm with
  | false => exact PEc h fun sl c => q false sl c
  | true => exact ⟨PTc (tstT hp h) fun sl c => by unfold evT; rw [q], fun o es p z => by subst z; cases hp⟩
theorem bol_and {a b : Res D} {fb : Ct → Res D} : bnd (bnd a fun x c => andK x fb c) bolK = bnd (bnd a bolK) fun k c => if k = true then bnd (fb c) bolK else .ok false c := by
  cases a with
  | stuck => rfl
  | exc _ _ => rfl
  | ok x c => cases x with
    | bl b => cases b <;> rfl
    | _ => rfl
theorem bol_or {a b : Res D} {fb : Ct → Res D} : bnd (bnd a fun x c => orK x fb c) bolK = bnd (bnd a bolK) fun k c => if k = true then .ok true c else bnd (fb c) bolK := by
  cases a with
  | stuck => rfl
  | exc _ _ => rfl
  | ok x c => cases x with
    | bl b => cases b <;> rfl
    | _ => rfl
theorem bol_not {a : Res D} : bnd (bnd a notK) bolK = bnd (bnd a bolK) fun k c => .ok (!k) c := by
  cases a with
  | stuck => rfl
  | exc _ _ => rfl
  | ok x c => cases x <;> rfl
theorem tru_bl {f : Res D} (h : ∀ x c, f = .ok x c → ∃ b, x = .bl b) : bnd f truD = bnd f bolK := by
  cases f with
  | stuck => rfl
  | exc _ _ => rfl
  | ok x c =>
    obtain ⟨b, rfl⟩ := h x c rfl
    rfl
mutual
theorem snd_M : ∀ (i : IE) (tm : Bool) (Γ : SE) (X : Cx) (W : WX) (e : Expr), chkM G tm Γ i e = true → EOk G call k X Γ W → Mode X W call tm i e
  | .var i, tm, Γ, X, W, e, h, E => by
    cases e <;> first | (cases h; done) | skip
    simp only [chkM, Bool.and_eq_true, decide_eq_true_eq] at h
    exact mode_of rfl (snd_var E h.1.1 h.1.2 h.2) fun _ _ _ => rfl
  | .cst q, tm, Γ, X, W, e, h, E => by
    cases e <;> first | (cases h; done) | skip
    case Constant v j pos => exact mode_of rfl (snd_cst h) fun _ _ _ => rfl
    case UnaryOp op x pos =>
      cases op <;> first | (cases h; done) | skip
      cases x <;> first | (cases h; done) | skip
      rename_i v j pos'
      cases v <;> first | (cases h; done) | skip
      cases q <;> first | (cases h; done) | skip
      exact mode_of rfl (snd_neg (of_decide_eq_true h)) fun _ _ _ => rfl
  | .typ n, tm, Γ, X, W, e, h, E => by
    cases e <;> first | (cases h; done) | skip
    simp only [chkM, Bool.and_eq_true, decide_eq_true_eq] at h
    exact mode_of rfl (snd_typ E h.1.1.1 (by simpa using h.1.1.2) h.1.2 h.2) fun _ _ _ => rfl
  | .bin o a b, tm, Γ, X, W, e, h, E => by
    cases e <;> first | (cases h; done) | skip
    simp only [chkM, Bool.and_eq_true, decide_eq_true_eq] at h
    obtain ⟨⟨rfl, h1⟩, h2⟩ := h
    exact mode_of rfl (snd_bin (snd_M a false Γ X W _ h1 E) (snd_M b false Γ X W _ h2 E)) fun _ _ _ => rfl
  | .cmp o a b, tm, Γ, X, W, e, h, E => by
    cases e <;> first | (cases h; done) | skip
    rename_i ea ops es pos
    rcases ops with _ | ⟨op, _ | ⟨op', ops⟩⟩ <;> rcases es with _ | ⟨eb, _ | ⟨ec, es⟩⟩ <;> first | (cases h; done) | skip
    simp only [chkM, Bool.and_eq_true, decide_eq_true_eq, Bool.not_eq_true'] at h
    obtain ⟨⟨⟨rfl, h0⟩, h1⟩, h2⟩ := h
    cases tm with
    | false => exact snd_cmp h0 (snd_M a false Γ X W _ h1 E) (snd_M b false Γ X W _ h2 E)
    | true =>
      refine ⟨PTc (snd_cmpT h0 (snd_M a false Γ X W _ h1 E) (snd_M b false Γ X W _ h2 E)) fun sl c => (tru_bl fun x c' z => ?_).symm, fun o es p z => by cases z⟩
      rw [evM] at z
      cases v1 : evM call false a sl c with
      | stuck => rw [v1] at z; cases z
      | exc _ _ => rw [v1] at z; cases z
      | ok x1 c1 =>
        rw [v1] at z
        simp only [bnd_ok] at z
        cases v2 : evM call false b sl c1 with
        | stuck => rw [v2] at z; cases z
        | exc _ _ => rw [v2] at z; cases z
        | ok x2 c2 =>
          rw [v2] at z
          exact (cmpD_bl z).2
  | .chn o o' a b q, tm, Γ, X, W, e, h, E => by
    cases e <;> first | (cases h; done) | skip
    rename_i ea ops es pos
    rcases ops with _ | ⟨op, _ | ⟨op', _ | ⟨_, _⟩⟩⟩ <;> rcases es with _ | ⟨eb, _ | ⟨ec, _ | ⟨_, _⟩⟩⟩ <;> first | (cases h; done) | skip
    simp only [chkM, Bool.and_eq_true, decide_eq_true_eq, Bool.not_eq_true'] at h
    obtain ⟨⟨⟨⟨⟨⟨rfl, rfl⟩, h0⟩, h0'⟩, h1⟩, h2⟩, h3⟩ := h
    cases tm with
    | false => exact snd_chn h0 h0' (snd_M a false Γ X W _ h1 E) (snd_M b false Γ X W _ h2 E) (snd_M q false Γ X W _ h3 E)
    | true =>
      refine ⟨PTc (snd_chnT h0' (snd_M a false Γ X W _ h1 E) (snd_M b false Γ X W _ h2 E) (snd_M q false Γ X W _ h3 E)) fun sl c => (tru_bl fun x c' z => ?_).symm, fun o es p z => by cases z⟩
      rw [evM] at z
      cases v1 : evM call false a sl c with
      | stuck => rw [v1] at z; cases z
      | exc _ _ => rw [v1] at z; cases z
      | ok x1 c1 =>
        rw [v1] at z
        simp only [bnd_ok] at z
        cases v2 : evM call false b sl c1 with
        | stuck => rw [v2] at z; cases z
        | exc _ _ => rw [v2] at z; cases z
        | ok x2 c2 =>
          rw [v2] at z
          simp only [bnd_ok] at z
          unfold chnK at z
          cases v3 : cmpD o x1 x2 c2 with
          | stuck => rw [v3] at z; cases z
          | exc _ _ => rw [v3] at z; cases z
          | ok x3 c3 =>
            rw [v3] at z
            obtain ⟨rfl, b3, rfl⟩ := cmpD_bl v3
            cases b3 with
            | false => cases z; exact ⟨_, rfl⟩
            | true =>
              simp only [bnd_ok] at z
              cases v4 : evM call false q sl c3 with
              | stuck => rw [v4] at z; cases z
              | exc _ _ => rw [v4] at z; cases z
              | ok x4 c4 =>
                rw [v4] at z
                exact (cmpD_bl z).2
  | .and a b, tm, Γ, X, W, e, h, E => by
    cases e <;> first | (cases h; done) | skip
    rename_i op es pos
    cases op <;> rcases es with _ | ⟨x, _ | ⟨y, r⟩⟩ <;> first | (cases h; done) | skip
    simp only [chkM, Bool.and_eq_true] at h
    have ha := snd_M a tm Γ X W x h.1 E
    have hb := snd_M b tm Γ X W _ h.2 E
    cases tm with
    | false =>
      refine PEc (snd_and ha (fb := evM call false b) ?_) fun _ _ => rfl
      cases r with
      | nil => exact pe_one hb
      | cons z r => exact hb
    | true =>
      have hw : PW X (.BoolOp .And (x :: y :: r) pos) (liftT X.K X.mg W (evT call (.and a b))) := by
        refine PWc (snd_andT ha.1 (fu := evT call b) ?_) fun sl c => bol_and (b := .stuck)
        cases r with
        | nil => exact pw_single hb.1
        | cons z r => exact hb.2 _ _ _ rfl
      exact ⟨hw.pt, fun _ _ _ _ => hw⟩
  | .or a b, tm, Γ, X, W, e, h, E => by
    cases e <;> first | (cases h; done) | skip
    rename_i op es pos
    cases op <;> rcases es with _ | ⟨x, _ | ⟨y, r⟩⟩ <;> first | (cases h; done) | skip
    simp only [chkM, Bool.and_eq_true] at h
    have ha := snd_M a tm Γ X W x h.1 E
    have hb := snd_M b tm Γ X W _ h.2 E
    cases tm with
    | false =>
      refine PEc (snd_or ha (fb := evM call false b) ?_) fun _ _ => rfl
      cases r with
      | nil => exact pe_one hb
      | cons z r => exact hb
    | true =>
      have hw : PW X (.BoolOp .Or (x :: y :: r) pos) (liftT X.K X.mg W (evT call (.or a b))) := by
        refine PWc (snd_orT ha.1 (fu := evT call b) ?_) fun sl c => bol_or (b := .stuck)
        cases r with
        | nil => exact pw_single hb.1
        | cons z r => exact hb.2 _ _ _ rfl
      exact ⟨hw.pt, fun _ _ _ _ => hw⟩
  | .not a, tm, Γ, X, W, e, h, E => by
    cases e <;> first | (cases h; done) | skip
    rename_i op x pos
    cases op <;> first | (cases h; done) | skip
    simp only [chkM] at h
    have ha := snd_M a tm Γ X W x h E
    cases tm with
    | false => exact PEc (snd_not ha) fun _ _ => rfl
    | true => exact ⟨PTc (snd_notT ha.1) fun sl c => bol_not, fun o es p z => by cases z⟩
  | .ifx q a b, tm, Γ, X, W, e, h, E => by
    cases e <;> first | (cases h; done) | skip
    simp only [chkM, Bool.and_eq_true, Bool.not_eq_true'] at h
    obtain ⟨⟨⟨rfl, h1⟩, h2⟩, h3⟩ := h
    exact PEc (snd_ifx (snd_M q true Γ X W _ h1 E).1 (snd_M a false Γ X W _ h2 E) (snd_M b false Γ X W _ h3 E)) fun _ _ => rfl
  | .tup es, tm, Γ, X, W, e, h, E => by
    cases e <;> first | (cases h; done) | skip
    exact mode_of rfl (snd_tup (snd_A es Γ X W _ h E)) fun _ _ _ => rfl
  | .lst mu es, tm, Γ, X, W, e, h, E => by
    cases e <;> first | (cases h; done) | skip
    exact mode_of rfl (snd_lst (snd_A es Γ X W _ h E)) fun _ _ _ => rfl
  | .idx a b, tm, Γ, X, W, e, h, E => by
    cases e <;> first | (cases h; done) | skip
    simp only [chkM, Bool.and_eq_true, Bool.not_eq_true'] at h
    exact mode_of rfl (snd_idx h.1.1 (snd_M a false Γ X W _ h.1.2 E) (snd_M b false Γ X W _ h.2 E)) fun _ _ _ => rfl
  | .slc a lo hi, tm, Γ, X, W, e, h, E => by
    cases e <;> first | (cases h; done) | skip
    rename_i x y pos
    cases y <;> first | (cases h; done) | skip
    rename_i l u st p2
    cases st <;> first | (cases h; done) | skip
    simp only [chkM, Bool.and_eq_true] at h
    exact mode_of rfl (snd_slc (snd_M a false Γ X W x h.1.1 E) (snd_O lo Γ X W l h.1.2 E) (snd_O hi Γ X W u h.2 E)) fun _ _ _ => rfl
  | .call f ks src es kes, tm, Γ, X, W, e, h, E => by
    cases e <;> first | (cases h; done) | skip
    rename_i fn xs kws pos
    cases fn <;> first | (cases h; done) | skip
    simp only [chkM, Bool.and_eq_true, decide_eq_true_eq] at h
    obtain ⟨⟨⟨⟨⟨h0, h1⟩, h2⟩, h3⟩, h4⟩, h5⟩ := h
    exact mode_of rfl (snd_call E h0 h1 h2 h3 h4 h5 (snd_A es Γ X W xs h4 E) (snd_K kes ks Γ X W kws h5 E)) fun _ _ _ => rfl
  | .blt f es, tm, Γ, X, W, e, h, E => by
    cases e <;> first | (cases h; done) | skip
    rename_i fn xs kws pos
    cases fn <;> first | (cases h; done) | skip
    cases kws <;> first | (cases h; done) | skip
    simp only [chkM, Bool.and_eq_true, decide_eq_true_eq, Bool.not_eq_true'] at h
    obtain ⟨⟨⟨h0, h1⟩, h2⟩, h3⟩ := h
    exact mode_of rfl (snd_blt E h0 h1 h2 (chkA_all h3) (snd_A es Γ X W xs h3 E)) fun _ _ _ => rfl
  | .comp mu own t s q el, tm, Γ, X, W, e, h, E => by
    cases e <;> first | (cases h; done) | skip
    rename_i elt gs scope pos
    simp only [chkM, Bool.and_eq_true] at h
    obtain ⟨⟨⟨⟨⟨⟨⟨h0, h1⟩, h2⟩, h3⟩, h4⟩, h5⟩, h6⟩, h7⟩ := h
    unfold oneG at h0
    simp only [Bool.and_eq_true, decide_eq_true_eq, Bool.not_eq_true'] at h0
    rcases gs with _ | ⟨⟨tg, iter, ifs, as⟩, _ | ⟨_, _⟩⟩ <;> first | (exfalso; simp at h0; done) | skip
    obtain ⟨⟨⟨_, h8⟩, h9⟩, h10⟩ := h0
    dsimp only [List.headD_cons] at h3 h4 h5 h6 h8 h9 h10
    subst h8
    have hkd : scope.kind = .function := (blkOk_by h1).kind
    have hs : ∀ i ∈ slotsT t, i ∈ own.map (·.2) := fun i hi => by
      have z := List.all_eq_true.mp h2 i hi
      simpa using z
    refine mode_of rfl ((pe_lc E.calm E.nd (snd_I s Γ X W iter tg h3 E) (blkOk_by (by rw [E.N, E.sc]; exact h1)) (fun s H C cl fp => ?_) (fun s H C cl fp => ?_) (fun s H C cl fp => ?_) (fold_ns h10 _)).weak fun σ H Q hh => comp_tlc (mu := mu) (fi := evI call s) (fq := evT call q) (fe := evM call false el) hs hh) fun _ _ _ => rfl
    · have B := E.blk hkd (s := s) (H := H) (scope := scope) (C := C) (cl := cl) (fp := fp)
      exact pg_T B.N B.nd B.sc B.fn B.calm t tg h4
    · have B := E.blk hkd (s := s) (H := H) (scope := scope) (C := C) (cl := cl) (fp := fp)
      rcases ifs with _ | ⟨x, _ | ⟨_, _⟩⟩
      · have hq : q = .cst (.bl true) := isTrueB_eq (by simpa using h5)
        subst hq
        exact ⟨fun pins s σ H Q I ⟨ω, sl, c, sr, rel, p⟩ => pts_nil.run pins s σ H Q I (p.ok_of rel rfl)⟩
      · exact pts_one (snd_M q true (Γ.blk scope) _ noW x h6 B).1
      · exfalso; simp at h9
    · exact snd_M el false (Γ.blk scope) _ noW elt h7 (E.blk hkd)
  | .frz n a, tm, Γ, X, W, e, h, E => by
    simp only [chkM, Bool.and_eq_true, Bool.or_eq_true, Bool.not_eq_true'] at h
    have ha := snd_frz (k := n) (snd_M a false Γ X W e h.2 E)
    cases tm with
    | false => exact PEc ha fun _ _ => rfl
    | true =>
      have hp : plainT e = true := h.1.resolve_left (by decide)
      exact mode_of hp ha fun _ _ _ => rfl
theorem snd_O : ∀ (i : IO) (Γ : SE) (X : Cx) (W : WX) (e : Option Expr), chkO G Γ i e = true → EOk G call k X Γ W → PO X e (liftO X.K X.mg W (evO call i))
  | .no, Γ, X, W, e, h, E => by
    cases e with
    | none => exact po_hole
    | some _ => cases h
  | .so i, Γ, X, W, e, h, E => by
    cases e with
    | none => cases h
    | some x => exact po_lift (snd_M i false Γ X W x h E)
theorem snd_A : ∀ (i : IEs) (Γ : SE) (X : Cx) (W : WX) (e : List Expr), chkA G Γ i e = true → EOk G call k X Γ W → PA X e (liftA X.K X.mg W (evA call i))
  | .nil, Γ, X, W, e, h, E => by
    cases e with
    | nil => exact snd_nil
    | cons _ _ => cases h
  | .cons a r, Γ, X, W, e, h, E => by
    cases e with
    | nil => cases h
    | cons x xs =>
      simp only [chkA, Bool.and_eq_true] at h
      exact snd_cons h.1.1 (snd_M a false Γ X W x h.1.2 E) (snd_A r Γ X W xs h.2 E)
theorem snd_K : ∀ (i : IEs) (ks : List Str) (Γ : SE) (X : Cx) (W : WX) (e : List Keyword), chkK G Γ i ks e = true → EOk G call k X Γ W → PK X e (liftA X.K X.mg W (evA call i))
  | .nil, ks, Γ, X, W, e, h, E => by
    cases ks <;> cases e <;> first | (cases h; done) | exact snd_knil
  | .cons a r, ks, Γ, X, W, e, h, E => by
    cases ks with
    | nil => cases h
    | cons q ks =>
      cases e with
      | nil => cases h
      | cons x xs =>
        obtain ⟨nm, x, p⟩ := x
        simp only [chkK, Bool.and_eq_true] at h
        exact snd_kcons (snd_M a false Γ X W x h.1.2 E) (snd_K r ks Γ X W xs h.2 E)
theorem snd_I : ∀ (i : II) (Γ : SE) (X : Cx) (W : WX) (e tg : Expr), chkI G Γ i e = true → EOk G call k X Γ W → PI X tg e (liftI X.K X.mg W (evI call i))
  | .seq a, Γ, X, W, e, tg, h, E => by
    simp only [chkI, Bool.and_eq_true] at h
    exact pi_seq (snd_M a false Γ X W e h.1 E)
  | .rng1 a, Γ, X, W, e, tg, h, E => by
    cases e <;> first | (cases h; done) | skip
    rename_i fn xs kws pos
    cases fn <;> first | (cases h; done) | skip
    rcases xs with _ | ⟨y, _ | ⟨_, _⟩⟩ <;> cases kws <;> first | (cases h; done) | skip
    simp only [chkI, Bool.and_eq_true, decide_eq_true_eq] at h
    exact snd_rng1 E h.1.1.1 h.1.1.2 h.1.2 (snd_M a false Γ X W y h.2 E)
  | .rng2 a b, Γ, X, W, e, tg, h, E => by
    cases e <;> first | (cases h; done) | skip
    rename_i fn xs kws pos
    cases fn <;> first | (cases h; done) | skip
    rcases xs with _ | ⟨y, _ | ⟨z, _ | ⟨_, _⟩⟩⟩ <;> cases kws <;> first | (cases h; done) | skip
    simp only [chkI, Bool.and_eq_true, decide_eq_true_eq] at h
    exact snd_rng2 E h.1.1.1.1.1 h.1.1.1.1.2 h.1.1.1.2 h.1.1.2 (snd_M a false Γ X W y h.1.2 E) (snd_M b false Γ X W z h.2 E)
end
theorem snd_E {i : IE} {e : Expr} (h : chkE G Γ i e = true) (E : EOk G call k X Γ W) : PE X e (liftE X.K X.mg W (evE call i)) := snd_M i false Γ X W e h E
theorem snd_T {i : IE} {e : Expr} (h : chkM G true Γ i e = true) (E : EOk G call k X Γ W) : PT X e (liftT X.K X.mg W (evT call i)) := (snd_M i true Γ X W e h E).1
end
end Hv

set_option Elab.async false
set_option linter.all false
set_option maxRecDepth 100000
set_option maxHeartbeats 4000000
/-! HvH: statements, defs. -/
namespace Hv
open PySem PySem.Spec PyProof.Rows L2

/-! ### the text is the inner form -/
/-- a value's store on one line swaps (a comprehension to a local name) -/
def swapB (sc : Scope) (tg e : Expr) : Bool := match tg, e with
  | .Name t p, .ListComp _ _ s q => kindB sc t .local && (p.line == q.line) && !(s.names.any fun (n, k) => n == t && (k == .local || k == .cell))
  | _, _ => false
def isCompB : Expr → Bool
  | .ListComp _ _ _ _ => true
  | .SetComp _ _ _ _ => true
  | .DictComp _ _ _ _ _ => true
  | _ => false
def isTupB : Expr → Bool
  | .Tuple _ _ _ => true
  | .List _ _ => true
  | _ => false
mutual
def chkS (G : GE) : SE → IS → Stmt → Bool
  | Γ, .asg t q, e => match e with
    | .Assign [tg] x _ => notStarB tg && chkT' Γ t tg && chkE G Γ q x && !isCompB x && !(isTupB tg && isTupB x)
    | _ => false
  | Γ, .par i j a b, e => match e with
    | .Assign [.Tuple [.Name x px, .Name y py] _ _] (.Tuple [ea, eb] _ _) _ => decide (Γ.N[i]? = some x) && decide (Γ.N[j]? = some y) && decide (i ≠ j) && kindB Γ.sc x .local && kindB Γ.sc y .local && notStarB ea && notStarB eb && chkE G Γ a ea && chkE G Γ b eb &&
      (py.line == px.line) && !([ea, eb].all (foldedForSure 8)) && !([ea, eb].all (constantsAlone 8))
    | _ => false
  | Γ, .put o i q, e => match e with
    | .Assign [.Subscript x y _] z _ => !isSliceB y && !isCompB z && chkE G Γ o x && chkE G Γ i y && chkE G Γ q z
    | _ => false
  | Γ, .aug i o q, e => match e with
    | .AugAssign (.Name x _) op z _ => decide (Γ.N[i]? = some x) && (kindB Γ.sc x .local || (kindB Γ.sc x .cell && Γ.fn x)) && okName x && (decide (op = opOf o) && decide (o ≠ .pow)) && chkE G Γ q z
    | _ => false
  | Γ, .expr q, e => match e with
    | .Expr x _ => !isCompB x && chkE G Γ q x
    | _ => false
  | Γ, .ret q, e => match e with
    | .Return (some x) _ => chkE G Γ q x
    | _ => false
  | _, .retN, e => match e with
    | .Return none _ => true
    | _ => false
  | Γ, .ifs q a b, e => match e with
    | .If c x y _ => chkM G true Γ q c && chkSs G Γ a x && chkSs G Γ b y
    | _ => false
  | Γ, .whl q b, e => match e with
    | .While c x [] _ => chkM G true Γ q c && chkSs G Γ b x
    | _ => false
  | Γ, .for t s b, e => match e with
    | .For tg it x [] _ => chkT' Γ t tg && chkI G Γ s it && !isSetB it && chkSs G Γ b x
    | _ => false
  | _, .pass, e => match e with
    | .Pass _ => true
    | _ => false
  | _, .brk, e => match e with
    | .Break _ => true
    | _ => false
  | _, .cont, e => match e with
    | .Continue _ => true
    | _ => false
  | _, .nev, _ => true
  | Γ, .rse C n sup fl es, e => match e with
    | .Raise (some (.Call (.Name x _) xs [] _)) none _ => decide (x = C) && kindB Γ.sc x .globalImplicit && okName x && decide ((C, n, fl, sup) ∈ G.excs) && chkA G Γ es xs
    | _ => false
  | Γ, .tryA b D i hx tg, e => match e with
    | .Try body [.ExceptHandler (some (.Name x _)) (some m) [st] _] [] [] _ => decide (x = D) && G.cls.contains D && kindB Γ.sc x .globalImplicit && okName x && locB Γ.N Γ.sc i m && suiteB G.cls Γ.N Γ.sc i hx tg st && chkSs G Γ b body
    | _ => false
def chkSs (G : GE) : SE → ISs → List Stmt → Bool
  | _, .nil, l => l.isEmpty
  | Γ, .cons s r, l => match l with
    | x :: xs => chkS G Γ s x && chkSs G Γ r xs
    | [] => false
end

/-! ### readings -/
section
variable (K : PySem.W.Frag) (mg : Str → Option Value)
def PostS (ω : Wd) (W : WX) (D : Ends) : RS → Prop
  | .ok (.nx sl) c => ∀ ω' σ' H', ω.le ω' → SR K mg ω' sl σ' → Rel K mg ω' c H' → D.nx σ' H'
  | .ok (.bk sl) c => ∀ ω' σ' H', ω.le ω' → SR K mg ω' sl σ' → Rel K mg ω' c H' → D.bk σ' H'
  | .ok (.ct sl) c => ∀ ω' σ' H', ω.le ω' → SR K mg ω' sl σ' → Rel K mg ω' c H' → D.ct σ' H'
  | .ok (.rt d _) c => ∀ ω' v H', ω.le ω' → Rel K mg ω' c H' → R K mg ω' d v → D.rt v H'
  | .ok (.ex x sl) c => ∀ ω' σ' H' cls dd, ω.le ω' → SR K mg ω' sl σ' → Rel K mg ω' c H' → RX K mg ω' x cls dd → W cls dd σ' H'
  | .stuck => False
def liftS (W : WX) (f : Sl → Ct → RS) : TS := fun D σ H => ∃ ω sl c, SR K mg ω sl σ ∧ Rel K mg ω c H ∧ PostS K mg ω W D (f sl c)
end
section
variable {K : PySem.W.Frag} {mg : Str → Option Value} {ω ω' : Wd} {W : WX} {σ : L2.St} {sl : Sl} {c : Ct} {H : Hp} {D : Ends}
theorem PostS.le {r : RS} (h : PostS K mg ω W D r) (l : ω.le ω') : PostS K mg ω' W D r := by
  cases r with
  | stuck => exact h
  | ok f c =>
    cases f with
    | nx sl => exact fun ω'' σ' H' l' => h ω'' σ' H' (l.trans l')
    | bk sl => exact fun ω'' σ' H' l' => h ω'' σ' H' (l.trans l')
    | ct sl => exact fun ω'' σ' H' l' => h ω'' σ' H' (l.trans l')
    | rt d sl => exact fun ω'' σ' H' l' => h ω'' σ' H' (l.trans l')
    | ex x sl => exact fun ω'' σ' H' cls dd l' => h ω'' σ' H' cls dd (l.trans l')
/-- an expression first -/
theorem postS_bind {α β : Type} {ρ : Wd → α → β → Prop} {f : Sl → Ct → Res α} {g : α → Ct → RS} (s : SR K mg ω sl σ) (rel : Rel K mg ω c H) (p : PostS K mg ω W D (ofR (f sl c) sl g)) :
    lift K mg ρ W f σ H (fun b H1 => ∃ ω' c' a, ω.le ω' ∧ SR K mg ω' sl σ ∧ Rel K mg ω' c' H1 ∧ ρ ω' a b ∧ PostS K mg ω' W D (g a c')) := by
  refine ⟨ω, sl, c, s, rel, ?_⟩
  cases e : f sl c with
  | ok a c' =>
    rw [e] at p
    exact fun ω' b H' l rel' r => ⟨ω', c', a, l, s.mono l.toLo, rel', r, PostS.le p l⟩
  | exc x c' =>
    rw [e] at p
    exact fun ω' H' cls dd l rel' rx => p ω' σ H' cls dd l (s.mono l.toLo) rel' rx
  | stuck =>
    rw [e] at p
    exact p.elim
theorem liftS.conv {f g : Sl → Ct → RS} (e : ∀ sl c, g sl c = f sl c) (h : liftS K mg W g D σ H) : liftS K mg W f D σ H := by
  obtain ⟨ω, sl, c, sr, rel, p⟩ := h
  exact ⟨ω, sl, c, sr, rel, by rw [← e]; exact p⟩
end
section
variable {G : GE} {call : CallF} {k : Nat} {X : Cx} {Γ : SE} {W : WX} {pos : Pos}
theorem PSc {e : Stmt} {f g : Sl → Ct → RS} (h : PS X e (liftS X.K X.mg W f)) (q : ∀ sl c, g sl c = f sl c) : PS X e (liftS X.K X.mg W g) := h.weak fun _ _ _ => liftS.conv q
def seqK (r : RS) (k : Sl → Ct → RS) : RS := match r with
  | .ok (.nx sl) c => k sl c
  | r => r
theorem snds_nil : PSs X [] (liftS X.K X.mg W fun sl c => .ok (.nx sl) c) := pss_nil.weak fun D σ H ⟨ω, sl, c, sr, rel, p⟩ => p ω σ H .rfl sr rel
theorem snds_cons {st : Stmt} {rest : List Stmt} {f g : Sl → Ct → RS} (h1 : PS X st (liftS X.K X.mg W f)) (h2 : PSs X rest (liftS X.K X.mg W g)) : PSs X (st :: rest) (liftS X.K X.mg W fun sl c => seqK (f sl c) g) :=
  (pss_cons h1 h2).weak fun D σ H ⟨ω, sl, c, sr, rel, p⟩ => by
    refine ⟨ω, sl, c, sr, rel, ?_⟩
    dsimp only at p
    cases e : f sl c with
    | stuck => rw [e] at p; exact p
    | ok fl c' =>
      rw [e] at p
      cases fl with
      | nx sl' => exact fun ω' σ' H' l s' rel' => ⟨ω', sl', c', s', rel', PostS.le p l⟩
      | bk sl' => exact p
      | ct sl' => exact p
      | rt d sl' => exact p
      | ex x sl' => exact p
theorem swaps_no {e : Expr} (h : isCompB e = false) (t : Option Expr) (l : Nat) (env : Env) : swapsWith e t l env = pure false := by
  cases e <;> first | rfl | cases h
theorem swapped_no {tg e : Expr} (h : (isTupB tg && isTupB e) = false) (env : Env) : swappedStores [tg] e env = pure none := by
  cases tg <;> cases e <;> first | rfl | cases h
def asgK (t : IT) (sl : Sl) (d : D) (c : Ct) : RS := match asT t d sl with
  | some sl => .ok (.nx sl) c
  | none => .stuck
theorem snds_asg {t : IT} {tg e : Expr} {f : Sl → Ct → Res D} (hn : notStarB tg = true) (hg : PG X tg (gT X.K X.mg t)) (he : PE X e (liftE X.K X.mg W f)) (h1 : isCompB e = false) (h2 : (isTupB tg && isTupB e) = false) : PS X (.Assign [tg] e pos) (liftS X.K X.mg W fun sl c => ofR (f sl c) sl (asgK t sl)) :=
  (ps_asg he hg (swaps_no h1 _ _ _) (swapped_no h2 _) (by rw [assign_ns hn]; rfl)).weak fun D σ H ⟨ω, sl, c, sr, rel, p⟩ => (postS_bind sr rel p).mono fun x H1 ⟨ω1, c1, d, l1, sr1, rel1, rx, p1⟩ => by
    unfold asgK at p1
    cases e : asT t d sl with
    | none => rw [e] at p1; exact p1.elim
    | some sl' =>
      rw [e] at p1
      exact ⟨ω1, sl, c1, d, sl', sr1, rel1, rx, e, fun σ' s' _ => p1 ω1 σ' H1 .rfl s' rel1⟩
theorem snds_par {i j : Nat} {x y : Str} {ea eb : Expr} {px py pt pt2 : Pos} {kt k2 : Nat} {fa fb : Sl → Ct → Res D} (E : EOk G call k X Γ W) (hi : Γ.N[i]? = some x) (hj : Γ.N[j]? = some y) (hij : i ≠ j) (hx : kindB Γ.sc x .local = true) (hy : kindB Γ.sc y .local = true)
    (na : notStarB ea = true) (nb : notStarB eb = true) (ha : PE X ea (liftE X.K X.mg W fa)) (hb : PE X eb (liftE X.K X.mg W fb)) (hw : swappedStores [.Tuple [.Name x px, .Name y py] kt pt] (.Tuple [ea, eb] k2 pt2) X.env = pure (some [x, y])) :
    PS X (.Assign [.Tuple [.Name x px, .Name y py] kt pt] (.Tuple [ea, eb] k2 pt2) pos) (liftS X.K X.mg W fun sl c => ofR (fa sl c) sl fun x c => ofR (fb sl c) sl fun y c => .ok (.nx ((sl.set i (some x)).set j (some y))) c) := by
  have hi' : X.N[i]? = some x := by rw [E.N]; exact hi
  have hj' : X.N[j]? = some y := by rw [E.N]; exact hj
  refine (ps_par E.calm E.nd hi' hj' hij (by rw [E.sc]; exact kindB_iff.mp hx) (by rw [E.sc]; exact kindB_iff.mp hy) (pa_cons ha (pa_cons hb pa_nil (star_ns nb _ _)) (star_ns na _ _)) hw rfl).weak fun D σ H ⟨ω, sl, c, sr, rel, p⟩ => (postS_bind sr rel p).mono fun v H1 ⟨ω1, c1, d, l1, sr1, rel1, rx, p1⟩ => (postS_bind sr1 rel1 p1).mono fun w H2 ⟨ω2, c2, d2, l2, sr2, rel2, ry, p2⟩ => ?_
  exact ⟨v, w, rfl, p2 ω2 _ H2 .rfl ((sr2.set i (rx.mono l2.toLo)).set j ry) rel2⟩
theorem swapped_two {x y : Str} {ea eb : Expr} {px py pt pt2 : Pos} {kt k2 : Nat} {env : Env} (hk : env.scope.kind = .function) (hx : env.scope.names.lookup x = some .local) (hy : env.scope.names.lookup y = some .local) (hxy : x ≠ y) (na : notStarB ea = true) (nb : notStarB eb = true)
    (hl : (py.line == px.line) = true) (h1 : ([ea, eb].all (foldedForSure 8)) = false) (h2 : ([ea, eb].all (constantsAlone 8)) = false) : swappedStores [.Tuple [.Name x px, .Name y py] kt pt] (.Tuple [ea, eb] k2 pt2) env = pure (some [x, y]) := by
  have hb : env.blockKind = .function := by unfold Env.blockKind; rw [hk]; rfl
  have kx : env.kindOf x = some .local := hx
  have ky : env.kindOf y = some .local := hy
  have s1 : ([ea, eb].any fun | .Starred .. => true | _ => false) = false := by
    rw [List.any_cons, List.any_cons, List.any_nil]
    cases ea <;> first | (cases na; done) | (cases eb <;> first | (cases nb; done) | rfl)
  have hd : [x, y].eraseDups = [x, y] := by
    rw [List.eraseDups_cons]
    have : (y == x) = false := by simpa using (Ne.symm hxy)
    simp [List.filter, this, List.eraseDups_cons]
  unfold swappedStores
  simp [hb, kx, ky, hl, s1, hd, h1, h2, Expr.pos]
  rw [if_neg]
  · have hl' : py.line = px.line := by simpa using hl
    simp [List.filterMap, ky, hl', hd]
  · rintro (h | h)
    · cases ea <;> first | (cases na; done) | cases h
    · cases eb <;> first | (cases nb; done) | cases h
theorem snds_expr {e : Expr} {f : Sl → Ct → Res D} (he : PE X e (liftE X.K X.mg W f)) (h1 : isCompB e = false) : PS X (.Expr e pos) (liftS X.K X.mg W fun sl c => ofR (f sl c) sl fun _ c => .ok (.nx sl) c) :=
  (ps_expr he (swaps_no h1 _ _ _)).weak fun D σ H ⟨ω, sl, c, sr, rel, p⟩ => (postS_bind sr rel p).mono fun x H1 ⟨ω1, c1, d, l1, sr1, rel1, rx, p1⟩ => p1 ω1 σ H1 .rfl sr1 rel1
theorem snds_ret {e : Expr} {f : Sl → Ct → Res D} (he : PE X e (liftE X.K X.mg W f)) : PS X (.Return (some e) pos) (liftS X.K X.mg W fun sl c => ofR (f sl c) sl fun d c => .ok (.rt d sl) c) :=
  (ps_ret he).weak fun D σ H ⟨ω, sl, c, sr, rel, p⟩ => (postS_bind sr rel p).mono fun x H1 ⟨ω1, c1, d, l1, sr1, rel1, rx, p1⟩ => p1 ω1 x H1 .rfl rel1 rx
theorem snds_if {c : Expr} {a b : List Stmt} {fq : Sl → Ct → Res Bool} {f g : Sl → Ct → RS} (hc : PT X c (liftT X.K X.mg W fq)) (ha : PSs X a (liftS X.K X.mg W f)) (hb : PSs X b (liftS X.K X.mg W g)) : PS X (.If c a b pos) (liftS X.K X.mg W fun sl c => ofR (fq sl c) sl fun k c => if k = true then f sl c else g sl c) :=
  (ps_if hc ha hb).weak fun D σ H ⟨ω, sl, c, sr, rel, p⟩ => (postS_bind (ρ := fun _ a b => a = b) sr rel p).mono fun x H1 ⟨ω1, c1, d, l1, sr1, rel1, rx, p1⟩ => by
    subst rx
    cases d with
    | true => rw [if_pos rfl] at p1 ⊢; exact ⟨ω1, sl, c1, sr1, rel1, p1⟩
    | false => rw [if_neg (by decide)] at p1 ⊢; exact ⟨ω1, sl, c1, sr1, rel1, p1⟩
theorem snds_whl (E : EOk G call k X Γ W) {c : Expr} {body : List Stmt} {fq : Sl → Ct → Res Bool} {f : Sl → Ct → RS} (hc : PT X c (liftT X.K X.mg W fq)) (hb : PSs X body (liftS X.K X.mg W f)) : PS X (.While c body [] pos) (liftS X.K X.mg W (whR fq f)) := by
  refine (ps_while E.own hc hb).weak fun D σ H ⟨ω, sl, c, sr, rel, p⟩ => ?_
  have hne : whR fq f sl c ≠ .stuck := fun z => by rw [z] at p; exact p
  obtain ⟨n, hn⟩ := whR_get hne
  refine ⟨fun n σ H => ∃ ω sl c r, SR X.K X.mg ω sl σ ∧ Rel X.K X.mg ω c H ∧ whN fq f n sl c = some r ∧ PostS X.K X.mg ω W D r, ⟨n, ω, sl, c, _, sr, rel, hn, p⟩, ?_⟩
  rintro n σ H ⟨ω, sl, c, r, sr, rel, hn, p⟩
  cases n with
  | zero => cases hn
  | succ n =>
    unfold whN at hn
    refine ⟨ω, sl, c, sr, rel, ?_⟩
    cases hq : fq sl c with
    | stuck => rw [hq] at hn; cases hn; exact p.elim
    | exc x c' =>
      rw [hq] at hn
      cases hn
      exact fun ω' H' cls dd l rel' rx => p ω' σ H' cls dd l (sr.mono l.toLo) rel' rx
    | ok b c1 =>
      rw [hq] at hn
      intro ω1 b' H1 l1 rel1 e
      subst e
      cases b with
      | false =>
        cases hn
        rw [if_neg (by decide)]
        exact p ω1 σ H1 l1 (sr.mono l1.toLo) rel1
      | true =>
        rw [if_pos rfl]
        simp only at hn
        cases hf : f sl c1 with
        | stuck => rw [hf] at hn; cases hn; exact p.elim
        | ok fl c2 =>
          rw [hf] at hn
          refine ⟨fun σ' H' => ∃ ω sl c r, SR X.K X.mg ω sl σ' ∧ Rel X.K X.mg ω c H' ∧ whN fq f n sl c = some r ∧ PostS X.K X.mg ω W D r, fun σ' H' h => ⟨n, Nat.lt_succ_self n, h⟩, ω1, sl, c1, sr.mono l1.toLo, rel1, ?_⟩
          rw [hf]
          have p := PostS.le p l1
          cases fl with
          | nx s => exact fun ω' σ' H' l s' rel' => ⟨ω', s, c2, r, s', rel', hn, PostS.le p l⟩
          | ct s => exact fun ω' σ' H' l s' rel' => ⟨ω', s, c2, r, s', rel', hn, PostS.le p l⟩
          | bk s => cases hn; exact p
          | rt d s => cases hn; exact p
          | ex x s => cases hn; exact p
theorem snds_for (E : EOk G call k X Γ W) {t : IT} {tg it : Expr} {body : List Stmt} {fi : Sl → Ct → Res (List D)} {f : Sl → Ct → RS} (hg : PG X tg (gT X.K X.mg t)) (hi : PI X tg it (liftI X.K X.mg W fi)) (hn : isSetB it = false) (hb : PSs X body (liftS X.K X.mg W f)) :
    PS X (.For tg it body [] pos) (liftS X.K X.mg W fun sl c => ofR (fi sl c) sl fun its c => forR (asT t) f its sl c) := by
  refine (ps_for E.own E.calm hi hg hb (fold_ns hn _)).weak fun D σ H ⟨ω, sl, c, sr, rel, p⟩ => (postS_bind (ρ := fun ω ds J => Walks X.K X.mg ω J ds) sr rel p).mono fun J H1 ⟨ω1, c1, its, l1, sr1, rel1, wk, p1⟩ => ?_
  refine ⟨fun i m σ H => i + m = its.length ∧ ∃ ω sl c, ω1.lo ω ∧ SR X.K X.mg ω sl σ ∧ Rel X.K X.mg ω c H ∧ PostS X.K X.mg ω W D (forR (asT t) f (its.drop i) sl c), ⟨its.length, by omega, ω1, sl, c1, .rfl, sr1, rel1, p1⟩, ?_⟩
  rintro i m σ H ⟨him, ω, sl, c, lo, sr, rel, p⟩
  by_cases hi : i < its.length
  · have hd : its[i]? = some its[i] := List.getElem?_eq_getElem hi
    have hdrop : its.drop i = its[i] :: its.drop (i + 1) := List.drop_eq_getElem_cons hi
    rw [hdrop] at p
    unfold forR at p
    cases ht : asT t its[i] sl with
    | none => rw [ht] at p; exact p.elim
    | some sl' =>
      rw [ht] at p
      simp only at p
      refine .inr ⟨wk.go i ω c H lo rel hi, fun σ' H' => i + 1 + (m - 1) = its.length ∧ ∃ ω sl c, ω1.lo ω ∧ SR X.K X.mg ω sl σ' ∧ Rel X.K X.mg ω c H' ∧ PostS X.K X.mg ω W D (forR (asT t) f (its.drop (i + 1)) sl c), fun σ' H' h => ⟨m - 1, by omega, h⟩, fun x H' hy => ?_⟩
      obtain ⟨ω2, l2, rel2, r2⟩ := wk.yld i ω c H x H' its[i] lo rel hd hy
      refine ⟨ω2, sl, c, its[i], sl', sr.mono l2.toLo, rel2, r2, ht, fun σ3 s3 _ => ⟨ω2, sl', c, s3, rel2, ?_⟩⟩
      have p := PostS.le p l2
      cases hf : f sl' c with
      | stuck => rw [hf] at p; exact p
      | ok fl c2 =>
        rw [hf] at p
        cases fl with
        | nx s => exact fun ω' σ' H' l s' rel' => ⟨by omega, ω', s, c2, (lo.trans l2.toLo).trans l.toLo, s', rel', PostS.le p l⟩
        | ct s => exact fun ω' σ' H' l s' rel' => ⟨by omega, ω', s, c2, (lo.trans l2.toLo).trans l.toLo, s', rel', PostS.le p l⟩
        | bk s => exact p
        | rt d s => exact p
        | ex x s => exact p
  · have e0 : i = its.length := by omega
    subst e0
    rw [List.drop_length] at p
    unfold forR at p
    exact .inl ⟨wk.stop ω c H lo rel, p ω σ H .rfl sr rel⟩

/-! ### o[i] = e; x op= e -/
def putK (sl : Sl) (x y d : D) (c : Ct) : RS := match putD x y d c with
  | some c => .ok (.nx sl) c
  | none => .stuck
theorem pg_put {x y : Expr} {fo fi : Sl → Ct → Res D} (hs : isSliceB y = false) (ho : PE X x (liftE X.K X.mg W fo)) (hi : PE X y (liftE X.K X.mg W fi)) : PG X (.Subscript x y pos) (gSub (liftE X.K X.mg W fo) (liftE X.K X.mg W fi) rSetL) := by
  refine pg_sub ho hi set_list fun v => ?_
  clear hi
  cases y <;> first | rfl | cases hs
theorem snds_put {x y z : Expr} {p0 : Pos} {fo fi fe : Sl → Ct → Res D} (hs : isSliceB y = false) (h1 : isCompB z = false) (ho : PE X x (liftE X.K X.mg W fo)) (hi : PE X y (liftE X.K X.mg W fi)) (he : PE X z (liftE X.K X.mg W fe)) :
    PS X (.Assign [.Subscript x y p0] z pos) (liftS X.K X.mg W fun sl c => ofR (fe sl c) sl fun d c => ofR (fo sl c) sl fun x c => ofR (fi sl c) sl fun y c => putK sl x y d c) :=
  (ps_asg he (pg_put hs ho hi) (by show swapsWith z (some (.Subscript x y p0)) pos.line X.env = pure false; exact swaps_no h1 _ _ _) (swapped_no (by rfl) _) (by rw [assign_ns (by rfl)]; rfl)).weak fun D σ H ⟨ω, sl, c, sr, rel, p⟩ => (postS_bind sr rel p).mono fun v H1 ⟨ω1, c1, d, l1, sr1, rel1, rx, p1⟩ => (postS_bind sr1 rel1 p1).mono fun o H2 ⟨ω2, c2, do', l2, sr2, rel2, ro, p2⟩ =>
    (postS_bind sr2 rel2 p2).mono fun i H3 ⟨ω3, c3, di, l3, sr3, rel3, ri, p3⟩ => by
      unfold putK at p3
      cases e : putD do' di d c3 with
      | none => rw [e] at p3; exact p3.elim
      | some c4 =>
        rw [e] at p3
        cases do' with
        | ref n =>
          cases di with
          | int kk =>
            dsimp only [putD] at e
            cases hc : c3[n]? with
            | none => rw [hc] at e; cases e
            | some u =>
              rw [hc] at e
              cases u with
              | lst xs =>
                dsimp only at e
                cases hj : ixN xs.length kk with
                | none => rw [hj] at e; cases e
                | some j =>
                  rw [hj] at e
                  cases e
                  have ro := ro.mono l3.toLo
                  cases ro with
                  | ref hm =>
                  cases ri
                  obtain ⟨k1, k2⟩ := rel3.live _ _ _ hm hc (by intro z; cases z)
                  unfold COk at k2
                  split at k2
                  · rename_i z; cases z
                  · rename_i us vs z1 z2
                    cases z1
                    refine ⟨_, vs, kk, j, rfl, rfl, z2, by rw [← k2.length]; exact hj, p3 ω3 σ _ .rfl sr3 ?_⟩
                    exact rel3.write hm hc (by intro z; cases z) (o := .lst (vs.set j v)) (Rs.set (rx.mono (l2.toLo.trans l3.toLo)) j k2)
                  · rename_i z _; cases z
                  · rename_i z _; cases z
                  · rename_i z _; cases z
                  · exact k2.elim
              | dead => cases e
              | ins _ _ => cases e
              | dct _ => cases e
          | _ => cases e
        | _ => cases e
theorem iop_mulX : OpR X (inplaceOp .Mult) (rI CMulW fun i j => .int (i * j)) := opI fun _ _ _ _ _ _ _ hc q => imul_int q hc.ok
theorem iop_fdivX : OpR X (inplaceOp .FloorDiv) (rI (fun _ j => j ≠ 0 ∧ j.natAbs.log2 < 9000) fun i j => .int (i.fdiv j)) := opI fun _ _ _ _ _ _ _ hc q => ifloordiv_int hc.1 q (.inl (PyProof.noPylong_of_log2 hc.2))
theorem iop_modX : OpR X (inplaceOp .Mod) (rI (fun _ j => j ≠ 0) fun i j => .int (i.fmod j)) := opI fun _ _ _ _ _ _ _ hc q => imod_int hc q
/-- in place: add, sub, mul, fdiv, mod of ints -/
theorem op_ip (o : BOp) (ho : o ≠ .pow) : PIp X (opOf o) (rOp X.K X.mg (binD o)) := by
  intro pins s σ H x y v u Q I rv ru ⟨ω, dx, dy, c, W, σ', rel, rx, ry, p⟩
  unfold binD at p
  split at p
  · cases rx; cases ry
    exact iop_add pins s σ H _ _ v u Q I rv ru ⟨_, _, rfl, rfl, p.ok_of rel (.int _)⟩
  · cases rx; cases ry
    exact iop_sub pins s σ H _ _ v u Q I rv ru ⟨_, _, rfl, rfl, p.ok_of rel (.int _)⟩
  · cases rx; cases ry
    split at p
    · rename_i h
      exact iop_mulX pins s σ H _ _ v u Q I rv ru ⟨_, _, rfl, rfl, h, p.ok_of rel (.int _)⟩
    · exact p.elim
  · cases rx; cases ry
    split at p
    · rename_i h
      exact iop_fdivX pins s σ H _ _ v u Q I rv ru ⟨_, _, rfl, rfl, h, p.ok_of rel (.int _)⟩
    · exact p.elim
  · cases rx; cases ry
    split at p
    · rename_i h
      exact iop_modX pins s σ H _ _ v u Q I rv ru ⟨_, _, rfl, rfl, h, p.ok_of rel (.int _)⟩
    · exact p.elim
  · exact absurd rfl ho
  · exact p.elim
def augK (i : Nat) (sl : Sl) (z : D) (c : Ct) : RS := .ok (.nx (sl.set i (some z))) c
def augF (o : BOp) (i : Nat) (f : Sl → Ct → Res D) (sl : Sl) (c : Ct) : RS := match sl[i]? with
  | some (some x) => ofR (f sl c) sl fun y c => ofR (binD o x y c) sl fun z c => .ok (.nx (sl.set i (some z))) c
  | _ => .stuck
theorem snds_aug (E : EOk G call k X Γ W) {i : Nat} {o : BOp} {x : Str} {e : Expr} {p0 : Pos} {f : Sl → Ct → Res D} (h1 : Γ.N[i]? = some x) (h2 : kindB Γ.sc x .local = true ∨ (kindB Γ.sc x .cell = true ∧ Γ.fn x = true)) (h3 : okName x = true) (ho : o ≠ .pow) (he : PE X e (liftE X.K X.mg W f)) :
    PS X (.AugAssign (.Name x p0) (opOf o) e pos) (liftS X.K X.mg W (augF o i f)) := by
  obtain ⟨e1, e2, e3⟩ := okName_d h3
  have hl : Loc X.env.scope x := by
    rw [E.sc]
    rcases h2 with h2 | h2
    · exact .inl (kindB_iff.mp h2)
    · exact .inr (kindB_iff.mp h2.1)
  have hf : X.fn x = true ∨ X.env.scope.names.lookup x = some .local := by
    rw [E.sc]
    rcases h2 with h2 | h2
    · exact .inr (kindB_iff.mp h2)
    · exact .inl (E.fn x h2.2)
  refine PS.weak (ps_aug (i := i) E.nd (by rw [E.N]; exact h1) hl he (op_ip o ho) hf) fun D σ H ⟨ω, sl, c, sr, rel, p⟩ => ?_
  unfold augF at p
  cases h : sl[i]? with
  | none => rw [h] at p; exact p.elim
  | some q =>
    cases q with
    | none => rw [h] at p; exact p.elim
    | some d =>
      rw [h] at p
      obtain ⟨v, hv, r⟩ := sr.get i d h
      refine ⟨v, hv, (postS_bind sr rel p).mono fun y H1 ⟨ω1, c1, dy, l1, sr1, rel1, ry, p1⟩ => ?_⟩
      refine ⟨ω1, d, dy, c1, W, σ, rel1, r.mono l1.toLo, ry, ?_⟩
      cases hb : binD o d dy c1 with
      | stuck => rw [hb] at p1; exact p1
      | exc x c => rw [hb] at p1; exact fun ω' H' cls dd l rel' rx => p1 ω' σ H' cls dd l (sr1.mono l.toLo) rel' rx
      | ok z c2 =>
        rw [hb] at p1
        exact fun ω' w H' l rel' rz => p1 ω' _ H' l ((sr1.mono l.toLo).set i rz) rel'
theorem rf_append {K : PySem.W.Frag} {mg : Str → Option Value} {ω : Wd} : ∀ {a b : List (Str × D)} {x y : List (Str × V)}, Rf K mg ω a x → Rf K mg ω b y → Rf K mg ω (a ++ b) (x ++ y)
  | _, _, _, _, .nil, s => s
  | _, _, _, _, .cons h t, s => .cons h (rf_append t s)
theorem rf_rev {K : PySem.W.Frag} {mg : Str → Option Value} {ω : Wd} : ∀ {a : List (Str × D)} {x : List (Str × V)}, Rf K mg ω a x → Rf K mg ω a.reverse x.reverse
  | _, _, .nil => .nil
  | _, _, .cons h t => by
    rw [List.reverse_cons, List.reverse_cons]
    exact rf_append (rf_rev t) (.cons h .nil)
theorem flV_rs {K : PySem.W.Frag} {mg : Str → Option Value} {ω : Wd} {ds : List D} {vs : List V} (r : Rs K mg ω ds vs) : ∀ (fl : List (Str × Src)) (fs : List (Str × D)), flV Cst.d ds fl = some fs → ∃ hs, flV Cst.v vs fl = some hs ∧ Rf K mg ω fs hs ∧ fs.map (·.1) = fl.map (·.1)
  | [], fs, h => by
    cases h
    exact ⟨[], rfl, .nil, rfl⟩
  | (f, s) :: t, fs, h => by
    obtain ⟨y, gs, rfl, h2, h3⟩ := flV_cons h
    obtain ⟨hs, q1, q2, q3⟩ := flV_rs r t gs h2
    cases s with
    | arg i =>
      obtain ⟨v, e1, r1⟩ := r.get (show ds[i]? = some y from h3)
      refine ⟨(f, v) :: hs, ?_, .cons r1 q2, by simp [q3]⟩
      unfold flV
      rw [e1, q1]
      rfl
    | dfl c =>
      have e : y = c.d := h3
      subst e
      refine ⟨(f, c.v) :: hs, ?_, .cons c.r q2, by simp [q3]⟩
      unfold flV
      rw [q1]
      rfl
theorem rse_run (E : EOk G call k X Γ W) {C : Str} {n : Nat} {fl : List (Str × Src)} {sup : List (Str × Bool)} {a : Addr} (I : XInfo X.K X.mg C a sup (fl.map (·.1))) {ω : Wd} {ds : List D} {vs : List V} {sl : Sl} {c : Ct} {σ : L2.St} {H : Hp} {D : Ends} (sr : SR X.K X.mg ω sl σ) (rel : Rel X.K X.mg ω c H) (rs : Rs X.K X.mg ω ds vs)
    (p : PostS X.K X.mg ω W D (rseK C n sup fl sl ds c)) : vs.length = n ∧ ∃ hs, flV Cst.v vs fl = some hs ∧ ∀ d, H d = none → W (.ref a) (some d) σ (upd H d (.xd hs.reverse)) := by
  unfold rseK at p
  by_cases hn : ds.length = n
  · rw [if_pos hn] at p
    cases hf : flV Cst.d ds fl with
    | none => rw [hf] at p; exact p.elim
    | some fs =>
      rw [hf] at p
      obtain ⟨hs, h1, h2, h3⟩ := flV_rs rs fl fs hf
      refine ⟨rs.length.symm.trans hn, hs, h1, fun d hd => ?_⟩
      obtain ⟨l, rel'⟩ := rel.frozen hd (.xd hs.reverse)
      refine p _ σ _ (.ref a) (some d) l (sr.mono l.toLo) rel' ⟨a, d, hs.reverse, ⟨I.gC, I.oex, I.xf, I.isx, fun f hf => I.nof f ?_, I.sup⟩, rfl, rfl, upd_same, rf_rev (h2.mono l.toLo)⟩
      have hf : f ∈ (fs.reverse).map (·.1) := hf
      rw [← h3]
      rw [List.map_reverse, List.mem_reverse] at hf
      exact hf
  · rw [if_neg hn] at p
    exact p.elim
theorem snds_rse (E : EOk G call k X Γ W) {C x : Str} {n : Nat} {fl : List (Str × Src)} {sup : List (Str × Bool)} {xs : List Expr} {p0 p1 : Pos} {fr : Sl → Ct → Res (List D)} (h0 : x = C) (h1 : kindB Γ.sc x .globalImplicit = true) (h2 : okName x = true) (h3 : (C, n, fl, sup) ∈ G.excs) (hns : xs.all notStarB = true)
    (hz : xs = [] → ∀ sl c, fr sl c = .ok [] c) (hr : PA X xs (liftA X.K X.mg W fr)) : PS X (.Raise (some (.Call (.Name x p0) xs [] p1)) none pos) (liftS X.K X.mg W fun sl c => ofR (fr sl c) sl (rseK C n sup fl sl)) := by
  subst h0
  obtain ⟨hn, a, fI, fd, ps, I, T⟩ := E.g.exc x n fl sup h3
  have hg : Gl X x := by
    show X.env.scope.names.lookup x = _
    rw [E.sc]
    exact kindB_iff.mp h1
  obtain ⟨e1, _, _⟩ := okName_d h2
  have hroom : Room 2 X.A := E.room.mono E.two
  have hx : Passes (L2.CX X.prog X.w) X (fun _ _ _ => False) := passes_call E.takes (fun _ _ _ _ z => z.elim)
  cases xs with
  | nil =>
    refine (ps_raise E.calm E.takes (pmk_x0 T hn hroom hx hg I.gC e1)).weak fun D σ H ⟨ω, sl, c, sr, rel, p⟩ => ?_
    dsimp only at p
    rw [hz rfl] at p
    exact rse_run E I sr rel .nil p
  | cons e es =>
    exact (ps_raise E.calm E.takes (pmk_x T hn hroom hx hg I.gC e1 hr hns)).weak fun D σ H ⟨ω, sl, c, sr, rel, p⟩ => (postS_bind sr rel p).mono fun vs H1 ⟨ω1, c1, ds, l1, sr1, rel1, rs, p1⟩ => rse_run E I sr1 rel1 rs p1
theorem snds_try (E : EOk G call k X Γ W) (S : X.stack = X.env :: X.outer ∧ X.env.frame = some X.env.locals) {x D m : Str} {i : Nat} {hx : List HX} {tg : Option Nat} {st : Stmt} {body : List Stmt} {np pos' : Pos} {f : Sl → Ct → RS} (h0 : x = D) (h1 : D ∈ G.cls) (h2 : kindB Γ.sc x .globalImplicit = true) (h3 : okName x = true) (h4 : locB Γ.N Γ.sc i m = true) (h5 : suiteB G.cls Γ.N Γ.sc i hx tg st = true)
    (hb : ∀ (W' : WX) (pn : List (Addr × Obj)) (xe : Value → Shared → Prop), EOk G call k (X.tr pn xe) Γ W' → PSs (X.tr pn xe) body (liftS X.K X.mg W' f)) :
    PS X (.Try body [.ExceptHandler (some (.Name x np)) (some m) [st] pos'] [] [] pos) (liftS X.K X.mg W fun sl c => tryK D i hx tg (f sl c)) := by
  subst h0
  obtain ⟨v, u, hv⟩ := E.g.cls x h1
  obtain ⟨e1, _, e3⟩ := okName_d h3
  have hg : Gl X x := by
    show X.env.scope.names.lookup x = _
    rw [E.sc]
    exact kindB_iff.mp h2
  unfold locB at h4
  simp only [Bool.and_eq_true, decide_eq_true_eq, Bool.not_eq_true'] at h4
  have hln : X.env.kindOf m = some .local := by
    show X.env.scope.names.lookup m = _
    rw [E.sc]
    exact h4.1.1.2
  have hi : X.N[i]? = some m := by rw [E.N]; exact h4.1.1.1
  have h5' : suiteB G.cls Γ.N X.env.scope i hx tg st = true := by rw [E.sc]; exact h5
  refine (ps_try_as (tb := fun W' => liftS X.K X.mg W' f) (ts := tSuite X.K X.mg i hx tg) S.1 S.2 E.nd hi hln ⟨hg, e1, hv.1⟩ E.takes (fun W' pn xe tk own => hb W' pn xe { g := E.g, N := E.N, nd := E.nd, sc := E.sc, calm := E.calm, kind := E.kind, fn := E.fn, room := E.room, two := E.two, takes := tk, own := own })
    (fun a oe cls d pn hz hf => pss_suite E.N E.nd E.g.cls (E.g.blt .isi) hz hf h5')).weak fun De σ H ⟨ω, sl, c, sr, rel, p⟩ => ⟨ω, sl, c, sr, rel, ?_⟩
  dsimp only at p
  cases hr : f sl c with
  | stuck => rw [hr] at p; exact p
  | ok fl c' =>
    rw [hr] at p
    cases fl with
    | nx s => exact p
    | bk s => exact p
    | ct s => exact p
    | rt d s => exact p
    | ex y s =>
      intro ω' σ' H' cls dd l sr' rel' rx
      obtain ⟨C, d, gs, I, hcls, hdd, hd, rf⟩ := id rx
      unfold tryK at p
      dsimp only at p
      cases hl : y.sup.lookup x with
      | none => rw [hl] at p; exact p.elim
      | some b =>
        rw [hl] at p
        obtain ⟨v', u', hv', hex, _⟩ := I.sup x b (lookup_mem hl)
        obtain rfl := clsN_inj hv hv'
        refine ⟨b, by rw [hcls]; exact hex, fun hb => ?_, fun hb => ?_⟩
        · subst hb
          dsimp only at p
          intro a ha
          cases hvs : hxVs y hx with
          | none => rw [hvs] at p; exact p.elim
          | some ds =>
            rw [hvs] at p
            dsimp only at p
            unfold hdlK at p
            by_cases hlen : i < s.length ∧ ds.length ≤ 1000
            · rw [if_pos hlen] at p
              have p := PostS.le p l
              have hset : (σ'.set i (some (V.ref a)))[i]? = some (some (V.ref a)) := List.getElem?_set_self (by rw [← sr'.len]; exact hlen.1)
              have tupd : ∀ vs, Rs X.K X.mg ω' ds vs → vs.length ≤ sizeLine ∧ ∀ q, H' q = none → ∃ ω2, ω'.le ω2 ∧ Rel X.K X.mg ω2 c' (upd H' q (.tup vs)) ∧ R X.K X.mg ω2 (.tup ds) (.ref q) := fun vs hvs => by
                refine ⟨by rw [← hvs.length, sizeLine_eq]; omega, fun q hq => ?_⟩
                obtain ⟨l2, rel2⟩ := rel'.frozen hq (.tup vs)
                exact ⟨_, l2, rel2, .tup (.inl upd_same) (hvs.mono l2.toLo)⟩
              cases tg with
              | none =>
                refine hx_run rx rel' hset hx ds _ hvs fun vs hv2 => ?_
                obtain ⟨z1, z2⟩ := tupd vs hv2
                refine ⟨z1, fun q hq => ?_⟩
                obtain ⟨ω2, l2, rel2, r2⟩ := z2 q hq
                exact p ω2 _ _ l2 rel2 r2
              | some j =>
                refine hx_run rx rel' hset hx ds _ hvs fun vs hv2 => ?_
                obtain ⟨z1, z2⟩ := tupd vs hv2
                refine ⟨z1, fun q hq => ?_⟩
                obtain ⟨ω2, l2, rel2, r2⟩ := z2 q hq
                refine p ω2 _ _ l2 ⟨?_, fun n d hn => ?_⟩ rel2
                · simp only [List.length_set]
                  exact sr'.len
                · by_cases hni : i = n
                  · subst hni
                    by_cases hlt : i < (s.set j (some (D.tup ds))).length
                    · rw [List.getElem?_set_self hlt] at hn; cases hn
                    · rw [List.getElem?_eq_none (by simpa using hlt)] at hn; cases hn
                  · rw [List.getElem?_set_ne hni] at hn ⊢
                    obtain ⟨w, w1, w2⟩ := ((sr'.mono l2.toLo).set j r2).get n d hn
                    refine ⟨w, ?_, w2⟩
                    by_cases hjn : j = n
                    · subst hjn
                      have hlt : j < σ'.length := by
                        have := (List.getElem?_eq_some_iff.mp w1).1
                        simpa using this
                      rw [List.getElem?_set_self (by simpa using hlt)]
                      rw [List.getElem?_set_self hlt] at w1
                      exact w1
                    · rw [List.getElem?_set_ne hjn] at w1 ⊢
                      rw [List.getElem?_set_ne hni]
                      exact w1
            · rw [if_neg hlen] at p
              exact p.elim
        · subst hb
          exact p ω' σ' H' cls dd l sr' rel' rx
/-! ### all statements -/
mutual
theorem snd_S : ∀ (i : IS) (X : Cx) (W : WX) (e : Stmt), chkS G Γ i e = true → EOk G call k X Γ W → (X.stack = X.env :: X.outer ∧ X.env.frame = some X.env.locals) → PS X e (liftS X.K X.mg W (evS call i))
  | .asg t q, X, W, e, h, E, S => by
    cases e <;> first | (cases h; done) | skip
    rename_i tgs x pos
    rcases tgs with _ | ⟨tg, _ | ⟨_, _⟩⟩ <;> first | (cases h; done) | skip
    simp only [chkS, Bool.and_eq_true, Bool.not_eq_true'] at h
    obtain ⟨⟨⟨⟨h0, h1⟩, h2⟩, h3⟩, h4⟩ := h
    exact PSc (snds_asg h0 (pg_T E.N E.nd E.sc E.fn E.calm t tg h1) (snd_E h2 E) h3 h4) fun _ _ => rfl
  | .par i j a b, X, W, e, h, E, S => by
    cases e <;> first | (cases h; done) | skip
    rename_i tgs x pos
    rcases tgs with _ | ⟨tg, _ | ⟨_, _⟩⟩ <;> first | (cases h; done) | (simp [chkS] at h; done) | skip
    cases tg <;> first | (cases h; done) | skip
    rename_i ts kt pt
    rcases ts with _ | ⟨t1, _ | ⟨t2, _ | ⟨_, _⟩⟩⟩ <;> first | (cases h; done) | (simp [chkS] at h; done) | skip
    cases t1 <;> first | (cases h; done) | skip
    cases t2 <;> first | (cases h; done) | skip
    cases x <;> first | (cases h; done) | skip
    rename_i xs k2 p2
    rcases xs with _ | ⟨ea, _ | ⟨eb, _ | ⟨_, _⟩⟩⟩ <;> first | (cases h; done) | (simp [chkS] at h; done) | skip
    simp only [chkS, Bool.and_eq_true, Bool.not_eq_true', decide_eq_true_eq] at h
    obtain ⟨⟨⟨⟨⟨⟨⟨⟨⟨⟨⟨h1, h2⟩, h3⟩, h4⟩, h5⟩, h6⟩, h7⟩, h8⟩, h9⟩, h10⟩, h11⟩, h12⟩ := h
    refine PSc (snds_par E h1 h2 h3 h4 h5 h6 h7 (snd_E h8 E) (snd_E h9 E) ?_) fun _ _ => rfl
    refine swapped_two E.kind (by rw [E.sc]; exact kindB_iff.mp h4) (by rw [E.sc]; exact kindB_iff.mp h5) (fun z => ?_) h6 h7 h10 h11 h12
    subst z
    exact h3 (nodup_ix E.nd (by rw [E.N]; exact h1) (by rw [E.N]; exact h2))
  | .put o i q, X, W, e, h, E, S => by
    cases e <;> first | (cases h; done) | skip
    rename_i tgs x pos
    rcases tgs with _ | ⟨tg, _ | ⟨_, _⟩⟩ <;> first | (cases h; done) | (simp [chkS] at h; done) | skip
    cases tg <;> first | (cases h; done) | skip
    simp only [chkS, Bool.and_eq_true, Bool.not_eq_true'] at h
    obtain ⟨⟨⟨⟨h0, h1⟩, h2⟩, h3⟩, h4⟩ := h
    exact PSc (snds_put h0 h1 (snd_E h2 E) (snd_E h3 E) (snd_E h4 E)) fun _ _ => rfl
  | .aug i o q, X, W, e, h, E, S => by
    cases e <;> first | (cases h; done) | skip
    rename_i tg op x pos
    cases tg <;> first | (cases h; done) | skip
    simp only [chkS, Bool.and_eq_true, Bool.or_eq_true, decide_eq_true_eq] at h
    obtain ⟨⟨⟨⟨h0, h1⟩, h2⟩, rfl, h3⟩, h4⟩ := h
    exact PSc (snds_aug E h0 h1 h2 h3 (snd_E h4 E)) fun _ _ => rfl
  | .expr q, X, W, e, h, E, S => by
    cases e <;> first | (cases h; done) | skip
    simp only [chkS, Bool.and_eq_true, Bool.not_eq_true'] at h
    exact PSc (snds_expr (snd_E h.2 E) h.1) fun _ _ => rfl
  | .ret q, X, W, e, h, E, S => by
    cases e <;> first | (cases h; done) | skip
    rename_i v pos
    cases v with
    | none => cases h
    | some x => exact PSc (snds_ret (snd_E h E)) fun _ _ => rfl
  | .retN, X, W, e, h, E, S => by
    cases e <;> first | (cases h; done) | skip
    rename_i v pos
    cases v with
    | none => exact PS.weak ps_retN fun D σ H ⟨ω, sl, c, sr, rel, p⟩ => p ω .non H .rfl rel .non
    | some _ => cases h
  | .ifs q a b, X, W, e, h, E, S => by
    cases e <;> first | (cases h; done) | skip
    simp only [chkS, Bool.and_eq_true] at h
    exact PSc (snds_if (snd_T h.1.1 E) (snd_Ss a X W _ h.1.2 E S) (snd_Ss b X W _ h.2 E S)) fun _ _ => rfl
  | .whl q b, X, W, e, h, E, S => by
    cases e <;> first | (cases h; done) | skip
    rename_i c x el pos
    cases el <;> first | (cases h; done) | skip
    simp only [chkS, Bool.and_eq_true] at h
    exact PSc (snds_whl E (snd_T h.1 E) (snd_Ss b X W _ h.2 E S)) fun _ _ => rfl
  | .for t s b, X, W, e, h, E, S => by
    cases e <;> first | (cases h; done) | skip
    rename_i tg it x el pos
    cases el <;> first | (cases h; done) | skip
    simp only [chkS, Bool.and_eq_true, Bool.not_eq_true'] at h
    exact PSc (snds_for E (pg_T E.N E.nd E.sc E.fn E.calm t tg h.1.1.1) (snd_I s Γ X W it tg h.1.1.2 E) h.1.2 (snd_Ss b X W _ h.2 E S)) fun _ _ => rfl
  | .pass, X, W, e, h, E, S => by
    cases e <;> first | (cases h; done) | skip
    exact PS.weak ps_pass fun D σ H ⟨ω, sl, c, sr, rel, p⟩ => p ω σ H .rfl sr rel
  | .brk, X, W, e, h, E, S => by
    cases e <;> first | (cases h; done) | skip
    exact PS.weak ps_break fun D σ H ⟨ω, sl, c, sr, rel, p⟩ => p ω σ H .rfl sr rel
  | .cont, X, W, e, h, E, S => by
    cases e <;> first | (cases h; done) | skip
    exact PS.weak ps_continue fun D σ H ⟨ω, sl, c, sr, rel, p⟩ => p ω σ H .rfl sr rel
  | .nev, X, W, e, h, E, S => PS.weak ps_never fun D σ H ⟨ω, sl, c, sr, rel, p⟩ => p.elim
  | .rse C n sup fl es, X, W, e, h, E, S => by
    cases e <;> first | (cases h; done) | skip
    rename_i v cs pos
    cases v with
    | none => cases h
    | some v =>
      cases cs with
      | some _ => simp [chkS] at h
      | none =>
        cases v <;> first | (cases h; done) | skip
        rename_i o xs kws p1
        cases o <;> first | (cases h; done) | skip
        cases kws <;> first | (cases h; done) | skip
        simp only [chkS, Bool.and_eq_true, decide_eq_true_eq] at h
        obtain ⟨⟨⟨⟨h0, h1⟩, h2⟩, h3⟩, h4⟩ := h
        refine PSc (snds_rse E h0 h1 h2 h3 (chkA_all h4) (fun z sl c => ?_) (snd_A es Γ X W xs h4 E)) fun _ _ => rfl
        subst z
        cases es with
        | nil => rfl
        | cons _ _ => cases h4
  | .tryA b D i hx tg, X, W, e, h, E, S => by
    cases e <;> first | (cases h; done) | skip
    rename_i body hds orelse fin pos
    rcases hds with _ | ⟨hd, _ | ⟨_, _⟩⟩ <;> first | (cases h; done) | (simp [chkS] at h; done) | skip
    cases hd
    rename_i ty nm suite p2
    cases ty <;> first | (cases h; done) | skip
    rename_i ty
    cases ty <;> first | (cases h; done) | skip
    cases nm <;> first | (cases h; done) | skip
    rcases suite with _ | ⟨st, _ | ⟨_, _⟩⟩ <;> first | (cases h; done) | (simp [chkS] at h; done) | skip
    cases orelse <;> first | (cases h; done) | skip
    cases fin <;> first | (cases h; done) | skip
    simp only [chkS, Bool.and_eq_true, decide_eq_true_eq] at h
    obtain ⟨⟨⟨⟨⟨⟨h0, h1⟩, h2⟩, h3⟩, h4⟩, h5⟩, h6⟩ := h
    exact PSc (snds_try E S h0 (by simpa using h1) h2 h3 h4 h5 fun W' pn xe E' => snd_Ss b (X.tr pn xe) W' _ h6 E' S) fun _ _ => rfl
theorem snd_Ss : ∀ (i : ISs) (X : Cx) (W : WX) (e : List Stmt), chkSs G Γ i e = true → EOk G call k X Γ W → (X.stack = X.env :: X.outer ∧ X.env.frame = some X.env.locals) → PSs X e (liftS X.K X.mg W (evSs call i))
  | .nil, X, W, e, h, E, S => by
    cases e with
    | nil => exact PSs.weak snds_nil fun D σ H => liftS.conv fun _ _ => rfl
    | cons _ _ => cases h
  | .cons s r, X, W, e, h, E, S => by
    cases e with
    | nil => cases h
    | cons x xs =>
      simp only [chkSs, Bool.and_eq_true] at h
      refine PSs.weak (snds_cons (snd_S s X W x h.1 E S) (snd_Ss r X W xs h.2 E S)) fun D σ H => liftS.conv fun sl c => ?_
      show evSs call (.cons s r) sl c = seqK (evS call s sl c) (evSs call r)
      rw [evSs]
      unfold seqK
      cases evS call s sl c with
      | stuck => rfl
      | ok f c => cases f <;> rfl
end
end
end Hv

set_option Elab.async false
set_option linter.all false
set_option maxRecDepth 100000
set_option maxHeartbeats 4000000
/-! HvI: defs, the whole text. -/
namespace Hv
open PySem PySem.Spec PyProof.Rows L2

/-- a def of the text as it stands behind the top, and its inner form -/
def DefA (K : PySem.W.Frag) (mg : Str → Option Value) (G : GE) (f : Nat) (fd0 : FD) (a : Addr) (fd : FuncData) (ps : List Str) : Prop :=
  (∃ x, G.names[f]? = some x ∧ mg x = some (.ref a)) ∧ PySem.W.keepIn K (.ref a) = true ∧ ∃ (name qual : Str) (params : Arguments) (body : List Stmt) (scope : Scope) (dV kV doc pm cdv ct oc : Value) (an od : Option Addr) (osl : Array (Option Value)) (N : List Str),
    fd = PySem.W.fnOf name qual params body scope dV kV doc pm an cdv ct ∧ K.lookup a = some ⟨oc, od, .func fd, osl⟩ ∧ PySem.W.codeIn K cdv qual = true ∧ FnScope N ps scope ∧ ps.length = fd0.ps ∧ N.length = fd0.n ∧ chkSs G ⟨N, scope, fun _ => true⟩ fd0.body body = true
structure AllOk (K : PySem.W.Frag) (mg : Str → Option Value) (G : GE) (T : List FD) : Prop where
  blt : ∀ f : Blt, mg (bltName f) = none
  rng : mg "range" = none
  ty : ∀ n, n ∈ tyNames → mg (Str.ofString n) = none
  shp : ∀ f n ks src, (f, n, ks, src) ∈ G.shapes → ∃ fd0 a fd ps, T[f]? = some fd0 ∧ DefA K mg G f fd0 a fd ps ∧ ShapeOk K fd ps n ks src
  exc : ∀ C n fl sup, (C, n, fl, sup) ∈ G.excs → n ≤ 1000 ∧ fl ≠ [] ∧ fl.length ≤ 800 ∧ ∃ a fI fd ps, XInfo K mg C a sup (fl.map (·.1)) ∧ PySem.W.findIn K (.ref a) "__init__" = some (some (.ref fI)) ∧ PySem.W.typeIn K (.ref fI) = some (.type "function") ∧ InitA K n fl fI fd ps ∧ (∀ (s : Shared) (us : List Value), us.length = n + 1 → BindsTo s fd ⟨us, []⟩ (ps.zip us))
  cls : ∀ n, n ∈ G.cls → ∃ v u, ClsN mg n v u
section
variable {P : Program} {w : World} {K : PySem.W.Frag} {mg : Str → Option Value} {base : Heap} {G : GE} {T : List FD}
theorem begin_sr {ω : Wd} {ds : List D} {vs : List V} {N : List Str} {n : Nat} (r : Rs K mg ω ds vs) (hn : N.length = n) (hl : ds.length ≤ n) : SR K mg ω (begin_ n ds) (L2.start N vs) := by
  have e := r.length
  refine ⟨?_, fun i d h => ?_⟩
  · unfold begin_ L2.start
    simp only [List.length_append, List.length_map, List.length_replicate]
    omega
  · unfold begin_ at h
    unfold L2.start
    by_cases hi : i < ds.length
    · rw [List.getElem?_append_left (by simpa using hi), List.getElem?_map] at h
      cases q : ds[i]? with
      | none => rw [q] at h; cases h
      | some x =>
        rw [q] at h
        cases h
        obtain ⟨v, h1, h2⟩ := r.get q
        refine ⟨v, ?_, h2⟩
        rw [List.getElem?_append_left (by simp; omega), List.getElem?_map, h1]
        rfl
    · rw [List.getElem?_append_right (by simpa using hi), List.getElem?_replicate] at h
      split at h <;> cases h
theorem def_ok (A : AllOk K mg G T) : ∀ (k : Nat) (f : Nat) (fd0 : FD) (a : Addr) (fd : FuncData) (ps : List Str), T[f]? = some fd0 → DefA K mg G f fd0 a fd ps → FnOk P w K mg base (L2.CX P w) (k + 2) a fd ps (spC K mg (evF T k) f ps.length)
  | 0, f, fd0, a, fd, ps, hT, h => ⟨fun vs H Q E h => h.1, fun A outer s H args us vs Q E _ _ _ _ h => by
    obtain ⟨_, ω, c, ds, _, _, p⟩ := h
    exact p.elim⟩
  | k + 1, f, fd0, a, fd, ps, hT, h => by
    obtain ⟨h1, h2, name, qual, params, body, scope, dV, kV, doc, pm, cdv, ct, oc, an, od, osl, N, rfl, lk, hcd, S, e1, e2, hchk⟩ := h
    refine fn_of lk hcd S (fun vs H Q E h => h.1) fun A' outer s H vs Q E hr hsp => ?_
    have E0 : EOk G (evF T k) (k + 2) (cxOf (L2.CX P w) P w K mg base N qual scope a cdv A' outer s H E) ⟨N, scope, fun _ => true⟩ (fun cls d _ H => E cls d H) :=
      { g := ⟨A.blt, A.rng, A.ty, fun f n ks src hs => by
          obtain ⟨fd0', a', fd', ps', q1, q2, q3⟩ := A.shp f n ks src hs
          exact ⟨q2.1.choose, a', fd', ps', q2.1.choose_spec.1, q2.1.choose_spec.2, q2.2.1, def_ok A k f fd0' a' fd' ps' q1 q2, q3⟩, fun C n fl sup hs => by
          obtain ⟨z1, z2, z3, b, fI, fdI, psI, z4, z5, z6, z7, z8⟩ := A.exc C n fl sup hs
          exact ⟨z1, b, fI, fdI, psI, z4, ⟨z4.oex, z4.nof, z5, z6, init_ok z2 z3 z7, z8⟩⟩, A.cls⟩
        N := rfl, nd := S.nd, sc := rfl, calm := rfl, kind := S.kind, fn := fun _ _ => rfl, room := hr, two := by omega, takes := takes_of rfl rfl rfl rfl, own := passes_of rfl }
    refine ⟨_, snd_Ss fd0.body _ _ body hchk E0 ⟨rfl, rfl⟩, ?_⟩
    obtain ⟨hl, ω, c, ds, rel, rs, p⟩ := hsp
    have hle : ps.length ≤ N.length := by
      have := congrArg List.length S.pre
      rw [List.length_take] at this
      omega
    have hds : ds.length = fd0.ps := by rw [rs.length, hl, e1]
    refine ⟨ω, begin_ fd0.n ds, c, begin_sr rs e2 (by omega), rel, ?_⟩
    have he : evF T (k + 1) f ds c = fin (evSs (evF T k) fd0.body (begin_ fd0.n ds) c) := by
      show (match T[f]? with | none => Res.stuck | some fd => runF (evF T k) fd ds c) = _
      rw [hT]
      show runF (evF T k) fd0 ds c = _
      unfold runF
      rw [if_pos hds]
    rw [he] at p
    show PostS K mg ω (fun cls d _ H => E cls d H) _ (evSs (evF T k) fd0.body (begin_ fd0.n ds) c)
    cases hr : evSs (evF T k) fd0.body (begin_ fd0.n ds) c with
    | stuck => rw [hr] at p; exact p
    | ok fl c' =>
      rw [hr] at p
      cases fl with
      | nx sl => exact fun ω' σ' H' l _ rel' => p ω' .non H' l rel' .non
      | rt d sl => exact fun ω' v H' l rel' r => p ω' v H' l rel' r
      | bk sl => exact p.elim
      | ct sl => exact p.elim
      | ex x sl => exact fun ω' σ' H' cls dd l _ rel' rx => p ω' H' cls dd l rel' rx
/-- the law's promise -/
def spLaw (K : PySem.W.Frag) : Sp := fun vs H Q _ => ∃ (a : Addr) (ns : List Int), vs = [.ref a] ∧ SqL K H a (ns.map V.int) ∧ ns.length ≤ 63 ∧ ∀ H', Q (.bl true) H'
theorem law_ok (A : AllOk K mg G T) {k : Nat} {f : Nat} {fd0 : FD} {a : Addr} {fd : FuncData} {p : Str} (hT : T[f]? = some fd0) (h : DefA K mg G f fd0 a fd [p])
    (hlaw : ∀ ns : List Int, ns.length ≤ 63 → ∃ c, evF T k f [.lst (ns.map .int)] [] = .ok (.bl true) c) : FnOk P w K mg base (L2.CX P w) (k + 2) a fd [p] (spLaw K) :=
  (def_ok A k f fd0 a fd [p] hT h).imp fun vs H Q E ⟨a, ns, e, hs, hn, q⟩ => by
    subst e
    obtain ⟨c, he⟩ := hlaw ns hn
    refine ⟨rfl, ⟨H, [], []⟩, [], [.lst (ns.map .int)], .start H, .cons (.lst hs (.ints ns)) .nil, ?_⟩
    rw [he]
    intro ω' b H' l rel r
    cases r
    exact q H'
theorem cx_end {w : World} {H : Hp} {s : Shared} {e : Value} {s' : Shared} (h : L2.CX P w [] H s (fun _ _ _ => False) e s') : False := by
  obtain ⟨_, _, _, _, _, _, _, _, _, _, _, _, z⟩ := h
  exact z
theorem cst_vals1 {c : V} {dv : List Value} (h : Vals [c] dv) : ∃ d0, dv = [d0] ∧ RelV c d0 := by
  cases h with
  | cons r t => cases t; exact ⟨_, rfl, r⟩
theorem cst_vals2 {c c' : V} {dv : List Value} (h : Vals [c, c'] dv) : ∃ d0 d1, dv = [d0, d1] ∧ RelV c d0 ∧ RelV c' d1 := by
  cases h with
  | cons r t => cases t with
    | cons r' t => cases t; exact ⟨_, _, rfl, r, r'⟩
end
end Hv

set_option Elab.async false
set_option linter.all false
set_option maxRecDepth 100000
set_option maxHeartbeats 4000000
/-! HvS: running the inner form by rewriting; the laws' own helpers. -/
namespace Hv
open PySem PySem.Spec PyProof.Rows L2

theorem evF_at {T : List FD} {k i : Nat} {fd : FD} (h : T[i]? = some fd) (as : List D) (c : Ct) : evF T (k + 1) i as c = runF (evF T k) fd as c := by
  show (match T[i]? with | none => Res.stuck | some fd => runF (evF T k) fd as c) = _
  rw [h]
theorem evSs_cons (call : CallF) (s : IS) (r : ISs) (sl : Sl) (c : Ct) : evSs call (.cons s r) sl c = seqK (evS call s sl c) (evSs call r) := by
  rw [evSs]
  unfold seqK
  cases evS call s sl c with
  | stuck => rfl
  | ok f c => cases f <;> rfl
theorem evSs_nil (call : CallF) (sl : Sl) (c : Ct) : evSs call .nil sl c = .ok (.nx sl) c := rfl
theorem seqK_nx (sl : Sl) (c : Ct) (k : Sl → Ct → RS) : seqK (.ok (.nx sl) c) k = k sl c := rfl
theorem seqK_rt (d : D) (sl : Sl) (c : Ct) (k : Sl → Ct → RS) : seqK (.ok (.rt d sl) c) k = .ok (.rt d sl) c := rfl
theorem seqK_ex (d : XD) (sl : Sl) (c : Ct) (k : Sl → Ct → RS) : seqK (.ok (.ex d sl) c) k = .ok (.ex d sl) c := rfl
theorem seqK_bk (sl : Sl) (c : Ct) (k : Sl → Ct → RS) : seqK (.ok (.bk sl) c) k = .ok (.bk sl) c := rfl
theorem seqK_ct (sl : Sl) (c : Ct) (k : Sl → Ct → RS) : seqK (.ok (.ct sl) c) k = .ok (.ct sl) c := rfl
theorem seqK_ite {p : Prop} [Decidable p] (a b : RS) (k : Sl → Ct → RS) : seqK (if p then a else b) k = if p then seqK a k else seqK b k := by split <;> rfl
theorem fin_nx (sl : Sl) (c : Ct) : fin (.ok (.nx sl) c) = .ok .non c := rfl
theorem fin_rt (d : D) (sl : Sl) (c : Ct) : fin (.ok (.rt d sl) c) = .ok d c := rfl
theorem fin_ex (d : XD) (sl : Sl) (c : Ct) : fin (.ok (.ex d sl) c) = .exc d c := rfl
theorem fin_ite {p : Prop} [Decidable p] (a b : RS) : fin (if p then a else b) = if p then fin a else fin b := by split <;> rfl
theorem bolK_bl (b : Bool) (c : Ct) : bolK (.bl b) c = .ok b c := rfl
theorem varK_some (d : D) (c : Ct) : varK (some (some d)) c = .ok d c := rfl
theorem andK_t (f : Ct → Res D) (c : Ct) : andK (.bl true) f c = f c := rfl
theorem andK_f (f : Ct → Res D) (c : Ct) : andK (.bl false) f c = .ok (.bl false) c := rfl
theorem orK_t (f : Ct → Res D) (c : Ct) : orK (.bl true) f c = .ok (.bl true) c := rfl
theorem orK_f (f : Ct → Res D) (c : Ct) : orK (.bl false) f c = f c := rfl
theorem notK_bl (b : Bool) (c : Ct) : notK (.bl b) c = .ok (.bl (!b)) c := rfl
theorem and_bl (b : Bool) (f : Ct → Res D) (c : Ct) : andK (.bl b) f c = if b = true then f c else .ok (.bl false) c := by cases b <;> rfl
theorem or_bl (b : Bool) (f : Ct → Res D) (c : Ct) : orK (.bl b) f c = if b = true then .ok (.bl true) c else f c := by cases b <;> rfl
theorem bnd_ite {α β : Type} {p : Prop} [Decidable p] (a b : Res α) (k : α → Ct → Res β) : bnd (if p then a else b) k = if p then bnd a k else bnd b k := by split <;> rfl
theorem ofR_ite {α : Type} {p : Prop} [Decidable p] (a b : Res α) (sl : Sl) (k : α → Ct → RS) : ofR (if p then a else b) sl k = if p then ofR a sl k else ofR b sl k := by split <;> rfl
theorem tru_bl' (b : Bool) (c : Ct) : truD (.bl b) c = .ok b c := rfl
theorem truK_bl (b : Bool) (c : Ct) : truK (.bl b) c = .ok (.bl b) c := rfl
theorem tupK_ok {ds : List D} (h : ds.length ≤ 1000) (c : Ct) : tupK ds c = .ok (.tup ds) c := by unfold tupK; rw [if_pos h]
theorem lstK_f {ds : List D} (h : ds.length ≤ 1000) (c : Ct) : lstK false ds c = .ok (.lst ds) c := by unfold lstK; rw [if_pos h]; rfl
theorem lstK_t {ds : List D} (h : ds.length ≤ 1000) (c : Ct) : lstK true ds c = .ok (.ref c.length) (c ++ [.lst ds]) := by unfold lstK; rw [if_pos h]; rfl
theorem its_ref {n : Nat} {c : Ct} {xs : List D} (h : c[n]? = some (.lst xs)) : itsD (.ref n) c = some xs := by
  dsimp only [itsD]
  rw [h]
theorem idx_its {x : D} {k : Int} {c : Ct} {xs : List D} {d : D} (h : itsD x c = some xs) (h2 : atI xs k = some d) : idxD x (.int k) c = .ok d c := by
  dsimp only [idxD]
  rw [h]
  simp only
  rw [h2]
  rfl
theorem put_ref {n : Nat} {k : Int} {c : Ct} {xs : List D} {d : D} {j : Nat} (h : c[n]? = some (.lst xs)) (h2 : ixN xs.length k = some j) : putD (.ref n) (.int k) d c = some (c.set n (.lst (xs.set j d))) := by
  dsimp only [putD]
  rw [h]
  simp only
  rw [h2]
  rfl
theorem ofNat_fmod (a b : Int) (hb : 0 < b) : a.fmod b = a % b := Int.fmod_eq_emod_of_nonneg a (by omega)
theorem ofNat_fdiv (a b : Int) (hb : 0 < b) : a.fdiv b = a / b := Int.fdiv_eq_ediv_of_nonneg a (by omega)
theorem mulD {i j : Int} (h : i.natAbs.log2 + j.natAbs.log2 < big) (c : Ct) : binD .mul (.int i) (.int j) c = .ok (.int (i * j)) c := by
  show (if _ then _ else _) = _
  rw [if_pos h]
theorem modD {i j : Int} (h : 0 < j) (c : Ct) : binD .mod (.int i) (.int j) c = .ok (.int (i % j)) c := by
  show (if _ then _ else _) = _
  rw [if_pos (show j ≠ 0 by omega), ofNat_fmod _ _ h]
theorem divD {i j : Int} (h : 0 < j) (h2 : j.natAbs.log2 < 9000) (c : Ct) : binD .fdiv (.int i) (.int j) c = .ok (.int (i / j)) c := by
  show (if _ then _ else _) = _
  rw [if_pos ⟨(show j ≠ 0 by omega), h2⟩, ofNat_fdiv _ _ h]
theorem log2_lt {i : Int} {n : Nat} (hn : 0 < n) (h : i.natAbs < 2 ^ n) : i.natAbs.log2 < n := PySem.Flt.log2_lt_of hn h
theorem mulD' {i j : Int} (a b : Nat) (ha : i.natAbs < 2 ^ a) (hb : j.natAbs < 2 ^ b) (h0 : 0 < a) (h1 : 0 < b) (h : a + b ≤ 1000000) (c : Ct) : binD .mul (.int i) (.int j) c = .ok (.int (i * j)) c :=
  mulD (by have := log2_lt h0 ha; have := log2_lt h1 hb; unfold big; omega) c

theorem bin_add (i j : Int) (c : Ct) : binD .add (.int i) (.int j) c = .ok (.int (i + j)) c := rfl
theorem bin_sub (i j : Int) (c : Ct) : binD .sub (.int i) (.int j) c = .ok (.int (i - j)) c := rfl
theorem cmp_lt (i j : Int) (c : Ct) : cmpD .lt (.int i) (.int j) c = .ok (.bl (decide (i < j))) c := rfl
theorem cmp_le (i j : Int) (c : Ct) : cmpD .le (.int i) (.int j) c = .ok (.bl (decide (i ≤ j))) c := rfl
theorem cmp_gt (i j : Int) (c : Ct) : cmpD .gt (.int i) (.int j) c = .ok (.bl (decide (j < i))) c := rfl
theorem cmp_ge (i j : Int) (c : Ct) : cmpD .ge (.int i) (.int j) c = .ok (.bl (decide (j ≤ i))) c := rfl
theorem cmp_eqI (i j : Int) (c : Ct) : cmpD .eq (.int i) (.int j) c = .ok (.bl (decide (i = j))) c := rfl
theorem cmp_neI (i j : Int) (c : Ct) : cmpD .ne (.int i) (.int j) c = .ok (.bl (!decide (i = j))) c := rfl
theorem cmp_eqB (i j : Bool) (c : Ct) : cmpD .eq (.bl i) (.bl j) c = .ok (.bl (decide (i = j))) c := rfl
theorem cmp_neB (i j : Bool) (c : Ct) : cmpD .ne (.bl i) (.bl j) c = .ok (.bl (!decide (i = j))) c := rfl
theorem cmp_eqS (i j : Str) (c : Ct) : cmpD .eq (.str i) (.str j) c = .ok (.bl (decide (i = j))) c := rfl
theorem cmp_neS (i j : Str) (c : Ct) : cmpD .ne (.str i) (.str j) c = .ok (.bl (!decide (i = j))) c := rfl
theorem cmp_isN (x : D) (c : Ct) : cmpD .is x .non c = .ok (.bl (isNon x)) c := by cases x <;> rfl
theorem cmp_isnN (x : D) (c : Ct) : cmpD .isn x .non c = .ok (.bl (!isNon x)) c := by cases x <;> rfl
theorem cmp_isB (i j : Bool) (c : Ct) : cmpD .is (.bl i) (.bl j) c = .ok (.bl (decide (i = j))) c := rfl
theorem len_lst (xs : List D) (c : Ct) : bltD .len [.lst xs] c = .ok (.int (xs.length : Int)) c := rfl
theorem len_tup (xs : List D) (c : Ct) : bltD .len [.tup xs] c = .ok (.int (xs.length : Int)) c := rfl
theorem mod_nn {i j : Int} (h : 0 < j) : 0 ≤ i % j ∧ i % j < j := ⟨Int.emod_nonneg _ (by omega), Int.emod_lt_of_pos _ h⟩
theorem idx_nat {x : D} {c : Ct} {xs : List D} {i : Int} {d : D} (h : itsD x c = some xs) (h0 : 0 ≤ i) (h2 : xs[i.toNat]? = some d) : idxD x (.int i) c = .ok d c := by
  refine idx_its h ?_
  have hl := (List.getElem?_eq_some_iff.mp h2).1
  unfold atI ixN
  rw [if_pos h0, if_pos (by omega)]
  exact h2
/-! ### the laws' draws -/
def bPick : ISs := (.cons (.put (.var 0) (.cst (.int 4)) (.bin .add (.idx (.var 0) (.cst (.int 4))) (.cst (.int 1)))) (.cons (.ifs (.and (.cmp .eq (.idx (.var 0) (.cst (.int 2))) (.cst (.int 0))) (.cmp .lt (.idx (.var 0) (.cst (.int 1))) (.blt .len (.cons (.idx (.var 0) (.cst (.int 0))) .nil)))) (.cons (.asg (.nm 2) (.idx (.idx (.var 0) (.cst (.int 0))) (.idx (.var 0) (.cst (.int 1))))) (.cons (.put (.var 0) (.cst (.int 1)) (.bin .add (.idx (.var 0) (.cst (.int 1))) (.cst (.int 1)))) (.cons (.ifs (.cmp .ge (.var 2) (.bin .pow (.cst (.int 10)) (.cst (.int 18)))) (.cons (.put (.var 0) (.cst (.int 2)) (.var 2)) .nil) (.cons (.put (.var 0) (.cst (.int 3)) (.bin .mod (.bin .add (.bin .add (.bin .mul (.idx (.var 0) (.cst (.int 3))) (.cst (.int 69069))) (.bin .mul (.bin .mod (.var 2) (.cst (.int 2147483629))) (.cst (.int 40503)))) (.cst (.int 11))) (.cst (.int 2147483587)))) .nil)) .nil))) .nil) (.cons (.ifs (.cmp .gt (.idx (.var 0) (.cst (.int 2))) (.cst (.int 0))) (.cons (.asg (.nm 3) (.bin .mod (.idx (.var 0) (.cst (.int 2))) (.var 1))) (.cons (.put (.var 0) (.cst (.int 2)) (.bin .fdiv (.idx (.var 0) (.cst (.int 2))) (.var 1))) (.cons (.ret (.var 3)) .nil))) .nil) (.cons (.asg (.nm 4) (.idx (.var 0) (.cst (.int 3)))) (.cons (.put (.var 0) (.cst (.int 3)) (.bin .mod (.bin .add (.bin .add (.bin .add (.bin .mul (.bin .mod (.bin .mul (.var 4) (.var 4)) (.cst (.int 2147483563))) (.cst (.int 16807))) (.bin .mul (.var 4) (.cst (.int 48271)))) (.cst (.int 40692))) (.idx (.var 0) (.cst (.int 4)))) (.cst (.int 2147483587)))) (.cons (.ret (.bin .mod (.bin .add (.bin .fdiv (.idx (.var 0) (.cst (.int 3))) (.cst (.int 97))) (.bin .mul (.bin .mod (.idx (.var 0) (.cst (.int 3))) (.cst (.int 7919))) (.cst (.int 31)))) (.var 1))) .nil))))))
/-- a deal: the script's numbers, the place, what is left of a great one, the seed, how many draws -/
def deal (ns : List Int) (i b s n : Int) : List D := [.lst (ns.map .int), .int i, .int b, .int s, .int n]
structure DealOk (ns : List Int) (x : List D) : Prop where
  ex : ∃ i b s n : Int, x = deal ns i b s n ∧ 0 ≤ i ∧ 0 ≤ b ∧ 0 ≤ s ∧ s < 2147483587
section
variable {call : CallF} {ns : List Int} {i b s n : Int} {r : Nat} {c : Ct}
theorem deal_at (j : Nat) : atI (deal ns i b s n) (j : Int) = (deal ns i b s n)[j]? := by
  have hl : (deal ns i b s n).length = 5 := rfl
  unfold atI ixN
  rw [hl, if_pos (by omega)]
  by_cases h : j < 5
  · rw [if_pos (by omega)]
    rfl
  · rw [if_neg (by omega), List.getElem?_eq_none (by rw [hl]; omega)]
    rfl
theorem idx0 (h : c[r]? = some (.lst (deal ns i b s n))) : idxD (.ref r) (.int 0) c = .ok (.lst (ns.map .int)) c := idx_its (its_ref h) (deal_at 0)
theorem idx1 (h : c[r]? = some (.lst (deal ns i b s n))) : idxD (.ref r) (.int 1) c = .ok (.int i) c := idx_its (its_ref h) (deal_at 1)
theorem idx2 (h : c[r]? = some (.lst (deal ns i b s n))) : idxD (.ref r) (.int 2) c = .ok (.int b) c := idx_its (its_ref h) (deal_at 2)
theorem idx3 (h : c[r]? = some (.lst (deal ns i b s n))) : idxD (.ref r) (.int 3) c = .ok (.int s) c := idx_its (its_ref h) (deal_at 3)
theorem idx4 (h : c[r]? = some (.lst (deal ns i b s n))) : idxD (.ref r) (.int 4) c = .ok (.int n) c := idx_its (its_ref h) (deal_at 4)
theorem put1 (h : c[r]? = some (.lst (deal ns i b s n))) (v : Int) : putD (.ref r) (.int 1) (.int v) c = some (c.set r (.lst (deal ns v b s n))) := by rw [put_ref (j := 1) h rfl]; rfl
theorem put2 (h : c[r]? = some (.lst (deal ns i b s n))) (v : Int) : putD (.ref r) (.int 2) (.int v) c = some (c.set r (.lst (deal ns i v s n))) := by rw [put_ref (j := 2) h rfl]; rfl
theorem put3 (h : c[r]? = some (.lst (deal ns i b s n))) (v : Int) : putD (.ref r) (.int 3) (.int v) c = some (c.set r (.lst (deal ns i b v n))) := by rw [put_ref (j := 3) h rfl]; rfl
theorem put4 (h : c[r]? = some (.lst (deal ns i b s n))) (v : Int) : putD (.ref r) (.int 4) (.int v) c = some (c.set r (.lst (deal ns i b s v))) := by rw [put_ref (j := 4) h rfl]; rfl
theorem set_at {c : Ct} {r : Nat} {u : Cell} (h : r < c.length) : (c.set r u)[r]? = some u := List.getElem?_set_self h
theorem sm31 {s : Int} (h0 : 0 ≤ s) (h : s < 2147483648) : s.natAbs < 2 ^ 31 := by omega
set_option maxHeartbeats 16000000 in
theorem pick_ok {T : List FD} {k p : Nat} (hT : T[p]? = some ⟨2, 5, bPick⟩) {ns : List Int} {c : Ct} {r : Nat} {x : List D} {m : Int} (hc : c[r]? = some (.lst x)) (hx : DealOk ns x) (hm : 0 < m) (hm2 : m.natAbs.log2 < 9000) :
    ∃ x' v, DealOk ns x' ∧ 0 ≤ v ∧ v < m ∧ evF T (k + 1) p [.ref r, .int m] c = .ok (.int v) (c.set r (.lst x')) := by
  obtain ⟨i, b, s, n, rfl, hi, hb, hs, hs2⟩ := hx.ex
  have hr : r < c.length := (List.getElem?_eq_some_iff.mp hc).1
  rw [evF_at hT]
  show ∃ x' v, DealOk ns x' ∧ 0 ≤ v ∧ v < m ∧ fin (evSs (evF T k) bPick [some (.ref r), some (.int m), none, none, none] c) = .ok (.int v) (c.set r (.lst x'))
  unfold bPick
  have h1 : (c.set r (.lst (deal ns i b s (n + 1))))[r]? = some (.lst (deal ns i b s (n + 1))) := set_at hr
  generalize hc1 : c.set r (.lst (deal ns i b s (n + 1))) = c1 at h1
  have hr1 : r < c1.length := by rw [← hc1]; simpa using hr
  have set1 : ∀ u, c1.set r u = c.set r u := fun u => by rw [← hc1, List.set_set]
  -- the next of the script, if it is asked
  have A : ∃ w i2 b2 s2, 0 ≤ i2 ∧ 0 ≤ b2 ∧ 0 ≤ s2 ∧ s2 < 2147483587 ∧ evS (evF T k) (.ifs (.and (.cmp .eq (.idx (.var 0) (.cst (.int 2))) (.cst (.int 0))) (.cmp .lt (.idx (.var 0) (.cst (.int 1))) (.blt .len (.cons (.idx (.var 0) (.cst (.int 0))) .nil)))) (.cons (.asg (.nm 2) (.idx (.idx (.var 0) (.cst (.int 0))) (.idx (.var 0) (.cst (.int 1))))) (.cons (.put (.var 0) (.cst (.int 1)) (.bin .add (.idx (.var 0) (.cst (.int 1))) (.cst (.int 1)))) (.cons (.ifs (.cmp .ge (.var 2) (.bin .pow (.cst (.int 10)) (.cst (.int 18)))) (.cons (.put (.var 0) (.cst (.int 2)) (.var 2)) .nil) (.cons (.put (.var 0) (.cst (.int 3)) (.bin .mod (.bin .add (.bin .add (.bin .mul (.idx (.var 0) (.cst (.int 3))) (.cst (.int 69069))) (.bin .mul (.bin .mod (.var 2) (.cst (.int 2147483629))) (.cst (.int 40503)))) (.cst (.int 11))) (.cst (.int 2147483587)))) .nil)) .nil))) .nil) [some (.ref r), some (.int m), none, none, none] c1 = .ok (.nx [some (.ref r), some (.int m), w, none, none]) (c.set r (.lst (deal ns i2 b2 s2 (n + 1)))) := by
    by_cases hb0 : b = 0
    · subst hb0
      by_cases hlt : i < (ns.length : Int)
      · obtain ⟨z, hz⟩ : ∃ z, ns[i.toNat]? = some z := ⟨_, List.getElem?_eq_getElem (by omega)⟩
        have hz2 : (ns.map D.int)[i.toNat]? = some (.int z) := by rw [List.getElem?_map, hz]; rfl
        have h2 : (c.set r (.lst (deal ns (i + 1) 0 s (n + 1))))[r]? = some (.lst (deal ns (i + 1) 0 s (n + 1))) := set_at hr
        have hp : binD .pow (.int 10) (.int 18) (c.set r (.lst (deal ns (i + 1) 0 s (n + 1)))) = .ok (.int (10 ^ 18)) (c.set r (.lst (deal ns (i + 1) 0 s (n + 1)))) := rfl
        have hix := idx_nat (x := .lst (ns.map D.int)) (c := c1) rfl hi hz2
        by_cases hg : (10 : Int) ^ 18 ≤ z
        · refine ⟨some (.int z), i + 1, z, s, by omega, by omega, hs, hs2, ?_⟩
          simp only [evSs_cons, evSs_nil, seqK_nx, seqK_rt, seqK_ex, evS, evM, evA, evO, evI, evT, bnd_ok, ofR_ok, tst_f, tst_t, varK_some, Cst.d, bolK_bl, tru_bl', truK_bl, and_bl, or_bl, notK_bl, bin_add, bin_sub, cmp_lt, cmp_le, cmp_gt, cmp_ge, cmp_eqI, cmp_neI, cmp_eqB, cmp_neB, cmp_eqS, cmp_neS, cmp_isN, cmp_isnN, cmp_isB, len_lst, len_tup, isNon, intO, seqD, asT, asTs, Option.bind_some, List.getElem?_cons_zero, List.getElem?_cons_succ, List.set_cons_zero, List.set_cons_succ, fin_rt, fin_nx, fin_ex, if_true, eq_self, decide_true, decide_false, Bool.false_eq_true, if_false, idx2 h1, idx1 h1, idx0 h1, List.length_map, hlt, hix, put1 h1, set1, hp, hg, put2 h2, List.set_set]
        · have hz3 := mod_nn (i := z) (j := 2147483629) (by omega)
          have hz4 := mod_nn (i := s * 69069 + z % 2147483629 * 40503 + 11) (j := 2147483587) (by omega)
          refine ⟨some (.int z), i + 1, 0, (s * 69069 + z % 2147483629 * 40503 + 11) % 2147483587, by omega, by omega, hz4.1, hz4.2, ?_⟩
          simp only [evSs_cons, evSs_nil, seqK_nx, seqK_rt, seqK_ex, evS, evM, evA, evO, evI, evT, bnd_ok, ofR_ok, tst_f, tst_t, varK_some, Cst.d, bolK_bl, tru_bl', truK_bl, and_bl, or_bl, notK_bl, bin_add, bin_sub, cmp_lt, cmp_le, cmp_gt, cmp_ge, cmp_eqI, cmp_neI, cmp_eqB, cmp_neB, cmp_eqS, cmp_neS, cmp_isN, cmp_isnN, cmp_isB, len_lst, len_tup, isNon, intO, seqD, asT, asTs, Option.bind_some, List.getElem?_cons_zero, List.getElem?_cons_succ, List.set_cons_zero, List.set_cons_succ, fin_rt, fin_nx, fin_ex, if_true, eq_self, decide_true, decide_false, Bool.false_eq_true, if_false, idx2 h1, idx1 h1, idx0 h1, List.length_map, hlt, hix, put1 h1, set1, hp, hg, idx3 h2, mulD' (i := s) (j := 69069) 31 20 (by omega) (by decide) (by omega) (by omega) (by omega), modD (i := z) (j := 2147483629) (by omega), mulD' (i := z % 2147483629) (j := 40503) 31 20 (by omega) (by decide) (by omega) (by omega) (by omega), modD (j := 2147483587) (by omega : (0 : Int) < 2147483587), put3 h2, List.set_set]
      · refine ⟨none, i, 0, s, hi, by omega, hs, hs2, ?_⟩
        simp only [evSs_cons, evSs_nil, seqK_nx, seqK_rt, seqK_ex, evS, evM, evA, evO, evI, evT, bnd_ok, ofR_ok, tst_f, tst_t, varK_some, Cst.d, bolK_bl, tru_bl', truK_bl, and_bl, or_bl, notK_bl, bin_add, bin_sub, cmp_lt, cmp_le, cmp_gt, cmp_ge, cmp_eqI, cmp_neI, cmp_eqB, cmp_neB, cmp_eqS, cmp_neS, cmp_isN, cmp_isnN, cmp_isB, len_lst, len_tup, isNon, intO, seqD, asT, asTs, Option.bind_some, List.getElem?_cons_zero, List.getElem?_cons_succ, List.set_cons_zero, List.set_cons_succ, fin_rt, fin_nx, fin_ex, if_true, eq_self, decide_true, decide_false, Bool.false_eq_true, if_false, idx2 h1, idx1 h1, idx0 h1, List.length_map, hlt]
        rw [← hc1]
    · refine ⟨none, i, b, s, hi, hb, hs, hs2, ?_⟩
      simp only [evSs_cons, evSs_nil, seqK_nx, seqK_rt, seqK_ex, evS, evM, evA, evO, evI, evT, bnd_ok, ofR_ok, tst_f, tst_t, varK_some, Cst.d, bolK_bl, tru_bl', truK_bl, and_bl, or_bl, notK_bl, bin_add, bin_sub, cmp_lt, cmp_le, cmp_gt, cmp_ge, cmp_eqI, cmp_neI, cmp_eqB, cmp_neB, cmp_eqS, cmp_neS, cmp_isN, cmp_isnN, cmp_isB, len_lst, len_tup, isNon, intO, seqD, asT, asTs, Option.bind_some, List.getElem?_cons_zero, List.getElem?_cons_succ, List.set_cons_zero, List.set_cons_succ, fin_rt, fin_nx, fin_ex, if_true, eq_self, decide_true, decide_false, Bool.false_eq_true, if_false, idx2 h1, hb0]
      rw [← hc1]
  obtain ⟨w, i2, b2, s2, hi2, hb2, hs3, hs4, hA⟩ := A
  have h2 : (c.set r (.lst (deal ns i2 b2 s2 (n + 1))))[r]? = some (.lst (deal ns i2 b2 s2 (n + 1))) := set_at hr
  have e1 : evS (evF T k) (.put (.var 0) (.cst (.int 4)) (.bin .add (.idx (.var 0) (.cst (.int 4))) (.cst (.int 1)))) [some (.ref r), some (.int m), none, none, none] c = .ok (.nx [some (.ref r), some (.int m), none, none, none]) c1 := by
    simp only [evSs_cons, evSs_nil, seqK_nx, seqK_rt, seqK_ex, evS, evM, evA, evO, evI, evT, bnd_ok, ofR_ok, tst_f, tst_t, varK_some, Cst.d, bolK_bl, tru_bl', truK_bl, and_bl, or_bl, notK_bl, bin_add, bin_sub, cmp_lt, cmp_le, cmp_gt, cmp_ge, cmp_eqI, cmp_neI, cmp_eqB, cmp_neB, cmp_eqS, cmp_neS, cmp_isN, cmp_isnN, cmp_isB, len_lst, len_tup, isNon, intO, seqD, asT, asTs, Option.bind_some, List.getElem?_cons_zero, List.getElem?_cons_succ, List.set_cons_zero, List.set_cons_succ, fin_rt, fin_nx, fin_ex, if_true, eq_self, decide_true, decide_false, Bool.false_eq_true, if_false, idx4 hc, put4 hc, hc1]
  rw [evSs_cons, e1, seqK_nx, evSs_cons, hA, seqK_nx]
  generalize hc2 : c.set r (.lst (deal ns i2 b2 s2 (n + 1))) = c2 at h2
  have set2 : ∀ u, c2.set r u = c.set r u := fun u => by rw [← hc2, List.set_set]
  by_cases hg : 0 < b2
  · have hv := mod_nn (i := b2) hm
    have hq : 0 ≤ b2 / m := Int.ediv_nonneg hb2 (by omega)
    refine ⟨deal ns i2 (b2 / m) s2 (n + 1), b2 % m, ⟨i2, b2 / m, s2, n + 1, rfl, hi2, hq, hs3, hs4⟩, hv.1, hv.2, ?_⟩
    simp only [evSs_cons, evSs_nil, seqK_nx, seqK_rt, seqK_ex, evS, evM, evA, evO, evI, evT, bnd_ok, ofR_ok, tst_f, tst_t, varK_some, Cst.d, bolK_bl, tru_bl', truK_bl, and_bl, or_bl, notK_bl, bin_add, bin_sub, cmp_lt, cmp_le, cmp_gt, cmp_ge, cmp_eqI, cmp_neI, cmp_eqB, cmp_neB, cmp_eqS, cmp_neS, cmp_isN, cmp_isnN, cmp_isB, len_lst, len_tup, isNon, intO, seqD, asT, asTs, Option.bind_some, List.getElem?_cons_zero, List.getElem?_cons_succ, List.set_cons_zero, List.set_cons_succ, fin_rt, fin_nx, fin_ex, if_true, eq_self, decide_true, decide_false, Bool.false_eq_true, if_false, idx2 h2, hg, modD hm, divD hm hm2, put2 h2, set2]
  · have hz3 := mod_nn (i := s2 * s2) (j := 2147483563) (by omega)
    obtain ⟨t, ht⟩ : ∃ t, t = (s2 * s2 % 2147483563 * 16807 + s2 * 48271 + 40692 + (n + 1)) % 2147483587 := ⟨_, rfl⟩
    have hz4 : 0 ≤ t ∧ t < 2147483587 := by rw [ht]; exact mod_nn (by omega)
    have hz5 := mod_nn (i := t) (j := 7919) (by omega)
    have h3 : (c.set r (.lst (deal ns i2 b2 t (n + 1))))[r]? = some (.lst (deal ns i2 b2 t (n + 1))) := set_at hr
    have hv := mod_nn (i := t / 97 + t % 7919 * 31) hm
    refine ⟨deal ns i2 b2 t (n + 1), (t / 97 + t % 7919 * 31) % m, ⟨i2, b2, t, n + 1, rfl, hi2, hb2, hz4.1, hz4.2⟩, hv.1, hv.2, ?_⟩
    simp only [evSs_cons, evSs_nil, seqK_nx, seqK_rt, seqK_ex, evS, evM, evA, evO, evI, evT, bnd_ok, ofR_ok, tst_f, tst_t, varK_some, Cst.d, bolK_bl, tru_bl', truK_bl, and_bl, or_bl, notK_bl, bin_add, bin_sub, cmp_lt, cmp_le, cmp_gt, cmp_ge, cmp_eqI, cmp_neI, cmp_eqB, cmp_neB, cmp_eqS, cmp_neS, cmp_isN, cmp_isnN, cmp_isB, len_lst, len_tup, isNon, intO, seqD, asT, asTs, Option.bind_some, List.getElem?_cons_zero, List.getElem?_cons_succ, List.set_cons_zero, List.set_cons_succ, fin_rt, fin_nx, fin_ex, if_true, eq_self, decide_true, decide_false, Bool.false_eq_true, if_false, idx2 h2, hg, idx3 h2, idx4 h2, mulD' (i := s2) (j := s2) 31 31 (by omega) (by omega) (by omega) (by omega) (by omega), modD (i := s2 * s2) (j := 2147483563) (by omega), mulD' (i := s2 * s2 % 2147483563) (j := 16807) 31 20 (by omega) (by decide) (by omega) (by omega) (by omega), mulD' (i := s2) (j := 48271) 31 20 (by omega) (by decide) (by omega) (by omega) (by omega), modD (j := 2147483587) (by omega : (0 : Int) < 2147483587), ← ht, put3 h2, set2, idx3 h3,
      divD (i := t) (j := 97) (by omega) (by decide), modD (i := t) (j := 7919) (by omega), mulD' (i := t % 7919) (j := 31) 20 20 (by omega) (by decide) (by omega) (by omega) (by omega), modD hm]
end
end Hv

set_option Elab.async false
set_option linter.all false
set_option maxRecDepth 100000
set_option maxHeartbeats 4000000
/-! HvT: the laws' own helpers: a deal, a choice, a likeness. -/
namespace Hv
open PySem PySem.Spec PyProof.Rows L2

theorem forR_inv {tg : D → Sl → Option Sl} {b : Sl → Ct → RS} (I : Sl → Ct → Prop) : ∀ (ds : List D), (∀ d ∈ ds, ∀ sl c, I sl c → ∃ sl1 sl' c', tg d sl = some sl1 ∧ b sl1 c = .ok (.nx sl') c' ∧ I sl' c') → ∀ sl c, I sl c → ∃ sl' c', forR tg b ds sl c = .ok (.nx sl') c' ∧ I sl' c'
  | [], _, sl, c, hi => ⟨sl, c, rfl, hi⟩
  | d :: ds, h, sl, c, hi => by
    obtain ⟨sl1, sl', c', h1, h2, h3⟩ := h d List.mem_cons_self sl c hi
    obtain ⟨s2, c2, h4, h5⟩ := forR_inv I ds (fun d hd => h d (List.mem_cons_of_mem _ hd)) sl' c' h3
    refine ⟨s2, c2, ?_, h5⟩
    rw [forR, h1]
    simp only
    rw [h2]
    exact h4
theorem compR_all {tg : D → Sl → Option Sl} {q : Sl → Ct → Res Bool} {f : Sl → Ct → Res D} {sl : Sl} {c : Ct} {e : D} : ∀ (ds : List D), (∀ d ∈ ds, ∃ sl', tg d sl = some sl' ∧ q sl' c = .ok true c ∧ f sl' c = .ok e c) → compR tg q f sl ds c = .ok (ds.map fun _ => e) c
  | [], _ => rfl
  | d :: ds, h => by
    obtain ⟨sl', h1, h2, h3⟩ := h d List.mem_cons_self
    rw [compR, h1]
    simp only
    rw [h2]
    simp only
    rw [h3]
    simp only
    rw [compR_all ds (fun d hd => h d (List.mem_cons_of_mem _ hd))]
    rfl
/-! ### a choice -/
def bOf (p : Nat) : ISs := (.cons (.ret (.idx (.var 1) (.call p [] [.arg 0, .arg 1] (.cons (.var 0) (.cons (.blt .len (.cons (.var 1) .nil)) .nil)) .nil))) .nil)
theorem callK_all {call : CallF} {f : Nat} {d0 d1 : D} {c : Ct} : callK call f [.arg 0, .arg 1] [d0, d1] [] c = call f [d0, d1] c := rfl
theorem of_ok {T : List FD} {k p q : Nat} (hT : T[p]? = some ⟨2, 5, bPick⟩) (hQ : T[q]? = some ⟨2, 2, bOf p⟩) {ns : List Int} {c : Ct} {r : Nat} {x : List D} {ds : List D} (hc : c[r]? = some (.lst x)) (hx : DealOk ns x) (hd : ds ≠ []) (hl : ds.length ≤ 1000) :
    ∃ x' d, DealOk ns x' ∧ d ∈ ds ∧ evF T (k + 2) q [.ref r, .lst ds] c = .ok d (c.set r (.lst x')) := by
  have h0 : 0 < ds.length := List.length_pos_iff.mpr hd
  obtain ⟨x', v, hx', h1, h2, h3⟩ := pick_ok (k := k) (m := (ds.length : Int)) hT hc hx (by omega) (log2_lt (n := 9000) (by omega) (Nat.lt_of_le_of_lt (show (ds.length : Int).natAbs ≤ 1000 by omega) (Nat.lt_of_lt_of_le (show 1000 < 2 ^ 10 by decide) (Nat.pow_le_pow_right (by omega) (by omega)))))
  have h4 : ds[v.toNat]? = some (ds[v.toNat]'(by omega)) := List.getElem?_eq_getElem (by omega)
  refine ⟨x', _, hx', List.getElem_mem (h := (by omega : v.toNat < ds.length)), ?_⟩
  rw [evF_at hQ]
  show fin (evSs (evF T (k + 1)) (bOf p) [some (.ref r), some (.lst ds)] c) = _
  unfold bOf
  simp only [evSs_cons, evSs_nil, seqK_nx, seqK_rt, seqK_ex, evS, evM, evA, evO, evI, evT, bnd_ok, ofR_ok, tst_f, tst_t, varK_some, Cst.d, bolK_bl, tru_bl', truK_bl, and_bl, or_bl, notK_bl, bin_add, bin_sub, cmp_lt, cmp_le, cmp_gt, cmp_ge, cmp_eqI, cmp_neI, cmp_eqB, cmp_neB, cmp_eqS, cmp_neS, cmp_isN, cmp_isnN, cmp_isB, len_lst, len_tup, isNon, intO, seqD, asT, asTs, Option.bind_some, List.getElem?_cons_zero, List.getElem?_cons_succ, List.set_cons_zero, List.set_cons_succ, fin_rt, fin_nx, fin_ex, if_true, eq_self, decide_true, decide_false, Bool.false_eq_true, if_false, callK_all, h3, idx_nat (x := .lst ds) (c := c.set r (.lst x')) rfl h1 h4]
/-! ### a deal -/
def bDealB : ISs := (.cons (.asg (.nm 1) (.bin .mod (.bin .add (.bin .add (.bin .mul (.var 1) (.cst (.int 52163))) (.bin .mod (.var 2) (.cst (.int 2147483629)))) (.cst (.int 7))) (.cst (.int 2147483587)))) .nil)
def bDealF : IS := (.for (.nm 2) (.seq (.slc (.var 0) .no (.so (.cst (.int 63))))) bDealB)
def bDeal (s0 : Int) : ISs := (.cons (.asg (.nm 1) (.cst (.int s0))) (.cons bDealF (.cons (.ret (.lst true (.cons (.blt .list (.cons (.slc (.var 0) .no (.so (.cst (.int 63)))) .nil)) (.cons (.cst (.int 0)) (.cons (.cst (.int 0)) (.cons (.var 1) (.cons (.cst (.int 0)) .nil))))))) .nil)))
theorem cut63 {xs : List D} (h : xs.length ≤ 63) (c : Ct) : slcD (.lst xs) none (some 63) c = .ok (.lst xs) c := by
  show Res.ok (D.lst (cutD xs none (some 63))) c = _
  have h1 : HT.sIx xs.length 0 none = 0 := rfl
  have h2 : HT.sIx xs.length xs.length (some 63) = xs.length := by
    unfold HT.sIx
    simp only
    rw [if_neg (by omega)]
    omega
  unfold cutD
  rw [h1, h2, List.drop_zero, Nat.sub_zero, List.take_length]
theorem deal_ok {T : List FD} {k q : Nat} {s0 : Int} (hT : T[q]? = some ⟨1, 3, bDeal s0⟩) (h0 : 0 ≤ s0) (h1 : s0 < 2147483587) {ns : List Int} (hn : ns.length ≤ 63) (c : Ct) :
    ∃ x, DealOk ns x ∧ evF T (k + 1) q [.lst (ns.map .int)] c = .ok (.ref c.length) (c ++ [.lst x]) := by
  obtain ⟨sl', c', h2, w, s, h3, h4, h5, h6⟩ := forR_inv (tg := asT (.nm 2)) (b := evSs (evF T k) bDealB) (fun sl c' => ∃ w s, 0 ≤ s ∧ s < 2147483587 ∧ sl = [some (.lst (ns.map D.int)), some (.int s), w] ∧ c' = c) (ns.map D.int) (fun d hd sl c2 hI => by
    obtain ⟨w, s, hs, hs2, rfl, rfl⟩ := hI
    obtain ⟨z, hz, rfl⟩ := List.mem_map.mp hd
    have hz3 := mod_nn (i := z) (j := 2147483629) (by omega)
    have hz4 := mod_nn (i := s * 52163 + z % 2147483629 + 7) (j := 2147483587) (by omega)
    refine ⟨_, _, _, rfl, ?_, some (.int z), (s * 52163 + z % 2147483629 + 7) % 2147483587, hz4.1, hz4.2, rfl, rfl⟩
    unfold bDealB
    simp only [evSs_cons, evSs_nil, seqK_nx, seqK_rt, seqK_ex, evS, evM, evA, evO, evI, evT, bnd_ok, ofR_ok, tst_f, tst_t, varK_some, Cst.d, bolK_bl, tru_bl', truK_bl, and_bl, or_bl, notK_bl, bin_add, bin_sub, cmp_lt, cmp_le, cmp_gt, cmp_ge, cmp_eqI, cmp_neI, cmp_eqB, cmp_neB, cmp_eqS, cmp_neS, cmp_isN, cmp_isnN, cmp_isB, len_lst, len_tup, isNon, intO, seqD, asT, asTs, Option.bind_some, List.getElem?_cons_zero, List.getElem?_cons_succ, List.set_cons_zero, List.set_cons_succ, fin_rt, fin_nx, fin_ex, if_true, eq_self, decide_true, decide_false, Bool.false_eq_true, if_false, mulD' (i := s) (j := 52163) 31 20 (by omega) (by decide) (by omega) (by omega) (by omega), modD (i := z) (j := 2147483629) (by omega), modD (j := 2147483587) (by omega : (0 : Int) < 2147483587)])
    [some (.lst (ns.map D.int)), some (.int s0), none] c ⟨none, s0, h0, h1, rfl, rfl⟩
  subst h5 h6
  refine ⟨deal ns 0 0 s 0, ⟨0, 0, s, 0, rfl, by omega, by omega, h3, h4⟩, ?_⟩
  rw [evF_at hT]
  show fin (evSs (evF T k) (bDeal s0) [some (.lst (ns.map D.int)), none, none] c') = _
  have hl : ∀ ds : List D, ds.length = 5 → ∀ c, lstK true ds c = .ok (.ref c.length) (c ++ [.lst ds]) := fun ds h c => lstK_t (by omega) c
  have hF : evS (evF T k) bDealF [some (.lst (ns.map D.int)), some (.int s0), none] c' = .ok (.nx [some (.lst (ns.map D.int)), some (.int s), w]) c' := by
    rw [bDealF, evS]
    simp only [evI, evM, evO, Cst.d, intO, tst_f, varK_some, bnd_ok, List.getElem?_cons_zero, cut63 (xs := ns.map D.int) (by simpa using hn), seqD, ofR_ok]
    exact h2
  unfold bDeal
  simp only [evSs_cons, evSs_nil, seqK_nx, seqK_rt, seqK_ex, evS, evM, evA, evO, evI, evT, bnd_ok, ofR_ok, tst_f, tst_t, varK_some, Cst.d, bolK_bl, tru_bl', truK_bl, and_bl, or_bl, notK_bl, bin_add, bin_sub, cmp_lt, cmp_le, cmp_gt, cmp_ge, cmp_eqI, cmp_neI, cmp_eqB, cmp_neB, cmp_eqS, cmp_neS, cmp_isN, cmp_isnN, cmp_isB, len_lst, len_tup, isNon, intO, seqD, asT, asTs, Option.bind_some, List.getElem?_cons_zero, List.getElem?_cons_succ, List.set_cons_zero, List.set_cons_succ, fin_rt, fin_nx, fin_ex, if_true, eq_self, decide_true, decide_false, Bool.false_eq_true, if_false, cut63 (xs := ns.map D.int) (by simpa using hn), hF, show ∀ c, bltD .list [.lst (ns.map D.int)] c = .ok (.lst (ns.map D.int)) c from fun _ => rfl]
  rw [hl _ rfl]
  rfl
/-! ### a likeness -/
def eLike (q : Nat) : IE := (.call q [] [.arg 0, .arg 1] (.cons (.idx (.var 0) (.var 2)) (.cons (.idx (.var 1) (.var 2)) .nil)) .nil)
def cLike (q : Nat) (nm : String) : IE := (.comp false [(nm, 2)] (.nm 2) (.rng1 (.blt .len (.cons (.var 1) .nil))) (.cst (.bl true)) (eLike q))
def bLike (q : Nat) (nm : String) : ISs := (.cons (.ifs (.blt .isi (.cons (.var 1) (.cons (.tup (.cons (.typ "list") (.cons (.typ "tuple") .nil))) .nil))) (.cons (.ifs (.or (.cmp .ne (.blt .isi (.cons (.var 0) (.cons (.typ "list") .nil))) (.blt .isi (.cons (.var 1) (.cons (.typ "list") .nil)))) (.cmp .ne (.blt .isi (.cons (.var 0) (.cons (.typ "tuple") .nil))) (.blt .isi (.cons (.var 1) (.cons (.typ "tuple") .nil))))) (.cons (.ret (.cst (.bl false))) .nil) .nil) (.cons (.ret (.and (.cmp .eq (.blt .len (.cons (.var 0) .nil)) (.blt .len (.cons (.var 1) .nil))) (.blt .all (.cons (cLike q nm) .nil)))) .nil)) .nil) (.cons (.ifs (.or (.cmp .is (.var 1) (.cst .non)) (.cmp .is (.var 0) (.cst .non))) (.cons (.ret (.and (.cmp .is (.var 1) (.cst .non)) (.cmp .is (.var 0) (.cst .non)))) .nil) .nil) (.cons (.ifs (.or (.cmp .ne (.blt .isi (.cons (.var 0) (.cons (.typ "bool") .nil))) (.blt .isi (.cons (.var 1) (.cons (.typ "bool") .nil)))) (.cmp .ne (.blt .isi (.cons (.var 0) (.cons (.typ "int") .nil))) (.blt .isi (.cons (.var 1) (.cons (.typ "int") .nil))))) (.cons (.ret (.cst (.bl false))) .nil) .nil) (.cons (.ret (.and (.cmp .eq (.blt .isi (.cons (.var 0) (.cons (.typ "str") .nil))) (.blt .isi (.cons (.var 1) (.cons (.typ "str") .nil)))) (.cmp .eq (.var 0) (.var 1)))) .nil))))
/-- plain data of a depth -/
def plB : Nat → D → Bool
  | k + 1, .tup xs => decide (xs.length ≤ 100000) && xs.all (plB k)
  | k + 1, .lst xs => decide (xs.length ≤ 100000) && xs.all (plB k)
  | _, .non => true
  | _, .bl _ => true
  | _, .int _ => true
  | _, .str _ => true
  | _, _ => false
theorem isi_lt (x : D) (t : String) (c : Ct) (b : Bool) (h : tyD x c = some t) (n : String) (hk : kitB t n = some b) : bltD .isi [x, .ty n] c = .ok (.bl b) c := by
  show isiD x (.ty n) c = _
  unfold isiD
  rw [h]
  simp only
  rw [hk]
theorem isi_lt2 (x : D) (t : String) (c : Ct) (b : Bool) (h : tyD x c = some t) (hk : anyB t [.ty "list", .ty "tuple"] = some b) : bltD .isi [x, .tup [.ty "list", .ty "tuple"]] c = .ok (.bl b) c := by
  show isiD x (.tup _) c = _
  unfold isiD
  rw [h]
  simp only
  rw [hk]
theorem len_its {x : D} {c : Ct} {xs : List D} (h : itsD x c = some xs) : bltD .len [x] c = .ok (.int (xs.length : Int)) c := by
  show (match itsD x c with | some xs => (Res.ok (D.int (xs.length : Int)) c : Res D) | none => .stuck) = _
  rw [h]
theorem all_lst {bs : List D} {c : Ct} {xs : List Bool} (h : blsD bs = some xs) : bltD .all [.lst bs] c = .ok (.bl (xs.all id)) c := by
  show (match (itsD (.lst bs) c).bind blsD with | some bs' => if isL (.lst bs) then (Res.ok (D.bl (bs'.all id)) c : Res D) else .stuck | none => .stuck) = _
  show (match blsD bs with | some bs' => if isL (.lst bs) then (Res.ok (D.bl (bs'.all id)) c : Res D) else .stuck | none => .stuck) = _
  rw [h]
  rfl
theorem bls_true {α : Type} : ∀ (l : List α), blsD (l.map fun _ => D.bl true) = some (l.map fun _ => true)
  | [] => rfl
  | a :: l => by
    show (blsD (l.map fun _ => D.bl true)).map (true :: ·) = _
    rw [bls_true l]
    rfl
theorem all_true {α : Type} (l : List α) : (l.map fun _ => true).all id = true := by simp
theorem k_ll : kitB "list" "list" = some true := by decide +kernel
theorem k_lt : kitB "list" "tuple" = some false := by decide +kernel
theorem k_tl : kitB "tuple" "list" = some false := by decide +kernel
theorem k_tt : kitB "tuple" "tuple" = some true := by decide +kernel
theorem mkD_f {ds : List D} (h : ds.length ≤ 100000) (c : Ct) : mkD false ds c = .ok (.lst ds) c := by unfold mkD; rw [if_pos h]; rfl
theorem rngD_len (i : Int) (n : Nat) : (rngD i n).length = n := by unfold rngD; rw [List.length_map, List.length_range]
theorem sm_len {n : Nat} (h : n ≤ 100000) : small (n : Int) := by
  constructor
  · exact Int.le_trans (by decide) (Int.natCast_nonneg n)
  · exact Int.lt_of_le_of_lt (show (n : Int) ≤ 100000 from Int.ofNat_le.mpr h) (by decide)
theorem rng1_len {n : Nat} {c : Ct} (h : n ≤ 100000) : rng1K (.int (n : Int)) c = .ok (rngD 0 n) c := by
  rw [rng1K, if_pos (sm_len h), Int.toNat_natCast]
end Hv

set_option Elab.async false
set_option linter.all false
set_option maxRecDepth 100000
set_option maxHeartbeats 4000000
/-! HvL: a likeness. -/
namespace Hv
open PySem PySem.Spec PyProof.Rows L2

theorem like_comp {T : List FD} {k q : Nat} {x y : D} {xs ys : List D} {c : Ct} (hx : itsD x c = some xs) (hy : itsD y c = some ys) (hl : xs.length = ys.length)
    (h : ∀ (i : Nat) (u v : D), xs[i]? = some u → ys[i]? = some v → evF T k q [u, v] c = .ok (.bl true) c) :
    compR (asT (.nm 2)) (fun sl c => bnd (evM (evF T k) true (.cst (.bl true)) sl c) bolK) (evM (evF T k) false (eLike q)) [some x, some y, none] (rngD 0 ys.length) c = .ok ((rngD 0 ys.length).map fun _ => .bl true) c := by
  refine compR_all _ fun d hd => ?_
  obtain ⟨i, hi, rfl⟩ := List.mem_map.mp hd
  have hi2 := List.mem_range.mp hi
  have h1 : xs[i]? = some (xs[i]'(by omega)) := List.getElem?_eq_getElem (by omega)
  have h2 : ys[i]? = some (ys[i]'(by omega)) := List.getElem?_eq_getElem (by omega)
  have h3 := h i _ _ h1 h2
  refine ⟨_, rfl, rfl, ?_⟩
  have e1 := idx_nat (i := (0 : Int) + (i : Int)) hx (by omega) (by rw [show ((0 : Int) + (i : Int)).toNat = i by omega]; exact h1)
  have e2 := idx_nat (i := (0 : Int) + (i : Int)) hy (by omega) (by rw [show ((0 : Int) + (i : Int)).toNat = i by omega]; exact h2)
  unfold eLike
  simp only [evSs_cons, evSs_nil, seqK_nx, seqK_rt, seqK_ex, evS, evM, evA, evO, evI, evT, bnd_ok, ofR_ok, tst_f, tst_t, varK_some, Cst.d, bolK_bl, tru_bl', truK_bl, and_bl, or_bl, notK_bl, bin_add, bin_sub, cmp_lt, cmp_le, cmp_gt, cmp_ge, cmp_eqI, cmp_neI, cmp_eqB, cmp_neB, cmp_eqS, cmp_neS, cmp_isN, cmp_isnN, cmp_isB, len_lst, len_tup, isNon, intO, seqD, asT, asTs, Option.bind_some, List.getElem?_cons_zero, List.getElem?_cons_succ, List.set_cons_zero, List.set_cons_succ, fin_rt, fin_nx, fin_ex, if_true, eq_self, decide_true, decide_false, Bool.false_eq_true, if_false, e1, e2, callK_all, h3]
theorem compK_f {t : IT} {fq : Sl → Ct → Res Bool} {fe : Sl → Ct → Res D} {sl : Sl} {its es : List D} {c c' : Ct} (h : compR (asT t) fq fe sl its c = .ok es c') (hl : es.length ≤ 100000) : compK false t fq fe sl its c = .ok (.lst es) c' := by
  delta compK
  rw [h]
  simp only [mkD_f hl]
theorem like_e0 {T : List FD} {k : Nat} {x y : D} {ys : List D} {c : Ct} (hy : itsD y c = some ys) (hl2 : ys.length ≤ 100000) : evI (evF T k) (.rng1 (.blt .len (.cons (.var 1) .nil))) [some x, some y, none] c = .ok (rngD 0 ys.length) c := by
  have h1 : evM (evF T k) false (.blt .len (.cons (.var 1) .nil)) [some x, some y, none] c = .ok (.int (ys.length : Int)) c := by
    simp only [evA, evM, tst_f, varK_some, bnd_ok, List.getElem?_cons_zero, List.getElem?_cons_succ, len_its hy]
  rw [evI, h1, bnd_ok, rng1_len hl2]
theorem like_wipe {nm : String} {x y : D} : wipeD [some x, some y, none] (([(nm, 2)] : List (Str × Nat)).map (·.2)) = [some x, some y, none] := rfl
theorem rngM_len {n : Nat} {e : D} (h : n ≤ 100000) : ((rngD 0 n).map fun _ => e).length ≤ 100000 := by
  rw [List.length_map, rngD_len]
  exact h
theorem like_cE {T : List FD} {k q : Nat} {nm : String} {x y : D} {xs ys : List D} {c : Ct} (hx : itsD x c = some xs) (hy : itsD y c = some ys) (hl : xs.length = ys.length) (hl2 : ys.length ≤ 100000)
    (h : ∀ (i : Nat) (u v : D), xs[i]? = some u → ys[i]? = some v → evF T k q [u, v] c = .ok (.bl true) c) :
    evM (evF T k) false (cLike q nm) [some x, some y, none] c = .ok (.lst ((rngD 0 ys.length).map fun _ => D.bl true)) c := by
  rw [cLike, evM, tst_f, like_e0 hy hl2, bnd_ok, like_wipe, compK_f (like_comp hx hy hl h) (rngM_len hl2)]
theorem like_all {n : Nat} {c : Ct} : bltD .all [.lst ((rngD 0 n).map fun _ => D.bl true)] c = .ok (.bl true) c := by
  have hall := all_lst (c := c) (bls_true (rngD 0 n))
  rw [all_true] at hall
  exact hall
theorem like_seq {T : List FD} {k q : Nat} {nm : String} (hT : T[q]? = some ⟨2, 3, bLike q nm⟩) {x y : D} {xs ys : List D} {c : Ct} (hx : itsD x c = some xs) (hy : itsD y c = some ys) (hl : xs.length = ys.length) (hl2 : ys.length ≤ 100000)
    (ht : (tyD x c = some "list" ∧ tyD y c = some "list") ∨ (tyD x c = some "tuple" ∧ tyD y c = some "tuple"))
    (h : ∀ (i : Nat) (u v : D), xs[i]? = some u → ys[i]? = some v → evF T k q [u, v] c = .ok (.bl true) c) : evF T (k + 1) q [x, y] c = .ok (.bl true) c := by
  rw [evF_at hT]
  show fin (evSs (evF T k) (bLike q nm) [some x, some y, none] c) = _
  have hcE := like_cE (nm := nm) hx hy hl hl2 h
  have hall := like_all (n := ys.length) (c := c)
  unfold bLike
  have hl3 : (xs.length : Int) = (ys.length : Int) := by omega
  have hl4 : tupK [.ty "list", .ty "tuple"] c = .ok (.tup [.ty "list", .ty "tuple"]) c := tupK_ok (by simp) c
  rcases ht with ⟨hx1, hy1⟩ | ⟨hx1, hy1⟩
  · simp only [evSs_cons, evSs_nil, evS, evT, evM, evA, evE, ofR_ok, bnd_ok, tst_t, tst_f, varK_some, List.getElem?_cons_zero, List.getElem?_cons_succ, hl4, isi_lt2 y _ c true hy1 (by decide +kernel), truK_bl, bolK_bl, isi_lt x _ c true hx1 "list" k_ll, isi_lt y _ c true hy1 "list" k_ll, isi_lt x _ c false hx1 "tuple" k_lt, isi_lt y _ c false hy1 "tuple" k_lt, cmp_neB, or_bl, decide_true, Bool.not_true, Bool.false_eq_true, if_false, if_true, seqK_nx, len_its hx, len_its hy, cmp_eqI, hl3, and_bl]
    simp only [hcE, bnd_ok, hall, ofR_ok, seqK_rt, fin_rt]
  · simp only [evSs_cons, evSs_nil, evS, evT, evM, evA, evE, ofR_ok, bnd_ok, tst_t, tst_f, varK_some, List.getElem?_cons_zero, List.getElem?_cons_succ, hl4, isi_lt2 y _ c true hy1 (by decide +kernel), truK_bl, bolK_bl, isi_lt x _ c false hx1 "list" k_tl, isi_lt y _ c false hy1 "list" k_tl, isi_lt x _ c true hx1 "tuple" k_tt, isi_lt y _ c true hy1 "tuple" k_tt, cmp_neB, or_bl, decide_true, Bool.not_true, Bool.false_eq_true, if_false, if_true, seqK_nx, len_its hx, len_its hy, cmp_eqI, hl3, and_bl]
    simp only [hcE, bnd_ok, hall, ofR_ok, seqK_rt, fin_rt]
end Hv

set_option Elab.async false
set_option linter.all false
set_option maxRecDepth 100000
namespace Wk01
open PySem PySem.Spec PyProof.Rows L2 Hv
def topS (i : Nat) : Stmt := PySem.Challenge.pw_heedless_k01_parts_in_lowest_terms.main.body.getD i (.Pass ⟨0, 0, 0, 0⟩)
/-- common -/
def b0 : ISs := (.cons (.par 0 1 (.blt .abs (.cons (.var 0) .nil)) (.blt .abs (.cons (.var 1) .nil))) (.cons (.whl (.cmp .gt (.var 1) (.cst (.int 0))) (.cons (.par 0 1 (.var 1) (.bin .mod (.var 0) (.var 1))) .nil)) (.cons (.ret (.var 0)) .nil)))
def fd0 : FD := ⟨2, 2, b0⟩
/-- part -/
def b1 : ISs := (.cons (.ifs (.cmp .eq (.var 1) (.cst (.int 0))) (.cons (.rse "BadPart" 0 [("BadPart", true), ("HeedError", true), ("ValueError", true), ("LookupError", false)] [("word", .dfl (.str "BadPart"))] .nil) .nil) .nil) (.cons (.asg (.nm 2) (.call 0 [] [.arg 0, .arg 1] (.cons (.var 0) (.cons (.var 1) .nil)) .nil)) (.cons (.ifs (.cmp .lt (.var 1) (.cst (.int 0))) (.cons (.asg (.nm 2) (.bin .sub (.cst (.int 0)) (.var 2))) .nil) .nil) (.cons (.ret (.tup (.cons (.bin .fdiv (.var 0) (.var 2)) (.cons (.bin .fdiv (.var 1) (.var 2)) .nil)))) .nil))))
def fd1 : FD := ⟨2, 3, b1⟩
/-- _law_deal -/
def b2 : ISs := (.cons (.asg (.nm 1) (.cst (.int 9144))) (.cons (.for (.nm 2) (.seq (.slc (.var 0) .no (.so (.cst (.int 63))))) (.cons (.asg (.nm 1) (.bin .mod (.bin .add (.bin .add (.bin .mul (.var 1) (.cst (.int 52163))) (.bin .mod (.var 2) (.cst (.int 2147483629)))) (.cst (.int 7))) (.cst (.int 2147483587)))) .nil)) (.cons (.ret (.lst true (.cons (.blt .list (.cons (.slc (.var 0) .no (.so (.cst (.int 63)))) .nil)) (.cons (.cst (.int 0)) (.cons (.cst (.int 0)) (.cons (.var 1) (.cons (.cst (.int 0)) .nil))))))) .nil)))
def fd2 : FD := ⟨1, 3, b2⟩
/-- _law_pick -/
def b3 : ISs := (.cons (.put (.var 0) (.cst (.int 4)) (.bin .add (.idx (.var 0) (.cst (.int 4))) (.cst (.int 1)))) (.cons (.ifs (.and (.cmp .eq (.idx (.var 0) (.cst (.int 2))) (.cst (.int 0))) (.cmp .lt (.idx (.var 0) (.cst (.int 1))) (.blt .len (.cons (.idx (.var 0) (.cst (.int 0))) .nil)))) (.cons (.asg (.nm 2) (.idx (.idx (.var 0) (.cst (.int 0))) (.idx (.var 0) (.cst (.int 1))))) (.cons (.put (.var 0) (.cst (.int 1)) (.bin .add (.idx (.var 0) (.cst (.int 1))) (.cst (.int 1)))) (.cons (.ifs (.cmp .ge (.var 2) (.bin .pow (.cst (.int 10)) (.cst (.int 18)))) (.cons (.put (.var 0) (.cst (.int 2)) (.var 2)) .nil) (.cons (.put (.var 0) (.cst (.int 3)) (.bin .mod (.bin .add (.bin .add (.bin .mul (.idx (.var 0) (.cst (.int 3))) (.cst (.int 69069))) (.bin .mul (.bin .mod (.var 2) (.cst (.int 2147483629))) (.cst (.int 40503)))) (.cst (.int 11))) (.cst (.int 2147483587)))) .nil)) .nil))) .nil) (.cons (.ifs (.cmp .gt (.idx (.var 0) (.cst (.int 2))) (.cst (.int 0))) (.cons (.asg (.nm 3) (.bin .mod (.idx (.var 0) (.cst (.int 2))) (.var 1))) (.cons (.put (.var 0) (.cst (.int 2)) (.bin .fdiv (.idx (.var 0) (.cst (.int 2))) (.var 1))) (.cons (.ret (.var 3)) .nil))) .nil) (.cons (.asg (.nm 4) (.idx (.var 0) (.cst (.int 3)))) (.cons (.put (.var 0) (.cst (.int 3)) (.bin .mod (.bin .add (.bin .add (.bin .add (.bin .mul (.bin .mod (.bin .mul (.var 4) (.var 4)) (.cst (.int 2147483563))) (.cst (.int 16807))) (.bin .mul (.var 4) (.cst (.int 48271)))) (.cst (.int 40692))) (.idx (.var 0) (.cst (.int 4)))) (.cst (.int 2147483587)))) (.cons (.ret (.bin .mod (.bin .add (.bin .fdiv (.idx (.var 0) (.cst (.int 3))) (.cst (.int 97))) (.bin .mul (.bin .mod (.idx (.var 0) (.cst (.int 3))) (.cst (.int 7919))) (.cst (.int 31)))) (.var 1))) .nil))))))
def fd3 : FD := ⟨2, 5, b3⟩
/-- _law_of -/
def b4 : ISs := (.cons (.ret (.idx (.var 1) (.call 3 [] [.arg 0, .arg 1] (.cons (.var 0) (.cons (.blt .len (.cons (.var 1) .nil)) .nil)) .nil))) .nil)
def fd4 : FD := ⟨2, 2, b4⟩
/-- _law_like -/
def b5 : ISs := (.cons (.ifs (.blt .isi (.cons (.var 1) (.cons (.tup (.cons (.typ "list") (.cons (.typ "tuple") .nil))) .nil))) (.cons (.ifs (.or (.cmp .ne (.blt .isi (.cons (.var 0) (.cons (.typ "list") .nil))) (.blt .isi (.cons (.var 1) (.cons (.typ "list") .nil)))) (.cmp .ne (.blt .isi (.cons (.var 0) (.cons (.typ "tuple") .nil))) (.blt .isi (.cons (.var 1) (.cons (.typ "tuple") .nil))))) (.cons (.ret (.cst (.bl false))) .nil) .nil) (.cons (.ret (.and (.cmp .eq (.blt .len (.cons (.var 0) .nil)) (.blt .len (.cons (.var 1) .nil))) (.blt .all (.cons (.comp false [("_law_k", 2)] (.nm 2) (.rng1 (.blt .len (.cons (.var 1) .nil))) (.cst (.bl true)) (.call 5 [] [.arg 0, .arg 1] (.cons (.idx (.var 0) (.var 2)) (.cons (.idx (.var 1) (.var 2)) .nil)) .nil)) .nil)))) .nil)) .nil) (.cons (.ifs (.or (.cmp .is (.var 1) (.cst .non)) (.cmp .is (.var 0) (.cst .non))) (.cons (.ret (.and (.cmp .is (.var 1) (.cst .non)) (.cmp .is (.var 0) (.cst .non)))) .nil) .nil) (.cons (.ifs (.or (.cmp .ne (.blt .isi (.cons (.var 0) (.cons (.typ "bool") .nil))) (.blt .isi (.cons (.var 1) (.cons (.typ "bool") .nil)))) (.cmp .ne (.blt .isi (.cons (.var 0) (.cons (.typ "int") .nil))) (.blt .isi (.cons (.var 1) (.cons (.typ "int") .nil))))) (.cons (.ret (.cst (.bl false))) .nil) .nil) (.cons (.ret (.and (.cmp .eq (.blt .isi (.cons (.var 0) (.cons (.typ "str") .nil))) (.blt .isi (.cons (.var 1) (.cons (.typ "str") .nil)))) (.cmp .eq (.var 0) (.var 1)))) .nil))))
def fd5 : FD := ⟨2, 3, b5⟩
/-- _law_low -/
def b6 : ISs := (.cons (.par 2 3 (.blt .abs (.cons (.var 0) .nil)) (.blt .abs (.cons (.var 1) .nil))) (.cons (.whl (.cmp .gt (.var 3) (.cst (.int 0))) (.cons (.par 2 3 (.var 3) (.bin .mod (.var 2) (.var 3))) .nil)) (.cons (.asg (.nm 2) (.ifx (.cmp .lt (.var 1) (.cst (.int 0))) (.bin .sub (.cst (.int 0)) (.var 2)) (.var 2))) (.cons (.ret (.tup (.cons (.bin .fdiv (.var 0) (.var 2)) (.cons (.bin .fdiv (.var 1) (.var 2)) .nil)))) .nil))))
def fd6 : FD := ⟨2, 4, b6⟩
/-- _law_over -/
def b7 : ISs := (.cons (.asg (.nm 1) (.call 4 [] [.arg 0, .arg 1] (.cons (.var 0) (.cons (.lst false (.cons (.cst (.int 3)) (.cons (.cst (.int 12)) (.cons (.cst (.int 100)) (.cons (.bin .pow (.cst (.int 10)) (.cst (.int 9))) (.cons (.bin .pow (.cst (.int 10)) (.cst (.int 30))) .nil)))))) .nil)) .nil)) (.cons (.ret (.bin .add (.bin .sub (.call 3 [] [.arg 0, .arg 1] (.cons (.var 0) (.cons (.bin .sub (.bin .mul (.cst (.int 2)) (.var 1)) (.cst (.int 1))) .nil)) .nil) (.var 1)) (.cst (.int 1)))) .nil))
def fd7 : FD := ⟨1, 2, b7⟩
/-- law -/
def b8 : ISs := (.cons (.asg (.nm 1) (.call 2 [] [.arg 0] (.cons (.var 0) .nil) .nil)) (.cons (.for (.nm 2) (.rng1 (.cst (.int 8))) (.cons (.par 3 4 (.call 7 [] [.arg 0] (.cons (.var 1) .nil) .nil) (.bin .mul (.call 7 [] [.arg 0] (.cons (.var 1) .nil) .nil) (.call 4 [] [.arg 0, .arg 1] (.cons (.var 1) (.cons (.lst false (.cons (.cst (.int 0)) (.cons (.cst (.int 1)) (.cons (.cst (.int 1)) (.cons (.cst (.int 1)) .nil))))) .nil)) .nil))) (.cons (.asg (.nm 5) (.cst .non)) (.cons (.tryA (.cons (.asg (.nm 5) (.call 1 [] [.arg 0, .arg 1] (.cons (.var 3) (.cons (.var 4) .nil)) .nil)) .nil) "BadPart" 6 [.fld "word", .isi "HeedError", .isi "ValueError", .isi "LookupError"] (some 5)) (.cons (.asg (.nm 7) (.ifx (.cmp .eq (.var 4) (.cst (.int 0))) (.tup (.cons (.cst (.str "BadPart")) (.cons (.cst (.bl true)) (.cons (.cst (.bl true)) (.cons (.cst (.bl false)) .nil))))) (.call 6 [] [.arg 0, .arg 1] (.cons (.var 3) (.cons (.var 4) .nil)) .nil))) (.cons (.ifs (.or (.not (.call 5 [] [.arg 0, .arg 1] (.cons (.var 5) (.cons (.var 7) .nil)) .nil)) (.not (.call 5 [] [.arg 0, .arg 1] (.cons (.call 1 [] [.arg 0, .dfl (.int 1)] (.cons (.var 3) .nil) .nil) (.cons (.tup (.cons (.var 3) (.cons (.cst (.int 1)) .nil))) .nil)) .nil))) (.cons (.ret (.cst (.bl false))) .nil) .nil) .nil)))))) (.cons (.ret (.call 5 [] [.arg 0, .arg 1] (.cons (.call 1 ["under", "over"] [.arg 1, .arg 0] .nil (.cons (.cst (.int (-4))) (.cons (.cst (.int 6)) .nil))) (.cons (.tup (.cons (.cst (.int (-3))) (.cons (.cst (.int 2)) .nil))) .nil)) .nil)) .nil)))
def fd8 : FD := ⟨1, 8, b8⟩
def T : List FD := [fd0, fd1, fd2, fd3, fd4, fd5, fd6, fd7, fd8]
def G : GE := ⟨["common", "part", "_law_deal", "_law_pick", "_law_of", "_law_like", "_law_low", "_law_over", "law"],
  [(0, 2, [], [.arg 0, .arg 1]), (3, 2, [], [.arg 0, .arg 1]), (5, 2, [], [.arg 0, .arg 1]), (4, 2, [], [.arg 0, .arg 1]), (1, 0, ["under", "over"], [.arg 1, .arg 0]), (1, 1, [], [.arg 0, .dfl (.int 1)]), (6, 2, [], [.arg 0, .arg 1]), (1, 2, [], [.arg 0, .arg 1]), (7, 1, [], [.arg 0]), (2, 1, [], [.arg 0])],
  [("BadPart", 0, [("word", .dfl (.str "BadPart"))], [("BadPart", true), ("HeedError", true), ("ValueError", true), ("LookupError", false)])],
  ["BadPart", "HeedError", "ValueError", "LookupError"]⟩
abbrev si_BadPart : Stmt := (clsBody (topS 2)).getD 0 (.Pass ⟨0, 0, 0, 0⟩)
theorem sci_BadPart : FnScope ["self"] ["self"] (defScope si_BadPart) := ⟨rfl, rfl, rfl, by decide +kernel, rfl, by decide +kernel, by decide +kernel⟩
theorem cki_BadPart : chkInit ["self"] (defScope si_BadPart) [("word", .dfl (.str "BadPart"))] (defBody si_BadPart) = true := by decide +kernel
abbrev s0 : Stmt := topS 4
def N0 : List Str := ["one", "other"]
theorem sc0 : FnScope N0 ["one", "other"] (defScope s0) := ⟨rfl, rfl, rfl, by decide +kernel, rfl, by decide +kernel, by decide +kernel⟩
theorem ck0 : chkSs G ⟨N0, defScope s0, fun _ => true⟩ b0 (defBody s0) = true := by decide +kernel
abbrev s1 : Stmt := topS 5
def N1 : List Str := ["over", "under", "by"]
theorem sc1 : FnScope N1 ["over", "under"] (defScope s1) := ⟨rfl, rfl, rfl, by decide +kernel, rfl, by decide +kernel, by decide +kernel⟩
theorem ck1 : chkSs G ⟨N1, defScope s1, fun _ => true⟩ b1 (defBody s1) = true := by decide +kernel
abbrev s2 : Stmt := topS 7
def N2 : List Str := ["_law_script", "_law_mixed", "_law_cell"]
theorem sc2 : FnScope N2 ["_law_script"] (defScope s2) := ⟨rfl, rfl, rfl, by decide +kernel, rfl, by decide +kernel, by decide +kernel⟩
theorem ck2 : chkSs G ⟨N2, defScope s2, fun _ => true⟩ b2 (defBody s2) = true := by decide +kernel
abbrev s3 : Stmt := topS 8
def N3 : List Str := ["_law_deal_here", "_law_many", "_law_cell", "_law_got", "_law_seed"]
theorem sc3 : FnScope N3 ["_law_deal_here", "_law_many"] (defScope s3) := ⟨rfl, rfl, rfl, by decide +kernel, rfl, by decide +kernel, by decide +kernel⟩
theorem ck3 : chkSs G ⟨N3, defScope s3, fun _ => true⟩ b3 (defBody s3) = true := by decide +kernel
abbrev s4 : Stmt := topS 9
def N4 : List Str := ["_law_deal_here", "_law_some"]
theorem sc4 : FnScope N4 ["_law_deal_here", "_law_some"] (defScope s4) := ⟨rfl, rfl, rfl, by decide +kernel, rfl, by decide +kernel, by decide +kernel⟩
theorem ck4 : chkSs G ⟨N4, defScope s4, fun _ => true⟩ b4 (defBody s4) = true := by decide +kernel
abbrev s5 : Stmt := topS 10
def N5 : List Str := ["_law_found", "_law_due", "_law_k"]
theorem sc5 : FnScope N5 ["_law_found", "_law_due"] (defScope s5) := ⟨rfl, rfl, rfl, by decide +kernel, rfl, by decide +kernel, by decide +kernel⟩
theorem ck5 : chkSs G ⟨N5, defScope s5, fun _ => true⟩ b5 (defBody s5) = true := by decide +kernel
abbrev s6 : Stmt := topS 11
def N6 : List Str := ["_law_over_z", "_law_under_z", "_law_one", "_law_other"]
theorem sc6 : FnScope N6 ["_law_over_z", "_law_under_z"] (defScope s6) := ⟨rfl, rfl, rfl, by decide +kernel, rfl, by decide +kernel, by decide +kernel⟩
theorem ck6 : chkSs G ⟨N6, defScope s6, fun _ => true⟩ b6 (defBody s6) = true := by decide +kernel
abbrev s7 : Stmt := topS 12
def N7 : List Str := ["_law_deal_here", "_law_far"]
theorem sc7 : FnScope N7 ["_law_deal_here"] (defScope s7) := ⟨rfl, rfl, rfl, by decide +kernel, rfl, by decide +kernel, by decide +kernel⟩
theorem ck7 : chkSs G ⟨N7, defScope s7, fun _ => true⟩ b7 (defBody s7) = true := by decide +kernel
abbrev s8 : Stmt := topS 13
def N8 : List Str := ["_law_script", "_law_deal_here", "_law_turn", "_law_over_z", "_law_under_z", "_law_found", "e", "_law_due"]
theorem sc8 : FnScope N8 ["_law_script"] (defScope s8) := ⟨rfl, rfl, rfl, by decide +kernel, rfl, by decide +kernel, by decide +kernel⟩
theorem ck8 : chkSs G ⟨N8, defScope s8, fun _ => true⟩ b8 (defBody s8) = true := by decide +kernel
section
variable {K : PySem.W.Frag} {mg : Str → Option Value}
theorem all_mk {h : Heap} (X : K.In h) (Gl : h.Ns mainGlobals mg)
    {f0 : Addr} {od0 an0 : Option Addr} {sl0 : Array (Option Value)} {oc0 kV0 dc0 pm0 cd0 ct0 : Value}
    (a0 : PySem.W.nsIn K mainGlobals "common" = some (some (.ref f0)))
    (l0 : K.lookup f0 = some ⟨oc0, od0, .func (PySem.W.fnOf "common" "common" (defArgs s0) (defBody s0) (defScope s0) .none kV0 dc0 pm0 an0 cd0 ct0), sl0⟩)
    (c0 : PySem.W.codeIn K cd0 "common" = true) (k0 : PySem.W.keepIn K (.ref f0) = true)
    {f1 : Addr} {od1 an1 : Option Addr} {sl1 : Array (Option Value)} {oc1 kV1 dc1 pm1 cd1 ct1 : Value}
    (a1 : PySem.W.nsIn K mainGlobals "part" = some (some (.ref f1)))
    {t1 : Addr} {to1 : Obj} {tn1 : Nat}
    (l1 : K.lookup f1 = some ⟨oc1, od1, .func (PySem.W.fnOf "part" "part" (defArgs s1) (defBody s1) (defScope s1) (.ref t1) kV1 dc1 pm1 an1 cd1 ct1), sl1⟩)
    (c1 : PySem.W.codeIn K cd1 "part" = true) (k1 : PySem.W.keepIn K (.ref f1) = true)
    {dv1 : List Value} (tl1 : K.lookup t1 = some to1) (td1 : to1.data = .seq dv1.toArray tn1) (tv1 : Vals [((.int 1) : Cst).v] dv1)
    {f2 : Addr} {od2 an2 : Option Addr} {sl2 : Array (Option Value)} {oc2 kV2 dc2 pm2 cd2 ct2 : Value}
    (a2 : PySem.W.nsIn K mainGlobals "_law_deal" = some (some (.ref f2)))
    (l2 : K.lookup f2 = some ⟨oc2, od2, .func (PySem.W.fnOf "_law_deal" "_law_deal" (defArgs s2) (defBody s2) (defScope s2) .none kV2 dc2 pm2 an2 cd2 ct2), sl2⟩)
    (c2 : PySem.W.codeIn K cd2 "_law_deal" = true) (k2 : PySem.W.keepIn K (.ref f2) = true)
    {f3 : Addr} {od3 an3 : Option Addr} {sl3 : Array (Option Value)} {oc3 kV3 dc3 pm3 cd3 ct3 : Value}
    (a3 : PySem.W.nsIn K mainGlobals "_law_pick" = some (some (.ref f3)))
    (l3 : K.lookup f3 = some ⟨oc3, od3, .func (PySem.W.fnOf "_law_pick" "_law_pick" (defArgs s3) (defBody s3) (defScope s3) .none kV3 dc3 pm3 an3 cd3 ct3), sl3⟩)
    (c3 : PySem.W.codeIn K cd3 "_law_pick" = true) (k3 : PySem.W.keepIn K (.ref f3) = true)
    {f4 : Addr} {od4 an4 : Option Addr} {sl4 : Array (Option Value)} {oc4 kV4 dc4 pm4 cd4 ct4 : Value}
    (a4 : PySem.W.nsIn K mainGlobals "_law_of" = some (some (.ref f4)))
    (l4 : K.lookup f4 = some ⟨oc4, od4, .func (PySem.W.fnOf "_law_of" "_law_of" (defArgs s4) (defBody s4) (defScope s4) .none kV4 dc4 pm4 an4 cd4 ct4), sl4⟩)
    (c4 : PySem.W.codeIn K cd4 "_law_of" = true) (k4 : PySem.W.keepIn K (.ref f4) = true)
    {f5 : Addr} {od5 an5 : Option Addr} {sl5 : Array (Option Value)} {oc5 kV5 dc5 pm5 cd5 ct5 : Value}
    (a5 : PySem.W.nsIn K mainGlobals "_law_like" = some (some (.ref f5)))
    (l5 : K.lookup f5 = some ⟨oc5, od5, .func (PySem.W.fnOf "_law_like" "_law_like" (defArgs s5) (defBody s5) (defScope s5) .none kV5 dc5 pm5 an5 cd5 ct5), sl5⟩)
    (c5 : PySem.W.codeIn K cd5 "_law_like" = true) (k5 : PySem.W.keepIn K (.ref f5) = true)
    {f6 : Addr} {od6 an6 : Option Addr} {sl6 : Array (Option Value)} {oc6 kV6 dc6 pm6 cd6 ct6 : Value}
    (a6 : PySem.W.nsIn K mainGlobals "_law_low" = some (some (.ref f6)))
    (l6 : K.lookup f6 = some ⟨oc6, od6, .func (PySem.W.fnOf "_law_low" "_law_low" (defArgs s6) (defBody s6) (defScope s6) .none kV6 dc6 pm6 an6 cd6 ct6), sl6⟩)
    (c6 : PySem.W.codeIn K cd6 "_law_low" = true) (k6 : PySem.W.keepIn K (.ref f6) = true)
    {f7 : Addr} {od7 an7 : Option Addr} {sl7 : Array (Option Value)} {oc7 kV7 dc7 pm7 cd7 ct7 : Value}
    (a7 : PySem.W.nsIn K mainGlobals "_law_over" = some (some (.ref f7)))
    (l7 : K.lookup f7 = some ⟨oc7, od7, .func (PySem.W.fnOf "_law_over" "_law_over" (defArgs s7) (defBody s7) (defScope s7) .none kV7 dc7 pm7 an7 cd7 ct7), sl7⟩)
    (c7 : PySem.W.codeIn K cd7 "_law_over" = true) (k7 : PySem.W.keepIn K (.ref f7) = true)
    {f8 : Addr} {od8 an8 : Option Addr} {sl8 : Array (Option Value)} {oc8 kV8 dc8 pm8 cd8 ct8 : Value}
    (a8 : PySem.W.nsIn K mainGlobals "law" = some (some (.ref f8)))
    (l8 : K.lookup f8 = some ⟨oc8, od8, .func (PySem.W.fnOf "law" "law" (defArgs s8) (defBody s8) (defScope s8) .none kV8 dc8 pm8 an8 cd8 ct8), sl8⟩)
    (c8 : PySem.W.codeIn K cd8 "law" = true) (k8 : PySem.W.keepIn K (.ref f8) = true)
    {C_BadPart : Addr} (xa_BadPart : PySem.W.nsIn K mainGlobals "BadPart" = some (some (.ref C_BadPart)))
    {C_HeedError : Addr} (xa_HeedError : PySem.W.nsIn K mainGlobals "HeedError" = some (some (.ref C_HeedError)))
    {nm_BadPart qn_BadPart : Str} {N_BadPart : Addr} {bs_BadPart : List Value} {sn_BadPart : List Str} {sb_BadPart : List Value} {ab_BadPart : Bool} {co_BadPart : Option Bool} {dd_BadPart : Option Addr} {m0_BadPart m1_BadPart m2_BadPart m3_BadPart m5_BadPart : Option Value}
    (xl_BadPart : K.lookup C_BadPart = some (excClassObj nm_BadPart qn_BadPart C_BadPart N_BadPart bs_BadPart [.ref C_HeedError, .type "ValueError", .type "Exception", .type "BaseException", .type "object"] true sn_BadPart sb_BadPart ab_BadPart co_BadPart dd_BadPart m0_BadPart m1_BadPart m2_BadPart m3_BadPart m5_BadPart "ValueError.__new__"))
    (xsa_BadPart : PySem.W.findIn K (.ref C_BadPart) "__setattr__" = some (some (.builtin "object.__setattr__")))
    (xga_BadPart : PySem.W.findIn K (.ref C_BadPart) "__getattribute__" = some (some (.builtin "BaseException.__getattribute__")))
    (xgg_BadPart : PySem.W.findIn K (.ref C_BadPart) "__getattr__" = some none)
    (xn0_BadPart : PySem.W.findIn K (.ref C_BadPart) "word" = some none)
    {fI_BadPart : Addr} {ocI_BadPart kVI_BadPart dcI_BadPart pmI_BadPart cdI_BadPart ctI_BadPart : Value} {odI_BadPart anI_BadPart : Option Addr} {slI_BadPart : Array (Option Value)}
    (xi_BadPart : PySem.W.findIn K (.ref C_BadPart) "__init__" = some (some (.ref fI_BadPart)))
    (xt_BadPart : PySem.W.typeIn K (.ref fI_BadPart) = some (.type "function"))
    (xil_BadPart : K.lookup fI_BadPart = some ⟨ocI_BadPart, odI_BadPart, .func (PySem.W.fnOf "__init__" "BadPart.__init__" (defArgs si_BadPart) (defBody si_BadPart) (defScope si_BadPart) .none kVI_BadPart dcI_BadPart pmI_BadPart anI_BadPart cdI_BadPart ctI_BadPart), slI_BadPart⟩)
    (xic_BadPart : PySem.W.codeIn K cdI_BadPart "BadPart.__init__" = true)
    (xk_BadPart : PySem.W.keepIn K (.ref C_BadPart) = true)
    (xe_BadPart : PySem.W.subIn K (.ref C_BadPart) (.type "BaseException") = some true)
    (xty_BadPart : PySem.W.typeIn K (.ref C_BadPart) = some (.type "type"))
    (xh_BadPart : PySem.W.hasDictIn K C_BadPart = true)
    (xca_BadPart : PySem.W.findIn K (.ref C_BadPart) "__class__" = some (some (.builtin "object.__class__")))
    (xsp_BadPart : PySem.W.specialIn K (.builtin "object.__class__") "__get__" = some (some (.builtin "getset_descriptor.__get__")))
    (xtk_BadPart : PySem.W.takesIn K (.builtin "object.__class__") = some true)
    (xm_BadPart : PySem.W.mroIn K C_BadPart (.type "object") = some true)
    (xx0_BadPart : PySem.W.exmOne K (.ref C_BadPart) (.ref C_BadPart) = some true)
    (xy0_BadPart : PySem.W.kitOne K (.ref C_BadPart) (.ref C_BadPart) = some true)
    (xx1_BadPart : PySem.W.exmOne K (.ref C_BadPart) (.ref C_HeedError) = some true)
    (xy1_BadPart : PySem.W.kitOne K (.ref C_BadPart) (.ref C_HeedError) = some true)
    (xx2_BadPart : PySem.W.exmOne K (.ref C_BadPart) (.type "ValueError") = some true)
    (xy2_BadPart : PySem.W.kitOne K (.ref C_BadPart) (.type "ValueError") = some true)
    (xx3_BadPart : PySem.W.exmOne K (.ref C_BadPart) (.type "LookupError") = some false)
    (xy3_BadPart : PySem.W.kitOne K (.ref C_BadPart) (.type "LookupError") = some false)
    (z_len : PySem.W.nsIn K mainGlobals "len" = some none)
    (z_list : PySem.W.nsIn K mainGlobals "list" = some none)
    (z_tuple : PySem.W.nsIn K mainGlobals "tuple" = some none)
    (z_abs : PySem.W.nsIn K mainGlobals "abs" = some none)
    (z_all : PySem.W.nsIn K mainGlobals "all" = some none)
    (z_any : PySem.W.nsIn K mainGlobals "any" = some none)
    (z_sum : PySem.W.nsIn K mainGlobals "sum" = some none)
    (z_isinstance : PySem.W.nsIn K mainGlobals "isinstance" = some none)
    (z_int : PySem.W.nsIn K mainGlobals "int" = some none)
    (z_max : PySem.W.nsIn K mainGlobals "max" = some none)
    (z_min : PySem.W.nsIn K mainGlobals "min" = some none)
    (z_sorted : PySem.W.nsIn K mainGlobals "sorted" = some none)
    (z_range : PySem.W.nsIn K mainGlobals "range" = some none)
    (z_bool : PySem.W.nsIn K mainGlobals "bool" = some none)
    (z_str : PySem.W.nsIn K mainGlobals "str" = some none)
    (z_dict : PySem.W.nsIn K mainGlobals "dict" = some none)
    (z_ValueError : PySem.W.nsIn K mainGlobals "ValueError" = some none)
    (z_LookupError : PySem.W.nsIn K mainGlobals "LookupError" = some none)
    : AllOk K mg G T ∧ ∃ fa fd, mg "law" = some (.ref fa) ∧ DefA K mg G 8 fd8 fa fd ["_law_script"] ∧ ∀ s v, BindsTo s fd ⟨[v], []⟩ [("_law_script", v)] := by
  have D0 : DefA K mg G 0 fd0 f0 (PySem.W.fnOf "common" "common" (defArgs s0) (defBody s0) (defScope s0) .none kV0 dc0 pm0 an0 cd0 ct0) ["one", "other"] := ⟨⟨_, rfl, PySem.W.mg_of X Gl a0⟩, k0, _, _, _, _, _, _, _, _, _, _, _, _, _, _, _, N0, rfl, l0, c0, sc0, rfl, rfl, ck0⟩
  have D1 : DefA K mg G 1 fd1 f1 (PySem.W.fnOf "part" "part" (defArgs s1) (defBody s1) (defScope s1) (.ref t1) kV1 dc1 pm1 an1 cd1 ct1) ["over", "under"] := ⟨⟨_, rfl, PySem.W.mg_of X Gl a1⟩, k1, _, _, _, _, _, _, _, _, _, _, _, _, _, _, _, N1, rfl, l1, c1, sc1, rfl, rfl, ck1⟩
  have D2 : DefA K mg G 2 fd2 f2 (PySem.W.fnOf "_law_deal" "_law_deal" (defArgs s2) (defBody s2) (defScope s2) .none kV2 dc2 pm2 an2 cd2 ct2) ["_law_script"] := ⟨⟨_, rfl, PySem.W.mg_of X Gl a2⟩, k2, _, _, _, _, _, _, _, _, _, _, _, _, _, _, _, N2, rfl, l2, c2, sc2, rfl, rfl, ck2⟩
  have D3 : DefA K mg G 3 fd3 f3 (PySem.W.fnOf "_law_pick" "_law_pick" (defArgs s3) (defBody s3) (defScope s3) .none kV3 dc3 pm3 an3 cd3 ct3) ["_law_deal_here", "_law_many"] := ⟨⟨_, rfl, PySem.W.mg_of X Gl a3⟩, k3, _, _, _, _, _, _, _, _, _, _, _, _, _, _, _, N3, rfl, l3, c3, sc3, rfl, rfl, ck3⟩
  have D4 : DefA K mg G 4 fd4 f4 (PySem.W.fnOf "_law_of" "_law_of" (defArgs s4) (defBody s4) (defScope s4) .none kV4 dc4 pm4 an4 cd4 ct4) ["_law_deal_here", "_law_some"] := ⟨⟨_, rfl, PySem.W.mg_of X Gl a4⟩, k4, _, _, _, _, _, _, _, _, _, _, _, _, _, _, _, N4, rfl, l4, c4, sc4, rfl, rfl, ck4⟩
  have D5 : DefA K mg G 5 fd5 f5 (PySem.W.fnOf "_law_like" "_law_like" (defArgs s5) (defBody s5) (defScope s5) .none kV5 dc5 pm5 an5 cd5 ct5) ["_law_found", "_law_due"] := ⟨⟨_, rfl, PySem.W.mg_of X Gl a5⟩, k5, _, _, _, _, _, _, _, _, _, _, _, _, _, _, _, N5, rfl, l5, c5, sc5, rfl, rfl, ck5⟩
  have D6 : DefA K mg G 6 fd6 f6 (PySem.W.fnOf "_law_low" "_law_low" (defArgs s6) (defBody s6) (defScope s6) .none kV6 dc6 pm6 an6 cd6 ct6) ["_law_over_z", "_law_under_z"] := ⟨⟨_, rfl, PySem.W.mg_of X Gl a6⟩, k6, _, _, _, _, _, _, _, _, _, _, _, _, _, _, _, N6, rfl, l6, c6, sc6, rfl, rfl, ck6⟩
  have D7 : DefA K mg G 7 fd7 f7 (PySem.W.fnOf "_law_over" "_law_over" (defArgs s7) (defBody s7) (defScope s7) .none kV7 dc7 pm7 an7 cd7 ct7) ["_law_deal_here"] := ⟨⟨_, rfl, PySem.W.mg_of X Gl a7⟩, k7, _, _, _, _, _, _, _, _, _, _, _, _, _, _, _, N7, rfl, l7, c7, sc7, rfl, rfl, ck7⟩
  have D8 : DefA K mg G 8 fd8 f8 (PySem.W.fnOf "law" "law" (defArgs s8) (defBody s8) (defScope s8) .none kV8 dc8 pm8 an8 cd8 ct8) ["_law_script"] := ⟨⟨_, rfl, PySem.W.mg_of X Gl a8⟩, k8, _, _, _, _, _, _, _, _, _, _, _, _, _, _, _, N8, rfl, l8, c8, sc8, rfl, rfl, ck8⟩
  have S0 : ShapeOk K (PySem.W.fnOf "common" "common" (defArgs s0) (defBody s0) (defScope s0) .none kV0 dc0 pm0 an0 cd0 ct0) ["one", "other"] 2 [] [.arg 0, .arg 1] := ⟨rfl, fun s us ws _ hu hw => match us, ws, hu, hw with | [u0, u1], [], _, _ => ⟨[u0, u1], .of_eq (by first | rfl | with_unfolding_all rfl), u0, _, rfl, rfl, u1, _, rfl, rfl, rfl⟩⟩
  have S1 : ShapeOk K (PySem.W.fnOf "_law_pick" "_law_pick" (defArgs s3) (defBody s3) (defScope s3) .none kV3 dc3 pm3 an3 cd3 ct3) ["_law_deal_here", "_law_many"] 2 [] [.arg 0, .arg 1] := ⟨rfl, fun s us ws _ hu hw => match us, ws, hu, hw with | [u0, u1], [], _, _ => ⟨[u0, u1], .of_eq (by first | rfl | with_unfolding_all rfl), u0, _, rfl, rfl, u1, _, rfl, rfl, rfl⟩⟩
  have S2 : ShapeOk K (PySem.W.fnOf "_law_like" "_law_like" (defArgs s5) (defBody s5) (defScope s5) .none kV5 dc5 pm5 an5 cd5 ct5) ["_law_found", "_law_due"] 2 [] [.arg 0, .arg 1] := ⟨rfl, fun s us ws _ hu hw => match us, ws, hu, hw with | [u0, u1], [], _, _ => ⟨[u0, u1], .of_eq (by first | rfl | with_unfolding_all rfl), u0, _, rfl, rfl, u1, _, rfl, rfl, rfl⟩⟩
  have S3 : ShapeOk K (PySem.W.fnOf "_law_of" "_law_of" (defArgs s4) (defBody s4) (defScope s4) .none kV4 dc4 pm4 an4 cd4 ct4) ["_law_deal_here", "_law_some"] 2 [] [.arg 0, .arg 1] := ⟨rfl, fun s us ws _ hu hw => match us, ws, hu, hw with | [u0, u1], [], _, _ => ⟨[u0, u1], .of_eq (by first | rfl | with_unfolding_all rfl), u0, _, rfl, rfl, u1, _, rfl, rfl, rfl⟩⟩
  have S4 : ShapeOk K (PySem.W.fnOf "part" "part" (defArgs s1) (defBody s1) (defScope s1) (.ref t1) kV1 dc1 pm1 an1 cd1 ct1) ["over", "under"] 0 ["under", "over"] [.arg 1, .arg 0] := by
    refine ⟨rfl, fun s us ws hX hu hw => ?_⟩
    obtain ⟨d0, hd, r0⟩ : ∃ d0, dv1 = [d0] ∧ RelV ((.int 1) : Cst).v d0 := by
      exact cst_vals1 tv1
    exact match us, ws, hu, hw with | [], [w0, w1], _, _ => ⟨[w1, w0], BindsTo.of_looks fun M => looks_items hX tl1 td1 (.of_pure (by subst hd; first | rfl | with_unfolding_all rfl)), w1, _, rfl, rfl, w0, _, rfl, rfl, rfl⟩
  have S5 : ShapeOk K (PySem.W.fnOf "part" "part" (defArgs s1) (defBody s1) (defScope s1) (.ref t1) kV1 dc1 pm1 an1 cd1 ct1) ["over", "under"] 1 [] [.arg 0, .dfl (.int 1)] := by
    refine ⟨rfl, fun s us ws hX hu hw => ?_⟩
    obtain ⟨d0, hd, r0⟩ : ∃ d0, dv1 = [d0] ∧ RelV ((.int 1) : Cst).v d0 := by
      exact cst_vals1 tv1
    exact match us, ws, hu, hw with | [u0], [], _, _ => ⟨[u0, d0], BindsTo.of_looks fun M => looks_items hX tl1 td1 (.of_pure (by subst hd; first | rfl | with_unfolding_all rfl)), u0, _, rfl, rfl, d0, _, rfl, r0, rfl⟩
  have S6 : ShapeOk K (PySem.W.fnOf "_law_low" "_law_low" (defArgs s6) (defBody s6) (defScope s6) .none kV6 dc6 pm6 an6 cd6 ct6) ["_law_over_z", "_law_under_z"] 2 [] [.arg 0, .arg 1] := ⟨rfl, fun s us ws _ hu hw => match us, ws, hu, hw with | [u0, u1], [], _, _ => ⟨[u0, u1], .of_eq (by first | rfl | with_unfolding_all rfl), u0, _, rfl, rfl, u1, _, rfl, rfl, rfl⟩⟩
  have S7 : ShapeOk K (PySem.W.fnOf "part" "part" (defArgs s1) (defBody s1) (defScope s1) (.ref t1) kV1 dc1 pm1 an1 cd1 ct1) ["over", "under"] 2 [] [.arg 0, .arg 1] := by
    refine ⟨rfl, fun s us ws hX hu hw => ?_⟩
    obtain ⟨d0, hd, r0⟩ : ∃ d0, dv1 = [d0] ∧ RelV ((.int 1) : Cst).v d0 := by
      exact cst_vals1 tv1
    exact match us, ws, hu, hw with | [u0, u1], [], _, _ => ⟨[u0, u1], BindsTo.of_looks fun M => looks_items hX tl1 td1 (.of_pure (by subst hd; first | rfl | with_unfolding_all rfl)), u0, _, rfl, rfl, u1, _, rfl, rfl, rfl⟩
  have S8 : ShapeOk K (PySem.W.fnOf "_law_over" "_law_over" (defArgs s7) (defBody s7) (defScope s7) .none kV7 dc7 pm7 an7 cd7 ct7) ["_law_deal_here"] 1 [] [.arg 0] := ⟨rfl, fun s us ws _ hu hw => match us, ws, hu, hw with | [u0], [], _, _ => ⟨[u0], .of_eq (by first | rfl | with_unfolding_all rfl), u0, _, rfl, rfl, rfl⟩⟩
  have S9 : ShapeOk K (PySem.W.fnOf "_law_deal" "_law_deal" (defArgs s2) (defBody s2) (defScope s2) .none kV2 dc2 pm2 an2 cd2 ct2) ["_law_script"] 1 [] [.arg 0] := ⟨rfl, fun s us ws _ hu hw => match us, ws, hu, hw with | [u0], [], _, _ => ⟨[u0], .of_eq (by first | rfl | with_unfolding_all rfl), u0, _, rfl, rfl, rfl⟩⟩
  refine ⟨⟨fun f => ?_, PySem.W.mg_none_of X Gl z_range, fun n hn => ?_, fun f n ks src hm => ?_, fun C n fl sup hm => ?_, fun n hm => ?_⟩, _, _, PySem.W.mg_of X Gl a8, D8, fun s v => .of_eq rfl⟩
  · cases f
    · exact PySem.W.mg_none_of X Gl z_len
    · exact PySem.W.mg_none_of X Gl z_list
    · exact PySem.W.mg_none_of X Gl z_tuple
    · exact PySem.W.mg_none_of X Gl z_abs
    · exact PySem.W.mg_none_of X Gl z_all
    · exact PySem.W.mg_none_of X Gl z_any
    · exact PySem.W.mg_none_of X Gl z_sum
    · exact PySem.W.mg_none_of X Gl z_isinstance
    · exact PySem.W.mg_none_of X Gl z_int
    · exact PySem.W.mg_none_of X Gl z_max
    · exact PySem.W.mg_none_of X Gl z_min
    · exact PySem.W.mg_none_of X Gl z_sorted
  · simp only [tyNames, List.mem_cons, List.not_mem_nil, or_false] at hn
    rcases hn with rfl | rfl | rfl | rfl | rfl | rfl
    · exact PySem.W.mg_none_of X Gl z_int
    · exact PySem.W.mg_none_of X Gl z_bool
    · exact PySem.W.mg_none_of X Gl z_str
    · exact PySem.W.mg_none_of X Gl z_list
    · exact PySem.W.mg_none_of X Gl z_tuple
    · exact PySem.W.mg_none_of X Gl z_dict
  · dsimp only [G] at hm
    rcases List.mem_cons.mp hm with e | hm
    · cases e; exact ⟨fd0, _, _, _, rfl, D0, S0⟩
    rcases List.mem_cons.mp hm with e | hm
    · cases e; exact ⟨fd3, _, _, _, rfl, D3, S1⟩
    rcases List.mem_cons.mp hm with e | hm
    · cases e; exact ⟨fd5, _, _, _, rfl, D5, S2⟩
    rcases List.mem_cons.mp hm with e | hm
    · cases e; exact ⟨fd4, _, _, _, rfl, D4, S3⟩
    rcases List.mem_cons.mp hm with e | hm
    · cases e; exact ⟨fd1, _, _, _, rfl, D1, S4⟩
    rcases List.mem_cons.mp hm with e | hm
    · cases e; exact ⟨fd1, _, _, _, rfl, D1, S5⟩
    rcases List.mem_cons.mp hm with e | hm
    · cases e; exact ⟨fd6, _, _, _, rfl, D6, S6⟩
    rcases List.mem_cons.mp hm with e | hm
    · cases e; exact ⟨fd1, _, _, _, rfl, D1, S7⟩
    rcases List.mem_cons.mp hm with e | hm
    · cases e; exact ⟨fd7, _, _, _, rfl, D7, S8⟩
    rcases List.mem_cons.mp hm with e | hm
    · cases e; exact ⟨fd2, _, _, _, rfl, D2, S9⟩
    cases hm
  · dsimp only [G] at hm
    rcases List.mem_cons.mp hm with e | hm
    · cases e
      refine ⟨by decide, by simp, by decide, C_BadPart, fI_BadPart, _, ["self"], ⟨PySem.W.mg_of X Gl xa_BadPart, ⟨⟨_, _, _, _, _, _, _, _, _, _, _, _, _, _, _, xl_BadPart, by first | rfl | decide +kernel⟩, xsa_BadPart, xe_BadPart, xty_BadPart, xk_BadPart⟩, ⟨xga_BadPart, xgg_BadPart, xe_BadPart, xh_BadPart⟩, ⟨xga_BadPart, xgg_BadPart, xe_BadPart, xh_BadPart, xca_BadPart, xsp_BadPart, xtk_BadPart, xm_BadPart⟩, fun f hf => ?_, fun m b hb => ?_⟩, xi_BadPart, xt_BadPart, ⟨_, _, _, _, _, _, _, _, _, _, _, _, _, _, _, _, rfl, xil_BadPart, xic_BadPart, sci_BadPart, rfl, cki_BadPart⟩, fun s us hu => match us, hu with | [u0], _ => .of_eq (by first | rfl | with_unfolding_all rfl)⟩
      · simp only [List.map_cons, List.map_nil, List.mem_cons, List.not_mem_nil, or_false] at hf
        rcases hf with rfl
        · exact xn0_BadPart
      · skip
        rcases List.mem_cons.mp hb with e | hb
        · cases e; exact ⟨_, .ref C_BadPart, ⟨.inl (PySem.W.mg_of X Gl xa_BadPart), fun z => Iff.rfl⟩, xx0_BadPart, xy0_BadPart⟩
        rcases List.mem_cons.mp hb with e | hb
        · cases e; exact ⟨_, .ref C_HeedError, ⟨.inl (PySem.W.mg_of X Gl xa_HeedError), fun z => Iff.rfl⟩, xx1_BadPart, xy1_BadPart⟩
        rcases List.mem_cons.mp hb with e | hb
        · cases e; exact ⟨_, .ty "ValueError", ⟨.inr ⟨PySem.W.mg_none_of X Gl z_ValueError, by decide +kernel, by decide⟩, fun z => Iff.rfl⟩, xx2_BadPart, xy2_BadPart⟩
        rcases List.mem_cons.mp hb with e | hb
        · cases e; exact ⟨_, .ty "LookupError", ⟨.inr ⟨PySem.W.mg_none_of X Gl z_LookupError, by decide +kernel, by decide⟩, fun z => Iff.rfl⟩, xx3_BadPart, xy3_BadPart⟩
        cases hb
    cases hm
  · dsimp only [G] at hm
    rcases List.mem_cons.mp hm with e | hm
    · cases e; exact ⟨_, .ref C_BadPart, .inl (PySem.W.mg_of X Gl xa_BadPart), fun z => Iff.rfl⟩
    rcases List.mem_cons.mp hm with e | hm
    · cases e; exact ⟨_, .ref C_HeedError, .inl (PySem.W.mg_of X Gl xa_HeedError), fun z => Iff.rfl⟩
    rcases List.mem_cons.mp hm with e | hm
    · cases e; exact ⟨_, .ty "ValueError", .inr ⟨PySem.W.mg_none_of X Gl z_ValueError, by decide +kernel, by decide⟩, fun z => Iff.rfl⟩
    rcases List.mem_cons.mp hm with e | hm
    · cases e; exact ⟨_, .ty "LookupError", .inr ⟨PySem.W.mg_none_of X Gl z_LookupError, by decide +kernel, by decide⟩, fun z => Iff.rfl⟩
    cases hm
theorem all_end {P : Program} {w : World} {h : Heap} {fa : Addr} (X : K.In h) (Gl : h.Ns mainGlobals mg) (hfa : mg "law" = some (.ref fa)) (hlaw : ∀ ns : List Int, ns.length ≤ 63 → ∃ c, evF T 40 8 [.lst (ns.map .int)] [] = .ok (.bl true) c)
    {f0 : Addr} {od0 an0 : Option Addr} {sl0 : Array (Option Value)} {oc0 kV0 dc0 pm0 cd0 ct0 : Value}
    (a0 : PySem.W.nsIn K mainGlobals "common" = some (some (.ref f0)))
    (l0 : K.lookup f0 = some ⟨oc0, od0, .func (PySem.W.fnOf "common" "common" (defArgs s0) (defBody s0) (defScope s0) .none kV0 dc0 pm0 an0 cd0 ct0), sl0⟩)
    (c0 : PySem.W.codeIn K cd0 "common" = true) (k0 : PySem.W.keepIn K (.ref f0) = true)
    {f1 : Addr} {od1 an1 : Option Addr} {sl1 : Array (Option Value)} {oc1 kV1 dc1 pm1 cd1 ct1 : Value}
    (a1 : PySem.W.nsIn K mainGlobals "part" = some (some (.ref f1)))
    {t1 : Addr} {to1 : Obj} {tn1 : Nat}
    (l1 : K.lookup f1 = some ⟨oc1, od1, .func (PySem.W.fnOf "part" "part" (defArgs s1) (defBody s1) (defScope s1) (.ref t1) kV1 dc1 pm1 an1 cd1 ct1), sl1⟩)
    (c1 : PySem.W.codeIn K cd1 "part" = true) (k1 : PySem.W.keepIn K (.ref f1) = true)
    {dv1 : List Value} (tl1 : K.lookup t1 = some to1) (td1 : to1.data = .seq dv1.toArray tn1) (tv1 : Vals [((.int 1) : Cst).v] dv1)
    {f2 : Addr} {od2 an2 : Option Addr} {sl2 : Array (Option Value)} {oc2 kV2 dc2 pm2 cd2 ct2 : Value}
    (a2 : PySem.W.nsIn K mainGlobals "_law_deal" = some (some (.ref f2)))
    (l2 : K.lookup f2 = some ⟨oc2, od2, .func (PySem.W.fnOf "_law_deal" "_law_deal" (defArgs s2) (defBody s2) (defScope s2) .none kV2 dc2 pm2 an2 cd2 ct2), sl2⟩)
    (c2 : PySem.W.codeIn K cd2 "_law_deal" = true) (k2 : PySem.W.keepIn K (.ref f2) = true)
    {f3 : Addr} {od3 an3 : Option Addr} {sl3 : Array (Option Value)} {oc3 kV3 dc3 pm3 cd3 ct3 : Value}
    (a3 : PySem.W.nsIn K mainGlobals "_law_pick" = some (some (.ref f3)))
    (l3 : K.lookup f3 = some ⟨oc3, od3, .func (PySem.W.fnOf "_law_pick" "_law_pick" (defArgs s3) (defBody s3) (defScope s3) .none kV3 dc3 pm3 an3 cd3 ct3), sl3⟩)
    (c3 : PySem.W.codeIn K cd3 "_law_pick" = true) (k3 : PySem.W.keepIn K (.ref f3) = true)
    {f4 : Addr} {od4 an4 : Option Addr} {sl4 : Array (Option Value)} {oc4 kV4 dc4 pm4 cd4 ct4 : Value}
    (a4 : PySem.W.nsIn K mainGlobals "_law_of" = some (some (.ref f4)))
    (l4 : K.lookup f4 = some ⟨oc4, od4, .func (PySem.W.fnOf "_law_of" "_law_of" (defArgs s4) (defBody s4) (defScope s4) .none kV4 dc4 pm4 an4 cd4 ct4), sl4⟩)
    (c4 : PySem.W.codeIn K cd4 "_law_of" = true) (k4 : PySem.W.keepIn K (.ref f4) = true)
    {f5 : Addr} {od5 an5 : Option Addr} {sl5 : Array (Option Value)} {oc5 kV5 dc5 pm5 cd5 ct5 : Value}
    (a5 : PySem.W.nsIn K mainGlobals "_law_like" = some (some (.ref f5)))
    (l5 : K.lookup f5 = some ⟨oc5, od5, .func (PySem.W.fnOf "_law_like" "_law_like" (defArgs s5) (defBody s5) (defScope s5) .none kV5 dc5 pm5 an5 cd5 ct5), sl5⟩)
    (c5 : PySem.W.codeIn K cd5 "_law_like" = true) (k5 : PySem.W.keepIn K (.ref f5) = true)
    {f6 : Addr} {od6 an6 : Option Addr} {sl6 : Array (Option Value)} {oc6 kV6 dc6 pm6 cd6 ct6 : Value}
    (a6 : PySem.W.nsIn K mainGlobals "_law_low" = some (some (.ref f6)))
    (l6 : K.lookup f6 = some ⟨oc6, od6, .func (PySem.W.fnOf "_law_low" "_law_low" (defArgs s6) (defBody s6) (defScope s6) .none kV6 dc6 pm6 an6 cd6 ct6), sl6⟩)
    (c6 : PySem.W.codeIn K cd6 "_law_low" = true) (k6 : PySem.W.keepIn K (.ref f6) = true)
    {f7 : Addr} {od7 an7 : Option Addr} {sl7 : Array (Option Value)} {oc7 kV7 dc7 pm7 cd7 ct7 : Value}
    (a7 : PySem.W.nsIn K mainGlobals "_law_over" = some (some (.ref f7)))
    (l7 : K.lookup f7 = some ⟨oc7, od7, .func (PySem.W.fnOf "_law_over" "_law_over" (defArgs s7) (defBody s7) (defScope s7) .none kV7 dc7 pm7 an7 cd7 ct7), sl7⟩)
    (c7 : PySem.W.codeIn K cd7 "_law_over" = true) (k7 : PySem.W.keepIn K (.ref f7) = true)
    {f8 : Addr} {od8 an8 : Option Addr} {sl8 : Array (Option Value)} {oc8 kV8 dc8 pm8 cd8 ct8 : Value}
    (a8 : PySem.W.nsIn K mainGlobals "law" = some (some (.ref f8)))
    (l8 : K.lookup f8 = some ⟨oc8, od8, .func (PySem.W.fnOf "law" "law" (defArgs s8) (defBody s8) (defScope s8) .none kV8 dc8 pm8 an8 cd8 ct8), sl8⟩)
    (c8 : PySem.W.codeIn K cd8 "law" = true) (k8 : PySem.W.keepIn K (.ref f8) = true)
    {C_BadPart : Addr} (xa_BadPart : PySem.W.nsIn K mainGlobals "BadPart" = some (some (.ref C_BadPart)))
    {C_HeedError : Addr} (xa_HeedError : PySem.W.nsIn K mainGlobals "HeedError" = some (some (.ref C_HeedError)))
    {nm_BadPart qn_BadPart : Str} {N_BadPart : Addr} {bs_BadPart : List Value} {sn_BadPart : List Str} {sb_BadPart : List Value} {ab_BadPart : Bool} {co_BadPart : Option Bool} {dd_BadPart : Option Addr} {m0_BadPart m1_BadPart m2_BadPart m3_BadPart m5_BadPart : Option Value}
    (xl_BadPart : K.lookup C_BadPart = some (excClassObj nm_BadPart qn_BadPart C_BadPart N_BadPart bs_BadPart [.ref C_HeedError, .type "ValueError", .type "Exception", .type "BaseException", .type "object"] true sn_BadPart sb_BadPart ab_BadPart co_BadPart dd_BadPart m0_BadPart m1_BadPart m2_BadPart m3_BadPart m5_BadPart "ValueError.__new__"))
    (xsa_BadPart : PySem.W.findIn K (.ref C_BadPart) "__setattr__" = some (some (.builtin "object.__setattr__")))
    (xga_BadPart : PySem.W.findIn K (.ref C_BadPart) "__getattribute__" = some (some (.builtin "BaseException.__getattribute__")))
    (xgg_BadPart : PySem.W.findIn K (.ref C_BadPart) "__getattr__" = some none)
    (xn0_BadPart : PySem.W.findIn K (.ref C_BadPart) "word" = some none)
    {fI_BadPart : Addr} {ocI_BadPart kVI_BadPart dcI_BadPart pmI_BadPart cdI_BadPart ctI_BadPart : Value} {odI_BadPart anI_BadPart : Option Addr} {slI_BadPart : Array (Option Value)}
    (xi_BadPart : PySem.W.findIn K (.ref C_BadPart) "__init__" = some (some (.ref fI_BadPart)))
    (xt_BadPart : PySem.W.typeIn K (.ref fI_BadPart) = some (.type "function"))
    (xil_BadPart : K.lookup fI_BadPart = some ⟨ocI_BadPart, odI_BadPart, .func (PySem.W.fnOf "__init__" "BadPart.__init__" (defArgs si_BadPart) (defBody si_BadPart) (defScope si_BadPart) .none kVI_BadPart dcI_BadPart pmI_BadPart anI_BadPart cdI_BadPart ctI_BadPart), slI_BadPart⟩)
    (xic_BadPart : PySem.W.codeIn K cdI_BadPart "BadPart.__init__" = true)
    (xk_BadPart : PySem.W.keepIn K (.ref C_BadPart) = true)
    (xe_BadPart : PySem.W.subIn K (.ref C_BadPart) (.type "BaseException") = some true)
    (xty_BadPart : PySem.W.typeIn K (.ref C_BadPart) = some (.type "type"))
    (xh_BadPart : PySem.W.hasDictIn K C_BadPart = true)
    (xca_BadPart : PySem.W.findIn K (.ref C_BadPart) "__class__" = some (some (.builtin "object.__class__")))
    (xsp_BadPart : PySem.W.specialIn K (.builtin "object.__class__") "__get__" = some (some (.builtin "getset_descriptor.__get__")))
    (xtk_BadPart : PySem.W.takesIn K (.builtin "object.__class__") = some true)
    (xm_BadPart : PySem.W.mroIn K C_BadPart (.type "object") = some true)
    (xx0_BadPart : PySem.W.exmOne K (.ref C_BadPart) (.ref C_BadPart) = some true)
    (xy0_BadPart : PySem.W.kitOne K (.ref C_BadPart) (.ref C_BadPart) = some true)
    (xx1_BadPart : PySem.W.exmOne K (.ref C_BadPart) (.ref C_HeedError) = some true)
    (xy1_BadPart : PySem.W.kitOne K (.ref C_BadPart) (.ref C_HeedError) = some true)
    (xx2_BadPart : PySem.W.exmOne K (.ref C_BadPart) (.type "ValueError") = some true)
    (xy2_BadPart : PySem.W.kitOne K (.ref C_BadPart) (.type "ValueError") = some true)
    (xx3_BadPart : PySem.W.exmOne K (.ref C_BadPart) (.type "LookupError") = some false)
    (xy3_BadPart : PySem.W.kitOne K (.ref C_BadPart) (.type "LookupError") = some false)
    (z_len : PySem.W.nsIn K mainGlobals "len" = some none)
    (z_list : PySem.W.nsIn K mainGlobals "list" = some none)
    (z_tuple : PySem.W.nsIn K mainGlobals "tuple" = some none)
    (z_abs : PySem.W.nsIn K mainGlobals "abs" = some none)
    (z_all : PySem.W.nsIn K mainGlobals "all" = some none)
    (z_any : PySem.W.nsIn K mainGlobals "any" = some none)
    (z_sum : PySem.W.nsIn K mainGlobals "sum" = some none)
    (z_isinstance : PySem.W.nsIn K mainGlobals "isinstance" = some none)
    (z_int : PySem.W.nsIn K mainGlobals "int" = some none)
    (z_max : PySem.W.nsIn K mainGlobals "max" = some none)
    (z_min : PySem.W.nsIn K mainGlobals "min" = some none)
    (z_sorted : PySem.W.nsIn K mainGlobals "sorted" = some none)
    (z_range : PySem.W.nsIn K mainGlobals "range" = some none)
    (z_bool : PySem.W.nsIn K mainGlobals "bool" = some none)
    (z_str : PySem.W.nsIn K mainGlobals "str" = some none)
    (z_dict : PySem.W.nsIn K mainGlobals "dict" = some none)
    (z_ValueError : PySem.W.nsIn K mainGlobals "ValueError" = some none)
    (z_LookupError : PySem.W.nsIn K mainGlobals "LookupError" = some none)
    : ∃ fd : FuncData, (∀ (s : Shared) (v : Value), BindsTo s fd ⟨[v], []⟩ [("_law_script", v)]) ∧ ∀ base : Heap, K.In base → base.Ns mainGlobals mg → FnOk P w K mg base (L2.CX P w) 42 fa fd ["_law_script"] (spLaw K) := by
  obtain ⟨A, fa', fd, e, D, B⟩ := all_mk X Gl a0 l0 c0 k0 a1 l1 c1 k1 tl1 td1 tv1 a2 l2 c2 k2 a3 l3 c3 k3 a4 l4 c4 k4 a5 l5 c5 k5 a6 l6 c6 k6 a7 l7 c7 k7 a8 l8 c8 k8 xa_BadPart xa_HeedError xl_BadPart xsa_BadPart xga_BadPart xgg_BadPart xn0_BadPart xi_BadPart xt_BadPart xil_BadPart xic_BadPart xk_BadPart xe_BadPart xty_BadPart xh_BadPart xca_BadPart xsp_BadPart xtk_BadPart xm_BadPart xx0_BadPart xy0_BadPart xx1_BadPart xy1_BadPart xx2_BadPart xy2_BadPart xx3_BadPart xy3_BadPart z_len z_list z_tuple z_abs z_all z_any z_sum z_isinstance z_int z_max z_min z_sorted z_range z_bool z_str z_dict z_ValueError z_LookupError
  have e2 := hfa.symm.trans e
  cases e2
  exact ⟨fd, B, fun base _ _ => law_ok A rfl D hlaw⟩
end
end Wk01

set_option Elab.async false
set_option linter.all false
set_option maxRecDepth 100000
set_option maxHeartbeats 4000000
namespace Wk01
open PySem PySem.Spec PyProof.Rows L2 Hv

theorem gcd_loop {call : CallF} {sl : Nat → Nat → Sl} {q : Sl → Ct → Res Bool} {b : Sl → Ct → RS} {c : Ct} (hq : ∀ x y, q (sl x y) c = .ok (decide ((0 : Int) < (y : Int))) c) (hb : ∀ x y, y ≠ 0 → b (sl x y) c = .ok (.nx (sl y (x % y))) c) :
    ∀ (y x : Nat), whR q b (sl x y) c = .ok (.nx (sl (Nat.gcd x y) 0)) c := by
  intro y
  induction y using Nat.strongRecOn with
  | _ y ih =>
    intro x
    rw [whR_eq, hq]
    by_cases h : y = 0
    · subst h
      rw [Nat.gcd_zero_right]
      rfl
    · rw [decide_eq_true (by omega)]
      simp only
      rw [hb x y h]
      simp only
      rw [ih (x % y) (Nat.mod_lt _ (Nat.pos_of_ne_zero h)), Nat.gcd_comm x y, Nat.gcd_rec y x, Nat.gcd_comm]
theorem abs_ev (i : Int) (c : Ct) : bltD .abs [.int i] c = .ok (.int (i.natAbs : Int)) c := by
  show Res.ok (D.int (if i < 0 then -i else i)) c = _
  rw [show (if i < 0 then -i else i) = (i.natAbs : Int) by omega]
theorem emod_nat (x y : Nat) : (x : Int) % (y : Int) = ((x % y : Nat) : Int) := rfl
theorem ifK_f (fa fb : Ct → Res D) (c : Ct) : ifK false fa fb c = fb c := rfl
theorem tup2 (a b : D) (c : Ct) : tupK [a, b] c = .ok (.tup [a, b]) c := tupK_ok (by simp) c
theorem callK_one {call : CallF} {f : Nat} {d0 : D} {c : Ct} : callK call f [.arg 0] [d0] [] c = call f [d0] c := rfl
theorem callK_kw {call : CallF} {f : Nat} {d0 d1 : D} {c : Ct} : callK call f [.arg 1, .arg 0] [] [d0, d1] c = call f [d1, d0] c := rfl
theorem i0 (a b : D) (c : Ct) : idxD (.tup [a, b]) (.int 0) c = .ok a c := rfl
theorem i1 (a b : D) (c : Ct) : idxD (.tup [a, b]) (.int 1) c = .ok b c := rfl
def wCom : IS := (.whl (.cmp .gt (.var 1) (.cst (.int 0))) (.cons (.par 0 1 (.var 1) (.bin .mod (.var 0) (.var 1))) .nil))
theorem ev_wCom {call : CallF} (x y : Nat) (c : Ct) : evS call wCom [some (.int x), some (.int y)] c = .ok (.nx [some (.int (Nat.gcd x y)), some (.int 0)]) c := by
  rw [wCom, evS]
  refine gcd_loop (call := call) (sl := fun x y => [some (.int x), some (.int y)]) (fun x y => ?_) (fun x y hy => ?_) y x
  · simp only [evSs_cons, evSs_nil, seqK_nx, seqK_rt, seqK_ex, evS, evM, evA, evO, evI, evT, bnd_ok, ofR_ok, tst_f, tst_t, varK_some, Cst.d, bolK_bl, tru_bl', truK_bl, and_bl, or_bl, notK_bl, bin_add, bin_sub, cmp_lt, cmp_le, cmp_gt, cmp_ge, cmp_eqI, cmp_neI, cmp_eqB, cmp_neB, cmp_eqS, cmp_neS, cmp_isN, cmp_isnN, cmp_isB, len_lst, len_tup, isNon, intO, seqD, asT, asTs, Option.bind_some, List.getElem?_cons_zero, List.getElem?_cons_succ, List.set_cons_zero, List.set_cons_succ, fin_rt, fin_nx, fin_ex, if_true, eq_self, decide_true, decide_false, Bool.false_eq_true, if_false]
  · simp only [evSs_cons, evSs_nil, seqK_nx, seqK_rt, seqK_ex, evS, evM, evA, evO, evI, evT, bnd_ok, ofR_ok, tst_f, tst_t, varK_some, Cst.d, bolK_bl, tru_bl', truK_bl, and_bl, or_bl, notK_bl, bin_add, bin_sub, cmp_lt, cmp_le, cmp_gt, cmp_ge, cmp_eqI, cmp_neI, cmp_eqB, cmp_neB, cmp_eqS, cmp_neS, cmp_isN, cmp_isnN, cmp_isB, len_lst, len_tup, isNon, intO, seqD, asT, asTs, Option.bind_some, List.getElem?_cons_zero, List.getElem?_cons_succ, List.set_cons_zero, List.set_cons_succ, fin_rt, fin_nx, fin_ex, if_true, eq_self, decide_true, decide_false, Bool.false_eq_true, if_false, modD (i := (x : Int)) (j := (y : Int)) (by omega), emod_nat]
def wLow : IS := (.whl (.cmp .gt (.var 3) (.cst (.int 0))) (.cons (.par 2 3 (.var 3) (.bin .mod (.var 2) (.var 3))) .nil))
theorem ev_wLow {call : CallF} (u v : Option D) (x y : Nat) (c : Ct) : evS call wLow [u, v, some (.int x), some (.int y)] c = .ok (.nx [u, v, some (.int (Nat.gcd x y)), some (.int 0)]) c := by
  rw [wLow, evS]
  refine gcd_loop (call := call) (sl := fun x y => [u, v, some (.int x), some (.int y)]) (fun x y => ?_) (fun x y hy => ?_) y x
  · simp only [evSs_cons, evSs_nil, seqK_nx, seqK_rt, seqK_ex, evS, evM, evA, evO, evI, evT, bnd_ok, ofR_ok, tst_f, tst_t, varK_some, Cst.d, bolK_bl, tru_bl', truK_bl, and_bl, or_bl, notK_bl, bin_add, bin_sub, cmp_lt, cmp_le, cmp_gt, cmp_ge, cmp_eqI, cmp_neI, cmp_eqB, cmp_neB, cmp_eqS, cmp_neS, cmp_isN, cmp_isnN, cmp_isB, len_lst, len_tup, isNon, intO, seqD, asT, asTs, Option.bind_some, List.getElem?_cons_zero, List.getElem?_cons_succ, List.set_cons_zero, List.set_cons_succ, fin_rt, fin_nx, fin_ex, if_true, eq_self, decide_true, decide_false, Bool.false_eq_true, if_false]
  · simp only [evSs_cons, evSs_nil, seqK_nx, seqK_rt, seqK_ex, evS, evM, evA, evO, evI, evT, bnd_ok, ofR_ok, tst_f, tst_t, varK_some, Cst.d, bolK_bl, tru_bl', truK_bl, and_bl, or_bl, notK_bl, bin_add, bin_sub, cmp_lt, cmp_le, cmp_gt, cmp_ge, cmp_eqI, cmp_neI, cmp_eqB, cmp_neB, cmp_eqS, cmp_neS, cmp_isN, cmp_isnN, cmp_isB, len_lst, len_tup, isNon, intO, seqD, asT, asTs, Option.bind_some, List.getElem?_cons_zero, List.getElem?_cons_succ, List.set_cons_zero, List.set_cons_succ, fin_rt, fin_nx, fin_ex, if_true, eq_self, decide_true, decide_false, Bool.false_eq_true, if_false, modD (i := (x : Int)) (j := (y : Int)) (by omega), emod_nat]
theorem bin_fdiv {i j : Int} {n : Nat} (h : j ≠ 0) (hn : 0 < n) (hl : n ≤ 9000) (h2 : j.natAbs < 2 ^ n) (c : Ct) : binD .fdiv (.int i) (.int j) c = .ok (.int (i.fdiv j)) c := by
  show (if _ then _ else _) = _
  rw [if_pos ⟨h, Nat.lt_of_lt_of_le (log2_lt hn h2) hl⟩]
theorem callK_d {call : CallF} {f : Nat} {d0 : D} {k : Cst} {c : Ct} : callK call f [.arg 0, .dfl k] [d0] [] c = call f [d0, k.d] c := rfl
theorem ev_common (k : Nat) (a b : Int) (c : Ct) : evF T (k + 1) 0 [.int a, .int b] c = .ok (.int (Int.gcd a b : Int)) c := by
  rw [evF_at (fd := fd0) rfl]
  show fin (evSs (evF T k) (.cons (.par 0 1 (.blt .abs (.cons (.var 0) .nil)) (.blt .abs (.cons (.var 1) .nil))) (.cons wCom (.cons (.ret (.var 0)) .nil))) [some (.int a), some (.int b)] c) = _
  simp only [evSs_cons, evSs_nil, seqK_nx, seqK_rt, seqK_ex, evS, evM, evA, evO, evI, evT, bnd_ok, ofR_ok, tst_f, tst_t, varK_some, Cst.d, bolK_bl, tru_bl', truK_bl, and_bl, or_bl, notK_bl, bin_add, bin_sub, cmp_lt, cmp_le, cmp_gt, cmp_ge, cmp_eqI, cmp_neI, cmp_eqB, cmp_neB, cmp_eqS, cmp_neS, cmp_isN, cmp_isnN, cmp_isB, len_lst, len_tup, isNon, intO, seqD, asT, asTs, Option.bind_some, List.getElem?_cons_zero, List.getElem?_cons_succ, List.set_cons_zero, List.set_cons_succ, fin_rt, fin_nx, fin_ex, if_true, eq_self, decide_true, decide_false, Bool.false_eq_true, if_false, abs_ev, ev_wCom]
  rfl
def gg (a b : Int) : Int := if b < 0 then 0 - (Int.gcd a b : Int) else (Int.gcd a b : Int)
def low (a b : Int) : D := .tup [.int (a.fdiv (gg a b)), .int (b.fdiv (gg a b))]
theorem gcd_pos {a b : Int} (hb : b ≠ 0) : (0 : Int) < (Int.gcd a b : Int) := by
  have := Int.gcd_pos_of_ne_zero_right a hb
  omega
theorem gg_ne {a b : Int} (hb : b ≠ 0) : gg a b ≠ 0 := by
  have := gcd_pos (a := a) hb
  unfold gg
  split <;> omega
theorem gg_lt {a b : Int} (hb : b ≠ 0) {n : Nat} (hb2 : b.natAbs < 2 ^ n) : (gg a b).natAbs < 2 ^ n := by
  have h1 : Int.gcd a b ∣ b.natAbs := Nat.gcd_dvd_right _ _
  have := Nat.le_of_dvd (by omega) h1
  unfold gg
  split <;> omega
def xBad : XD := ⟨"BadPart", [("BadPart", true), ("HeedError", true), ("ValueError", true), ("LookupError", false)], [("word", .str "BadPart")]⟩
theorem ev_part0 (k : Nat) (a : Int) (c : Ct) : evF T (k + 1) 1 [.int a, .int 0] c = .exc xBad c := by
  rw [evF_at (fd := fd1) rfl]
  show fin (evSs (evF T k) b1 [some (.int a), some (.int 0), none] c) = _
  have hr : ∀ sl c, rseK "BadPart" 0 [("BadPart", true), ("HeedError", true), ("ValueError", true), ("LookupError", false)] [("word", .dfl (.str "BadPart"))] sl [] c = .ok (.ex xBad sl) c := fun _ _ => rfl
  unfold b1
  simp only [evSs_cons, evSs_nil, seqK_nx, seqK_rt, seqK_ex, evS, evM, evA, evO, evI, evT, bnd_ok, ofR_ok, tst_f, tst_t, varK_some, Cst.d, bolK_bl, tru_bl', truK_bl, and_bl, or_bl, notK_bl, bin_add, bin_sub, cmp_lt, cmp_le, cmp_gt, cmp_ge, cmp_eqI, cmp_neI, cmp_eqB, cmp_neB, cmp_eqS, cmp_neS, cmp_isN, cmp_isnN, cmp_isB, len_lst, len_tup, isNon, intO, seqD, asT, asTs, Option.bind_some, List.getElem?_cons_zero, List.getElem?_cons_succ, List.set_cons_zero, List.set_cons_succ, fin_rt, fin_nx, fin_ex, if_true, eq_self, decide_true, decide_false, Bool.false_eq_true, if_false, hr]
theorem ev_part (k : Nat) {a b : Int} (hb : b ≠ 0) (hb2 : b.natAbs < 2 ^ 250) (c : Ct) : evF T (k + 2) 1 [.int a, .int b] c = .ok (low a b) c := by
  rw [evF_at (fd := fd1) rfl]
  show fin (evSs (evF T (k + 1)) b1 [some (.int a), some (.int b), none] c) = _
  have hd := fun i c => bin_fdiv (i := i) (gg_ne (a := a) hb) (by omega) (by omega) (gg_lt (a := a) hb hb2) c
  unfold b1 low
  by_cases h : b < 0
  · have e : gg a b = 0 - (Int.gcd a b : Int) := if_pos h
    rw [e] at hd ⊢
    simp only [evSs_cons, evSs_nil, seqK_nx, seqK_rt, seqK_ex, evS, evM, evA, evO, evI, evT, bnd_ok, ofR_ok, tst_f, tst_t, varK_some, Cst.d, bolK_bl, tru_bl', truK_bl, and_bl, or_bl, notK_bl, bin_add, bin_sub, cmp_lt, cmp_le, cmp_gt, cmp_ge, cmp_eqI, cmp_neI, cmp_eqB, cmp_neB, cmp_eqS, cmp_neS, cmp_isN, cmp_isnN, cmp_isB, len_lst, len_tup, isNon, intO, seqD, asT, asTs, Option.bind_some, List.getElem?_cons_zero, List.getElem?_cons_succ, List.set_cons_zero, List.set_cons_succ, fin_rt, fin_nx, fin_ex, if_true, eq_self, decide_true, decide_false, Bool.false_eq_true, if_false, callK_all, ev_common, hb, h, hd, tup2]
  · have e : gg a b = (Int.gcd a b : Int) := if_neg h
    rw [e] at hd ⊢
    simp only [evSs_cons, evSs_nil, seqK_nx, seqK_rt, seqK_ex, evS, evM, evA, evO, evI, evT, bnd_ok, ofR_ok, tst_f, tst_t, varK_some, Cst.d, bolK_bl, tru_bl', truK_bl, and_bl, or_bl, notK_bl, bin_add, bin_sub, cmp_lt, cmp_le, cmp_gt, cmp_ge, cmp_eqI, cmp_neI, cmp_eqB, cmp_neB, cmp_eqS, cmp_neS, cmp_isN, cmp_isnN, cmp_isB, len_lst, len_tup, isNon, intO, seqD, asT, asTs, Option.bind_some, List.getElem?_cons_zero, List.getElem?_cons_succ, List.set_cons_zero, List.set_cons_succ, fin_rt, fin_nx, fin_ex, if_true, eq_self, decide_true, decide_false, Bool.false_eq_true, if_false, callK_all, ev_common, hb, h, hd, tup2]
theorem ifK_t (fa fb : Ct → Res D) (c : Ct) : ifK true fa fb c = fa c := rfl
theorem ev_low (k : Nat) {a b : Int} (hb : b ≠ 0) (hb2 : b.natAbs < 2 ^ 250) (c : Ct) : evF T (k + 1) 6 [.int a, .int b] c = .ok (low a b) c := by
  rw [evF_at (fd := fd6) rfl]
  show fin (evSs (evF T k) (.cons (.par 2 3 (.blt .abs (.cons (.var 0) .nil)) (.blt .abs (.cons (.var 1) .nil))) (.cons wLow (.cons (.asg (.nm 2) (.ifx (.cmp .lt (.var 1) (.cst (.int 0))) (.bin .sub (.cst (.int 0)) (.var 2)) (.var 2))) (.cons (.ret (.tup (.cons (.bin .fdiv (.var 0) (.var 2)) (.cons (.bin .fdiv (.var 1) (.var 2)) .nil)))) .nil)))) [some (.int a), some (.int b), none, none] c) = _
  have hd := fun i c => bin_fdiv (i := i) (gg_ne (a := a) hb) (by omega) (by omega) (gg_lt (a := a) hb hb2) c
  have hG : ((Nat.gcd a.natAbs b.natAbs : Nat) : Int) = (Int.gcd a b : Int) := rfl
  unfold low
  by_cases h : b < 0
  · have e : gg a b = 0 - (Int.gcd a b : Int) := if_pos h
    rw [e] at hd ⊢
    simp only [evSs_cons, evSs_nil, seqK_nx, seqK_rt, seqK_ex, evS, evM, evA, evO, evI, evT, bnd_ok, ofR_ok, tst_f, tst_t, varK_some, Cst.d, bolK_bl, tru_bl', truK_bl, and_bl, or_bl, notK_bl, bin_add, bin_sub, cmp_lt, cmp_le, cmp_gt, cmp_ge, cmp_eqI, cmp_neI, cmp_eqB, cmp_neB, cmp_eqS, cmp_neS, cmp_isN, cmp_isnN, cmp_isB, len_lst, len_tup, isNon, intO, seqD, asT, asTs, Option.bind_some, List.getElem?_cons_zero, List.getElem?_cons_succ, List.set_cons_zero, List.set_cons_succ, fin_rt, fin_nx, fin_ex, if_true, eq_self, decide_true, decide_false, Bool.false_eq_true, if_false, abs_ev, ev_wLow, h, ifK_t, hG, hd, tup2]
  · have e : gg a b = (Int.gcd a b : Int) := if_neg h
    rw [e] at hd ⊢
    simp only [evSs_cons, evSs_nil, seqK_nx, seqK_rt, seqK_ex, evS, evM, evA, evO, evI, evT, bnd_ok, ofR_ok, tst_f, tst_t, varK_some, Cst.d, bolK_bl, tru_bl', truK_bl, and_bl, or_bl, notK_bl, bin_add, bin_sub, cmp_lt, cmp_le, cmp_gt, cmp_ge, cmp_eqI, cmp_neI, cmp_eqB, cmp_neB, cmp_eqS, cmp_neS, cmp_isN, cmp_isnN, cmp_isB, len_lst, len_tup, isNon, intO, seqD, asT, asTs, Option.bind_some, List.getElem?_cons_zero, List.getElem?_cons_succ, List.set_cons_zero, List.set_cons_succ, fin_rt, fin_nx, fin_ex, if_true, eq_self, decide_true, decide_false, Bool.false_eq_true, if_false, abs_ev, ev_wLow, h, ifK_f, hG, hd, tup2]
theorem like_int (k : Nat) (i : Int) (c : Ct) : evF T (k + 1) 5 [.int i, .int i] c = .ok (.bl true) c := by
  rw [evF_at (fd := fd5) rfl]
  show fin (evSs (evF T k) (bLike 5 "_law_k") [some (.int i), some (.int i), none] c) = _
  unfold bLike
  simp only [evSs_cons, evSs_nil, seqK_nx, seqK_rt, seqK_ex, evS, evM, evA, evO, evI, evT, bnd_ok, ofR_ok, tst_f, tst_t, varK_some, Cst.d, bolK_bl, tru_bl', truK_bl, and_bl, or_bl, notK_bl, bin_add, bin_sub, cmp_lt, cmp_le, cmp_gt, cmp_ge, cmp_eqI, cmp_neI, cmp_eqB, cmp_neB, cmp_eqS, cmp_neS, cmp_isN, cmp_isnN, cmp_isB, len_lst, len_tup, isNon, intO, seqD, asT, asTs, Option.bind_some, List.getElem?_cons_zero, List.getElem?_cons_succ, List.set_cons_zero, List.set_cons_succ, fin_rt, fin_nx, fin_ex, if_true, eq_self, decide_true, decide_false, Bool.false_eq_true, if_false, tup2, isi_lt2 (.int i) "int" c false rfl (by decide +kernel), isi_lt (.int i) "int" c false rfl "bool" (by decide +kernel), isi_lt (.int i) "int" c true rfl "int" (by decide +kernel), isi_lt (.int i) "int" c false rfl "str" (by decide +kernel), Bool.not_true]
theorem like_bl (k : Nat) (i : Bool) (c : Ct) : evF T (k + 1) 5 [.bl i, .bl i] c = .ok (.bl true) c := by
  rw [evF_at (fd := fd5) rfl]
  show fin (evSs (evF T k) (bLike 5 "_law_k") [some (.bl i), some (.bl i), none] c) = _
  unfold bLike
  simp only [evSs_cons, evSs_nil, seqK_nx, seqK_rt, seqK_ex, evS, evM, evA, evO, evI, evT, bnd_ok, ofR_ok, tst_f, tst_t, varK_some, Cst.d, bolK_bl, tru_bl', truK_bl, and_bl, or_bl, notK_bl, bin_add, bin_sub, cmp_lt, cmp_le, cmp_gt, cmp_ge, cmp_eqI, cmp_neI, cmp_eqB, cmp_neB, cmp_eqS, cmp_neS, cmp_isN, cmp_isnN, cmp_isB, len_lst, len_tup, isNon, intO, seqD, asT, asTs, Option.bind_some, List.getElem?_cons_zero, List.getElem?_cons_succ, List.set_cons_zero, List.set_cons_succ, fin_rt, fin_nx, fin_ex, if_true, eq_self, decide_true, decide_false, Bool.false_eq_true, if_false, tup2, isi_lt2 (.bl i) "bool" c false rfl (by decide +kernel), isi_lt (.bl i) "bool" c true rfl "bool" (by decide +kernel), isi_lt (.bl i) "bool" c true rfl "int" (by decide +kernel), isi_lt (.bl i) "bool" c false rfl "str" (by decide +kernel), Bool.not_true]
theorem like_str (k : Nat) (i : Str) (c : Ct) : evF T (k + 1) 5 [.str i, .str i] c = .ok (.bl true) c := by
  rw [evF_at (fd := fd5) rfl]
  show fin (evSs (evF T k) (bLike 5 "_law_k") [some (.str i), some (.str i), none] c) = _
  unfold bLike
  simp only [evSs_cons, evSs_nil, seqK_nx, seqK_rt, seqK_ex, evS, evM, evA, evO, evI, evT, bnd_ok, ofR_ok, tst_f, tst_t, varK_some, Cst.d, bolK_bl, tru_bl', truK_bl, and_bl, or_bl, notK_bl, bin_add, bin_sub, cmp_lt, cmp_le, cmp_gt, cmp_ge, cmp_eqI, cmp_neI, cmp_eqB, cmp_neB, cmp_eqS, cmp_neS, cmp_isN, cmp_isnN, cmp_isB, len_lst, len_tup, isNon, intO, seqD, asT, asTs, Option.bind_some, List.getElem?_cons_zero, List.getElem?_cons_succ, List.set_cons_zero, List.set_cons_succ, fin_rt, fin_nx, fin_ex, if_true, eq_self, decide_true, decide_false, Bool.false_eq_true, if_false, tup2, isi_lt2 (.str i) "str" c false rfl (by decide +kernel), isi_lt (.str i) "str" c false rfl "bool" (by decide +kernel), isi_lt (.str i) "str" c false rfl "int" (by decide +kernel), isi_lt (.str i) "str" c true rfl "str" (by decide +kernel), Bool.not_true]
theorem like_lst (k : Nat) (xs : List D) (c : Ct) (hl : xs.length ≤ 100000) (h : ∀ d ∈ xs, evF T k 5 [d, d] c = .ok (.bl true) c) : evF T (k + 1) 5 [.lst xs, .lst xs] c = .ok (.bl true) c :=
  like_seq (nm := "_law_k") rfl rfl rfl rfl hl (.inl ⟨rfl, rfl⟩) fun i u v h1 h2 => by
    cases Option.some.inj (h1.symm.trans h2)
    exact h u (List.mem_of_getElem? h1)
theorem like_tup (k : Nat) (xs : List D) (c : Ct) (hl : xs.length ≤ 100000) (h : ∀ d ∈ xs, evF T k 5 [d, d] c = .ok (.bl true) c) : evF T (k + 1) 5 [.tup xs, .tup xs] c = .ok (.bl true) c :=
  like_seq (nm := "_law_k") rfl rfl rfl rfl hl (.inr ⟨rfl, rfl⟩) fun i u v h1 h2 => by
    cases Option.some.inj (h1.symm.trans h2)
    exact h u (List.mem_of_getElem? h1)
theorem like_low (k : Nat) (a b : Int) (c : Ct) : evF T (k + 2) 5 [.tup [.int a, .int b], .tup [.int a, .int b]] c = .ok (.bl true) c :=
  like_tup (k + 1) _ c (by simp) fun d hd => by
    simp only [List.mem_cons, List.not_mem_nil, or_false] at hd
    rcases hd with rfl | rfl <;> exact like_int k _ c
theorem like_bad (k : Nat) (c : Ct) : evF T (k + 2) 5 [.tup [.str "BadPart", .bl true, .bl true, .bl false], .tup [.str "BadPart", .bl true, .bl true, .bl false]] c = .ok (.bl true) c :=
  like_tup (k + 1) _ c (by simp) fun d hd => by
    simp only [List.mem_cons, List.not_mem_nil, or_false] at hd
    rcases hd with rfl | rfl | rfl | rfl
    · exact like_str k _ c
    · exact like_bl k _ c
    · exact like_bl k _ c
    · exact like_bl k _ c
section
variable {ns : List Int} {c : Ct} {r : Nat} {x : List D}
theorem pick_at (k : Nat) {m : Int} (hc : c[r]? = some (.lst x)) (hx : DealOk ns x) (hm : 0 < m) (hm2 : m.natAbs < 2 ^ 200) : ∃ x' v, DealOk ns x' ∧ 0 ≤ v ∧ v < m ∧ evF T (k + 1) 3 [.ref r, .int m] c = .ok (.int v) (c.set r (.lst x')) :=
  pick_ok (p := 3) rfl hc hx hm (Nat.lt_trans (log2_lt (by omega) hm2) (by omega))
theorem of_at (k : Nat) {ds : List D} (hc : c[r]? = some (.lst x)) (hx : DealOk ns x) (hd : ds ≠ []) (hl : ds.length ≤ 1000) : ∃ x' d, DealOk ns x' ∧ d ∈ ds ∧ evF T (k + 2) 4 [.ref r, .lst ds] c = .ok d (c.set r (.lst x')) :=
  of_ok (p := 3) (q := 4) rfl rfl hc hx hd hl
theorem pow9 (c : Ct) : binD .pow (.int 10) (.int 9) c = .ok (.int 1000000000) c := rfl
theorem pow30 (c : Ct) : binD .pow (.int 10) (.int 30) c = .ok (.int 1000000000000000000000000000000) c := rfl
theorem lst4 (a b d e : D) (c : Ct) : lstK false [a, b, d, e] c = .ok (.lst [a, b, d, e]) c := lstK_f (by simp) c
theorem lst5 (a b d e f : D) (c : Ct) : lstK false [a, b, d, e, f] c = .ok (.lst [a, b, d, e, f]) c := lstK_f (by simp) c
theorem lst3 (a b d : D) (c : Ct) : lstK false [a, b, d] c = .ok (.lst [a, b, d]) c := lstK_f (by simp) c
theorem lst2 (a b : D) (c : Ct) : lstK false [a, b] c = .ok (.lst [a, b]) c := lstK_f (by simp) c
theorem over_ok (k : Nat) (hc : c[r]? = some (.lst x)) (hx : DealOk ns x) : ∃ x' v, DealOk ns x' ∧ v.natAbs < 2 ^ 200 ∧ evF T (k + 3) 7 [.ref r] c = .ok (.int v) (c.set r (.lst x')) := by
  have hr : r < c.length := (List.getElem?_eq_some_iff.mp hc).1
  obtain ⟨x1, d, h1, hd, e1⟩ := of_at k (ds := [.int 3, .int 12, .int 100, .int 1000000000, .int 1000000000000000000000000000000]) hc hx (by simp) (by simp)
  obtain ⟨w, rfl, hw0, hw1⟩ : ∃ w : Int, d = .int w ∧ 0 < w ∧ w ≤ 1000000000000000000000000000000 := by
    simp only [List.mem_cons, List.not_mem_nil, or_false] at hd
    rcases hd with rfl | rfl | rfl | rfl | rfl <;> exact ⟨_, rfl, by omega, by omega⟩
  have hc1 : (c.set r (.lst x1))[r]? = some (.lst x1) := set_at hr
  have hw2 : w.natAbs < 2 ^ 100 := Nat.lt_of_le_of_lt (show w.natAbs ≤ 1000000000000000000000000000000 by omega) (by decide)
  obtain ⟨x2, v, h2, hv0, hv1, e2⟩ := pick_at (k + 1) (m := 2 * w - 1) hc1 h1 (by omega) (Nat.lt_of_le_of_lt (show (2 * w - 1).natAbs ≤ 2000000000000000000000000000000 by omega) (by decide))
  refine ⟨x2, v - w + 1, h2, Nat.lt_of_le_of_lt (show (v - w + 1).natAbs ≤ 2000000000000000000000000000000 by omega) (by decide), ?_⟩
  have hm : ∀ c, binD .mul (.int 2) (.int w) c = .ok (.int (2 * w)) c := fun c => mulD' 10 100 (by decide) hw2 (by omega) (by omega) (by omega) c
  rw [evF_at (fd := fd7) rfl]
  show fin (evSs (evF T (k + 2)) b7 [some (.ref r), none] c) = _
  unfold b7
  simp only [evSs_cons, evSs_nil, seqK_nx, seqK_rt, seqK_ex, evS, evM, evA, evO, evI, evT, bnd_ok, ofR_ok, tst_f, tst_t, varK_some, Cst.d, bolK_bl, tru_bl', truK_bl, and_bl, or_bl, notK_bl, bin_add, bin_sub, cmp_lt, cmp_le, cmp_gt, cmp_ge, cmp_eqI, cmp_neI, cmp_eqB, cmp_neB, cmp_eqS, cmp_neS, cmp_isN, cmp_isnN, cmp_isB, len_lst, len_tup, isNon, intO, seqD, asT, asTs, Option.bind_some, List.getElem?_cons_zero, List.getElem?_cons_succ, List.set_cons_zero, List.set_cons_succ, fin_rt, fin_nx, fin_ex, if_true, eq_self, decide_true, decide_false, Bool.false_eq_true, if_false, pow9, pow30, lst5, callK_all, e1, hm, e2, List.set_set]
end
def sTry : IS := (.tryA (.cons (.asg (.nm 5) (.call 1 [] [.arg 0, .arg 1] (.cons (.var 3) (.cons (.var 4) .nil)) .nil)) .nil) "BadPart" 6 [.fld "word", .isi "HeedError", .isi "ValueError", .isi "LookupError"] (some 5))
def dBad : D := .tup [.str "BadPart", .bl true, .bl true, .bl false]
theorem hx_bad : hxVs xBad [.fld "word", .isi "HeedError", .isi "ValueError", .isi "LookupError"] = some [.str "BadPart", .bl true, .bl true, .bl false] := by
  first | rfl | with_unfolding_all rfl | kernel_rfl
theorem su_bad : xBad.sup.lookup ("BadPart" : Str) = some true := by decide +kernel
theorem try_z (k : Nat) (s0 s1 s2 s5 s6 s7 : Option D) (a : Int) (c : Ct) : evS (evF T (k + 1)) sTry [s0, s1, s2, some (.int a), some (.int 0), s5, s6, s7] c = .ok (.nx [s0, s1, s2, some (.int a), some (.int 0), some dBad, none, s7]) c := by
  have h : evSs (evF T (k + 1)) (.cons (.asg (.nm 5) (.call 1 [] [.arg 0, .arg 1] (.cons (.var 3) (.cons (.var 4) .nil)) .nil)) .nil) [s0, s1, s2, some (.int a), some (.int 0), s5, s6, s7] c = .ok (.ex xBad [s0, s1, s2, some (.int a), some (.int 0), s5, s6, s7]) c := by
    simp only [evSs_cons, evSs_nil, seqK_nx, seqK_rt, seqK_ex, evS, evM, evA, evO, evI, evT, bnd_ok, ofR_ok, tst_f, tst_t, varK_some, Cst.d, bolK_bl, tru_bl', truK_bl, and_bl, or_bl, notK_bl, bin_add, bin_sub, cmp_lt, cmp_le, cmp_gt, cmp_ge, cmp_eqI, cmp_neI, cmp_eqB, cmp_neB, cmp_eqS, cmp_neS, cmp_isN, cmp_isnN, cmp_isB, len_lst, len_tup, isNon, intO, seqD, asT, asTs, Option.bind_some, List.getElem?_cons_zero, List.getElem?_cons_succ, List.set_cons_zero, List.set_cons_succ, fin_rt, fin_nx, fin_ex, if_true, eq_self, decide_true, decide_false, Bool.false_eq_true, if_false, callK_all, ev_part0, ofR_exc]
  rw [sTry, evS, h]
  unfold tryK
  simp only [su_bad, hx_bad]
  rfl
theorem try_nz (k : Nat) (s0 s1 s2 s5 s6 s7 : Option D) {a b : Int} (hb : b ≠ 0) (hb2 : b.natAbs < 2 ^ 250) (c : Ct) : evS (evF T (k + 2)) sTry [s0, s1, s2, some (.int a), some (.int b), s5, s6, s7] c = .ok (.nx [s0, s1, s2, some (.int a), some (.int b), some (low a b), s6, s7]) c := by
  have h : evSs (evF T (k + 2)) (.cons (.asg (.nm 5) (.call 1 [] [.arg 0, .arg 1] (.cons (.var 3) (.cons (.var 4) .nil)) .nil)) .nil) [s0, s1, s2, some (.int a), some (.int b), s5, s6, s7] c = .ok (.nx [s0, s1, s2, some (.int a), some (.int b), some (low a b), s6, s7]) c := by
    simp only [evSs_cons, evSs_nil, seqK_nx, seqK_rt, seqK_ex, evS, evM, evA, evO, evI, evT, bnd_ok, ofR_ok, tst_f, tst_t, varK_some, Cst.d, bolK_bl, tru_bl', truK_bl, and_bl, or_bl, notK_bl, bin_add, bin_sub, cmp_lt, cmp_le, cmp_gt, cmp_ge, cmp_eqI, cmp_neI, cmp_eqB, cmp_neB, cmp_eqS, cmp_neS, cmp_isN, cmp_isnN, cmp_isB, len_lst, len_tup, isNon, intO, seqD, asT, asTs, Option.bind_some, List.getElem?_cons_zero, List.getElem?_cons_succ, List.set_cons_zero, List.set_cons_succ, fin_rt, fin_nx, fin_ex, if_true, eq_self, decide_true, decide_false, Bool.false_eq_true, if_false, callK_all, ev_part k hb hb2]
  rw [sTry, evS, h]
  rfl
def bTurn : ISs := (.cons (.par 3 4 (.call 7 [] [.arg 0] (.cons (.var 1) .nil) .nil) (.bin .mul (.call 7 [] [.arg 0] (.cons (.var 1) .nil) .nil) (.call 4 [] [.arg 0, .arg 1] (.cons (.var 1) (.cons (.lst false (.cons (.cst (.int 0)) (.cons (.cst (.int 1)) (.cons (.cst (.int 1)) (.cons (.cst (.int 1)) .nil))))) .nil)) .nil))) (.cons (.asg (.nm 5) (.cst .non)) (.cons sTry (.cons (.asg (.nm 7) (.ifx (.cmp .eq (.var 4) (.cst (.int 0))) (.tup (.cons (.cst (.str "BadPart")) (.cons (.cst (.bl true)) (.cons (.cst (.bl true)) (.cons (.cst (.bl false)) .nil))))) (.call 6 [] [.arg 0, .arg 1] (.cons (.var 3) (.cons (.var 4) .nil)) .nil))) (.cons (.ifs (.or (.not (.call 5 [] [.arg 0, .arg 1] (.cons (.var 5) (.cons (.var 7) .nil)) .nil)) (.not (.call 5 [] [.arg 0, .arg 1] (.cons (.call 1 [] [.arg 0, .dfl (.int 1)] (.cons (.var 3) .nil) .nil) (.cons (.tup (.cons (.var 3) (.cons (.cst (.int 1)) .nil))) .nil)) .nil))) (.cons (.ret (.cst (.bl false))) .nil) .nil) .nil)))))
theorem tup4 (a b d e : D) (c : Ct) : tupK [a, b, d, e] c = .ok (.tup [a, b, d, e]) c := tupK_ok (by simp) c
theorem low_one (a : Int) : low a 1 = .tup [.int a, .int 1] := by
  have h : gg a 1 = 1 := by
    unfold gg
    rw [Int.gcd_one]
    rfl
  unfold low
  rw [h, Int.fdiv_one]
  rfl
theorem turn_ok (k : Nat) {ns : List Int} {x : List D} (hx : DealOk ns x) (scr t : D) (w3 w4 w5 w6 w7 : Option D) : ∃ x' v3 v4 v5 v6 v7, DealOk ns x' ∧ evSs (evF T (k + 4)) bTurn [some scr, some (.ref 0), some t, w3, w4, w5, w6, w7] [.lst x] = .ok (.nx [some scr, some (.ref 0), some t, v3, v4, v5, v6, v7]) [.lst x'] := by
  obtain ⟨x1, a, h1, g1, e1⟩ := over_ok (k + 1) (c := [.lst x]) (r := 0) rfl hx
  obtain ⟨x2, v, h2, g2, e2⟩ := over_ok (k + 1) (c := [.lst x1]) (r := 0) rfl h1
  obtain ⟨x3, d, h3, hd, e3⟩ := of_at (k + 2) (ds := [.int 0, .int 1, .int 1, .int 1]) (c := [.lst x2]) (r := 0) rfl h2 (by simp) (by simp)
  rw [List.set_cons_zero] at e1 e2 e3
  obtain ⟨z, rfl, hz⟩ : ∃ z : Int, d = .int z ∧ (z = 0 ∨ z = 1) := by
    simp only [List.mem_cons, List.not_mem_nil, or_false] at hd
    rcases hd with rfl | rfl | rfl | rfl
    · exact ⟨_, rfl, .inl rfl⟩
    · exact ⟨_, rfl, .inr rfl⟩
    · exact ⟨_, rfl, .inr rfl⟩
    · exact ⟨_, rfl, .inr rfl⟩
  have hm : ∀ c, binD .mul (.int v) (.int z) c = .ok (.int (v * z)) c := fun c => mulD' 200 10 g2 (by rcases hz with rfl | rfl <;> decide) (by omega) (by omega) (by omega) c
  have hb2 : (v * z).natAbs < 2 ^ 250 := by
    refine Nat.lt_of_le_of_lt ?_ (Nat.lt_of_lt_of_le g2 (Nat.pow_le_pow_right (by omega) (by omega)))
    rw [Int.natAbs_mul]
    rcases hz with rfl | rfl <;> simp
  generalize hb : v * z = b at hm hb2
  have f1 := fun c => ev_part (k + 2) (a := a) (b := 1) (by omega) (by decide) c
  rw [low_one] at f1
  have f2 := fun a b c => like_low (k + 2) a b c
  have one : ∀ c : Cst, c = .int 1 → c.d = .int 1 := fun c h => by rw [h]; rfl
  by_cases h0 : b = 0
  · subst h0
    have t1 := fun s5 s6 s7 c => try_z (k + 3) (some scr) (some (.ref 0)) (some t) s5 s6 s7 a c
    have l1 := fun c => like_bad (k + 2) c
    refine ⟨x3, some (.int a), some (.int 0), some dBad, none, some dBad, h3, ?_⟩
    unfold bTurn
    simp only [evSs_cons, evSs_nil, seqK_nx, seqK_rt, seqK_ex, evS, evM, evA, evO, evI, evT, bnd_ok, ofR_ok, tst_f, tst_t, varK_some, Cst.d, bolK_bl, tru_bl', truK_bl, and_bl, or_bl, notK_bl, bin_add, bin_sub, cmp_lt, cmp_le, cmp_gt, cmp_ge, cmp_eqI, cmp_neI, cmp_eqB, cmp_neB, cmp_eqS, cmp_neS, cmp_isN, cmp_isnN, cmp_isB, len_lst, len_tup, isNon, intO, seqD, asT, asTs, Option.bind_some, List.getElem?_cons_zero, List.getElem?_cons_succ, List.set_cons_zero, List.set_cons_succ, fin_rt, fin_nx, fin_ex, if_true, eq_self, decide_true, decide_false, Bool.false_eq_true, if_false, callK_one, callK_all, e1, e2, lst4, e3, hm, t1, ifK_t, tup4, dBad, l1, callK_d, f1, tup2, f2, Bool.not_true]
  · have t1 := fun s5 s6 s7 c => try_nz (k + 2) (some scr) (some (.ref 0)) (some t) s5 s6 s7 (a := a) h0 hb2 c
    have f3 := fun c => ev_low (k + 3) (a := a) h0 hb2 c
    refine ⟨x3, some (.int a), some (.int b), some (low a b), w6, some (low a b), h3, ?_⟩
    unfold bTurn
    simp only [evSs_cons, evSs_nil, seqK_nx, seqK_rt, seqK_ex, evS, evM, evA, evO, evI, evT, bnd_ok, ofR_ok, tst_f, tst_t, varK_some, Cst.d, bolK_bl, tru_bl', truK_bl, and_bl, or_bl, notK_bl, bin_add, bin_sub, cmp_lt, cmp_le, cmp_gt, cmp_ge, cmp_eqI, cmp_neI, cmp_eqB, cmp_neB, cmp_eqS, cmp_neS, cmp_isN, cmp_isnN, cmp_isB, len_lst, len_tup, isNon, intO, seqD, asT, asTs, Option.bind_some, List.getElem?_cons_zero, List.getElem?_cons_succ, List.set_cons_zero, List.set_cons_succ, fin_rt, fin_nx, fin_ex, if_true, eq_self, decide_true, decide_false, Bool.false_eq_true, if_false, callK_one, callK_all, e1, e2, lst4, e3, hm, t1, ifK_f, h0, f3, low, callK_d, f1, tup2, f2, Bool.not_true]
def fTurn : IS := (.for (.nm 2) (.rng1 (.cst (.int 8))) bTurn)
theorem for_ok (k : Nat) {ns : List Int} {x : List D} (hx : DealOk ns x) (scr : D) : ∃ x' v2 v3 v4 v5 v6 v7, evS (evF T (k + 4)) fTurn [some scr, some (.ref 0), none, none, none, none, none, none] [.lst x] = .ok (.nx [some scr, some (.ref 0), v2, v3, v4, v5, v6, v7]) [.lst x'] := by
  have hr : rng1K (.int 8) [.lst x] = .ok (rngD 0 8) [.lst x] := rng1_len (n := 8) (by omega)
  rw [fTurn, evS, evI, evM, tst_f, bnd_ok, Cst.d, hr, ofR_ok]
  obtain ⟨sl', c', e, x', v2, v3, v4, v5, v6, v7, h1, h2, h3⟩ := forR_inv (tg := asT (.nm 2)) (b := evSs (evF T (k + 4)) bTurn) (fun sl c => ∃ x' v2 v3 v4 v5 v6 v7, DealOk ns x' ∧ sl = [some scr, some (.ref 0), v2, v3, v4, v5, v6, v7] ∧ c = [.lst x']) (rngD 0 8) (fun d hd sl c hI => by
    obtain ⟨x', v2, v3, v4, v5, v6, v7, hx', rfl, rfl⟩ := hI
    obtain ⟨x2, u3, u4, u5, u6, u7, h2, e2⟩ := turn_ok k hx' scr d v3 v4 v5 v6 v7
    exact ⟨_, _, _, rfl, e2, x2, some d, u3, u4, u5, u6, u7, h2, rfl, rfl⟩) _ _ ⟨x, none, none, none, none, none, none, hx, rfl, rfl⟩
  subst h2 h3
  exact ⟨x', v2, v3, v4, v5, v6, v7, e⟩
theorem law_holds (ns : List Int) (hn : ns.length ≤ 63) : ∃ c, evF T 40 8 [.lst (ns.map .int)] [] = .ok (.bl true) c := by
  obtain ⟨x, hx, e1⟩ := deal_ok (T := T) (k := 38) (q := 2) (s0 := 9144) rfl (by omega) (by omega) hn []
  obtain ⟨x', v2, v3, v4, v5, v6, v7, e2⟩ := for_ok 35 hx (.lst (ns.map .int))
  have e3 := fun c => ev_part 37 (a := 6) (b := -4) (by omega) (by decide) c
  rw [show low 6 (-4) = .tup [.int (-3), .int 2] from rfl] at e3
  have e4 := fun c => like_low 37 (-3) 2 c
  refine ⟨[.lst x'], ?_⟩
  rw [evF_at (fd := fd8) rfl]
  show fin (evSs (evF T 39) (.cons (.asg (.nm 1) (.call 2 [] [.arg 0] (.cons (.var 0) .nil) .nil)) (.cons fTurn (.cons (.ret (.call 5 [] [.arg 0, .arg 1] (.cons (.call 1 ["under", "over"] [.arg 1, .arg 0] .nil (.cons (.cst (.int (-4))) (.cons (.cst (.int 6)) .nil))) (.cons (.tup (.cons (.cst (.int (-3))) (.cons (.cst (.int 2)) .nil))) .nil)) .nil)) .nil))) [some (.lst (ns.map .int)), none, none, none, none, none, none, none] []) = _
  rw [List.length_nil, List.nil_append] at e1
  simp only [evSs_cons, evSs_nil, seqK_nx, seqK_rt, seqK_ex, evS, evM, evA, evO, evI, evT, bnd_ok, ofR_ok, tst_f, tst_t, varK_some, Cst.d, bolK_bl, tru_bl', truK_bl, and_bl, or_bl, notK_bl, bin_add, bin_sub, cmp_lt, cmp_le, cmp_gt, cmp_ge, cmp_eqI, cmp_neI, cmp_eqB, cmp_neB, cmp_eqS, cmp_neS, cmp_isN, cmp_isnN, cmp_isB, len_lst, len_tup, isNon, intO, seqD, asT, asTs, Option.bind_some, List.getElem?_cons_zero, List.getElem?_cons_succ, List.set_cons_zero, List.set_cons_succ, fin_rt, fin_nx, fin_ex, if_true, eq_self, decide_true, decide_false, Bool.false_eq_true, if_false, callK_one, callK_kw, callK_all, e1, e2, tup2, e3, e4]
end Wk01

set_option Elab.async false
set_option linter.all false
set_option maxRecDepth 100000
open PySem PySem.W PyProof.Rows
set_option maxHeartbeats 0 in
theorem PySem.Challenge.cw_heedless_k01_parts_in_lowest_terms_holds : PySem.Challenge.rw_heedless_k01_parts_in_lowest_terms.Holds := by
  w_on; o_law; k_head; (case hw => w_witness2)
  k_fill
  refine L2.walk_of (l := PySem.Challenge.rw_heedless_k01_parts_in_lowest_terms) (n := 63) (k := 42) (x := "_law_script") (CX := fun w => L2.CX PySem.Challenge.rw_heedless_k01_parts_in_lowest_terms.prog w) (sp := fun w => Hv.spLaw _) rfl (by decide) rfl ⟨rfl, by decide, by decide⟩ (fun w h Y => PySem.W.kIn_of Y) ?F (fun _ _ a ns hl _ hS => ⟨a, ns, rfl, hS, hl, fun _ => rfl⟩) (fun _ _ _ _ _ h => Hv.cx_end h)
  case F =>
    intro w mg fa h KX G hmg
    refine' Wk01.all_end KX G hmg Wk01.law_holds ?a0 ?l0 ?c0 ?k0 ?a1 ?l1 ?c1 ?k1 ?tl1 ?td1 ?tv1 ?a2 ?l2 ?c2 ?k2 ?a3 ?l3 ?c3 ?k3 ?a4 ?l4 ?c4 ?k4 ?a5 ?l5 ?c5 ?k5 ?a6 ?l6 ?c6 ?k6 ?a7 ?l7 ?c7 ?k7 ?a8 ?l8 ?c8 ?k8 ?xa_BadPart ?xa_HeedError ?xl_BadPart ?xsa_BadPart ?xga_BadPart ?xgg_BadPart ?xn0_BadPart ?xi_BadPart ?xt_BadPart ?xil_BadPart ?xic_BadPart ?xk_BadPart ?xe_BadPart ?xty_BadPart ?xh_BadPart ?xca_BadPart ?xsp_BadPart ?xtk_BadPart ?xm_BadPart ?xx0_BadPart ?xy0_BadPart ?xx1_BadPart ?xy1_BadPart ?xx2_BadPart ?xy2_BadPart ?xx3_BadPart ?xy3_BadPart ?z_len ?z_list ?z_tuple ?z_abs ?z_all ?z_any ?z_sum ?z_isinstance ?z_int ?z_max ?z_min ?z_sorted ?z_range ?z_bool ?z_str ?z_dict ?z_ValueError ?z_LookupError
    (case a0 => k_is)
    (case l0 => k_is)
    (case c0 => k_is)
    (case k0 => k_is)
    (case a1 => k_is)
    (case l1 => k_is)
    (case c1 => k_is)
    (case k1 => k_is)
    (case tl1 => k_is)
    (case td1 => rfl)
    (case tv1 => first | exact .cons ⟨_, rfl⟩ .nil | exact .cons rfl .nil | exact .cons ⟨_, rfl⟩ (.cons ⟨_, rfl⟩ .nil))
    (case a2 => k_is)
    (case l2 => k_is)
    (case c2 => k_is)
    (case k2 => k_is)
    (case a3 => k_is)
    (case l3 => k_is)
    (case c3 => k_is)
    (case k3 => k_is)
    (case a4 => k_is)
    (case l4 => k_is)
    (case c4 => k_is)
    (case k4 => k_is)
    (case a5 => k_is)
    (case l5 => k_is)
    (case c5 => k_is)
    (case k5 => k_is)
    (case a6 => k_is)
    (case l6 => k_is)
    (case c6 => k_is)
    (case k6 => k_is)
    (case a7 => k_is)
    (case l7 => k_is)
    (case c7 => k_is)
    (case k7 => k_is)
    (case a8 => k_is)
    (case l8 => k_is)
    (case c8 => k_is)
    (case k8 => k_is)
    (case xa_BadPart => k_is)
    (case xa_HeedError => k_is)
    (case xl_BadPart => k_is)
    (case xsa_BadPart => k_is)
    (case xga_BadPart => k_is)
    (case xgg_BadPart => k_is)
    (case xn0_BadPart => k_is)
    (case xi_BadPart => k_is)
    (case xt_BadPart => k_is)
    (case xil_BadPart => k_is)
    (case xic_BadPart => k_is)
    (case xk_BadPart => k_is)
    (case xe_BadPart => k_is)
    (case xty_BadPart => k_is)
    (case xh_BadPart => k_is)
    (case xca_BadPart => k_is)
    (case xsp_BadPart => k_is)
    (case xtk_BadPart => k_is)
    (case xm_BadPart => k_is)
    (case xx0_BadPart => first | k_is | kit_is | rfl)
    (case xy0_BadPart => first | k_is | kit_is | rfl)
    (case xx1_BadPart => first | k_is | kit_is | rfl)
    (case xy1_BadPart => first | k_is | kit_is | rfl)
    (case xx2_BadPart => first | k_is | kit_is | rfl)
    (case xy2_BadPart => first | k_is | kit_is | rfl)
    (case xx3_BadPart => first | k_is | kit_is | rfl)
    (case xy3_BadPart => first | k_is | kit_is | rfl)
    (case z_len => k_is)
    (case z_list => k_is)
    (case z_tuple => k_is)
    (case z_abs => k_is)
    (case z_all => k_is)
    (case z_any => k_is)
    (case z_sum => k_is)
    (case z_isinstance => k_is)
    (case z_int => k_is)
    (case z_max => k_is)
    (case z_min => k_is)
    (case z_sorted => k_is)
    (case z_range => k_is)
    (case z_bool => k_is)
    (case z_str => k_is)
    (case z_dict => k_is)
    (case z_ValueError => k_is)
    (case z_LookupError => k_is)
