import PyProof.Rows.All
import Wide.All
import OpenK.AllK
import Wide.FinOn
import HandS.ForMost
import HandS.ForExc
import HandS.CallSlots
import HandS.Flow
import HandS.ExcInit
import KE.KExcInit
import PyProof.ExcBaseAll.LookupError
import HandS.Wide
import HandS.IsInst
import HandS.ExcField
import HandS.ExcIs
import HandS.Style
import HandS.Deep
import HandS.Dict
import HandS.SortInts
import HandS.More
import HandS.Text
import KE.KExcIs
import HandS.Iter
import PyProof.ZipIter
import HandS.Zip0
import HandS.Conv
import OpenK.KOps
import HandS.Defaults
import PySem.Challenge.RW_heedless_k08_stands_that_come_again
set_option Elab.async false
set_option linter.all false
set_option maxRecDepth 100000
set_option maxHeartbeats 4000000
/-! HvJ: the fields of an exception of an own class, whatever its built-in base. -/
namespace Hv
open PySem PySem.Spec PySem.W PySem.Calls PyProof.Rows PySem.HandSPX Builtin Builtin.ObjectAttr

/-- a line of classes whose stores go the plain way -/
structure MroOk (l : List Value) : Prop where
  ne : l.isEmpty = false
  ob : l.contains (.type "object") = true
  go : ∀ z, refuseLoop z "__setattr__" l = pure ()
theorem MroOk.ref {l : List Value} (h : MroOk l) (c : Addr) : MroOk (.ref c :: l) := ⟨rfl, by rw [List.contains_cons, h.ob]; simp, fun z => by rw [refuseLoop_ref]; exact h.go z⟩
theorem cont_ref (c : Addr) (l : List Value) (Y : String) : (Value.ref c :: l).contains (.type Y) = l.contains (.type Y) := by
  rw [List.contains_cons]
  rfl
theorem mro_VE : MroOk [.type "ValueError", .type "Exception", .type "BaseException", .type "object"] := ⟨rfl, by decide +kernel, fun z => F.store_ValueError.passes z⟩
theorem mro_LE : MroOk [.type "LookupError", .type "Exception", .type "BaseException", .type "object"] := ⟨rfl, by decide +kernel, fun z => F.store_LookupError.passes z⟩
section
variable {P : Program} {w : World} {A : Around} {E : Value → Shared → Prop} {R : Result → Shared → Prop} {h0 : Heap} {gs : Array GenState} {dr : Drawn} {t : Nat} {os : OsState} {K : W.Frag} {f : Str} {tk : Tok} {v : Value} {x C : Addr} {fv : Array Value} {cd : ClassData}
/-- self.f = v, the exception has no dict as yet -/
theorem osaX_new (X : K.In h0) (hx : h0.get? x = some { cls := .ref C, data := .fields fv }) (hcd : W.clsIn K C = some cd) (hm : MroOk cd.mro) (hdi : cd.hasDict = true) (ha : W.findIn K (.ref C) f = some none)
    (q : ∀ h1 tk1 dx, (∀ b o, b ≠ x → h0.get? b = some o → h1.get? b = some o) → h0.objs.size ≤ dx → dx ≠ x → h1.get? x = some { cls := .ref C, dict := some dx, data := .fields fv } → h1.Ns1 dx (fun y => if y = f then some v else none) → R (.ok (.ret .none)) ⟨h1, gs, dr, tk1, os⟩) :
    codeAny (model P w) A (.call (.builtin "object.__setattr__") ⟨[.ref x, .str f tk, v], []⟩) R ⟨h0, gs, dr, t, os⟩ := by
  have J : W.InstAt h0 x { cls := .ref C, data := .fields fv } C none := ⟨hx, rfl, rfl, trivial⟩
  have hxs : x ≠ h0.objs.size := fun z => absurd (Heap.lt_size hx) (by rw [z]; exact Nat.lt_irrefl _)
  have hsub : W.Looks (model P w) h0 (isInstance (.ref x) (.type "object")) true := J.type.andThen (W.looks_mroIn X (by unfold W.mroIn; rw [hcd, Option.bind_some, if_neg (by rw [hm.ne]; decide), hm.ob]))
  have hline : W.Looks (model P w) h0 (mroOf (.ref C)) cd.mro := (W.looks_clsIn X hcd).andThen .now
  have htk : W.Looks (model P w) h0 (storeTaker? none) none := .now
  have hk : W.Looks (model P w) h0 (classData C) cd := W.looks_clsIn X hcd
  refine codeAny_call_builtin F.store_object.slot.plain F.store_object.entry (@W.check_slot (model P w) _ _ ⟨h0, gs, dr, t, os⟩ "object.__setattr__" "object" "__setattr__" (.ref x) [.str f tk, v] [] _ F.store_object.kind F.store_object.split hsub (F.store_object.args (.ref x) (.str f tk) v) ?_)
  rw [W.osa_eq, refuse_eq]
  refine wpAny_bind (wpAny_bind (J.type.at (wpAny_bind (hline.at ?_))))
  rw [hm.go]
  refine wpAny_pure (wpAny_bind (J.type.at (wpAny_bind ((W.looks_findIn X ha).at (wpAny_bind (htk.at ?_))))))
  show wpAny _ _ (storeInOwnDict (.ref x) (.ref C) (.str f tk) f v false) _ _ _
  obtain ⟨c1, c2, c3, c4, c5, c6, c7, c8, c9, c10, c11⟩ := cd
  dsimp only at hdi
  subst hdi
  unfold storeInOwnDict
  unfold ownDictForStores
  repeat (first | with_reducible refine store_in_new ?_ ?_ | with_reducible refine wpAny_loadPart_at hx ?_ | with_reducible refine hk.at ?_ | wp_step)
  · refine ⟨_, #[], _, (Heap.get?_update_ne _ _ _ _ hxs.symm).trans (Heap.get?_push_at rfl rfl), rfl, fun e he => ?_, fun _ => rfl⟩
    exact absurd he (by simp)
  · intro h1 tk1 hns hsame
    have hpx : (h0.push { cls := .type "dict", data := .dict #[] }).get? x = some { cls := .ref C, data := .fields fv } := Heap.get?_push_of_some _ hx
    refine q h1 tk1 h0.objs.size (fun b o hb ho => ?_) (Nat.le_refl _) hxs.symm ?_ hns
    · have hbs : b ≠ h0.objs.size := fun z => absurd (Heap.lt_size ho) (by rw [z]; exact Nat.lt_irrefl _)
      exact (hsame.2 b hbs).trans ((Heap.get?_update_ne _ _ _ _ hb).trans (Heap.get?_push_of_some _ ho))
    · exact (hsame.2 x hxs).trans (Heap.get?_update_self _ hpx rfl)
/-- self.f = v, a further field -/
theorem osaX_old {dx : Addr} {m0 : Str → Option Value} {nl : List Str} (X : K.In h0) (hx : h0.get? x = some { cls := .ref C, dict := some dx, data := .fields fv }) (hns : h0.Ns1 dx m0) (hw : Within m0 nl) (hz : nl.length ≤ 1000) (hcd : W.clsIn K C = some cd) (hm : MroOk cd.mro) (hdi : cd.hasDict = true) (ha : W.findIn K (.ref C) f = some none)
    (q : ∀ h1 tk1, (∀ b o, b ≠ dx → h0.get? b = some o → h1.get? b = some o) → h1.Ns1 dx (fun y => if y = f then some v else m0 y) → R (.ok (.ret .none)) ⟨h1, gs, dr, tk1, os⟩) :
    codeAny (model P w) A (.call (.builtin "object.__setattr__") ⟨[.ref x, .str f tk, v], []⟩) R ⟨h0, gs, dr, t, os⟩ := by
  obtain ⟨oD, _, _, hoD, _, _⟩ := hns.count hw
  have J : W.InstAt h0 x { cls := .ref C, dict := some dx, data := .fields fv } C (some oD) := ⟨hx, rfl, rfl, hoD⟩
  have hsub : W.Looks (model P w) h0 (isInstance (.ref x) (.type "object")) true := J.type.andThen (W.looks_mroIn X (by unfold W.mroIn; rw [hcd, Option.bind_some, if_neg (by rw [hm.ne]; decide), hm.ob]))
  have hline : W.Looks (model P w) h0 (mroOf (.ref C)) cd.mro := (W.looks_clsIn X hcd).andThen .now
  have htk : W.Looks (model P w) h0 (storeTaker? none) none := .now
  have hk : W.Looks (model P w) h0 (classData C) cd := W.looks_clsIn X hcd
  refine codeAny_call_builtin F.store_object.slot.plain F.store_object.entry (@W.check_slot (model P w) _ _ ⟨h0, gs, dr, t, os⟩ "object.__setattr__" "object" "__setattr__" (.ref x) [.str f tk, v] [] _ F.store_object.kind F.store_object.split hsub (F.store_object.args (.ref x) (.str f tk) v) ?_)
  rw [W.osa_eq, refuse_eq]
  refine wpAny_bind (wpAny_bind (J.type.at (wpAny_bind (hline.at ?_))))
  rw [hm.go]
  refine wpAny_pure (wpAny_bind (J.type.at (wpAny_bind ((W.looks_findIn X ha).at (wpAny_bind (htk.at ?_))))))
  show wpAny _ _ (storeInOwnDict (.ref x) (.ref C) (.str f tk) f v false) _ _ _
  obtain ⟨c1, c2, c3, c4, c5, c6, c7, c8, c9, c10, c11⟩ := cd
  dsimp only at hdi
  subst hdi
  unfold storeInOwnDict
  unfold ownDictForStores
  repeat (first | with_reducible refine OEX.store_in_old hns hw hz ?_ | with_reducible refine wpAny_loadPart_at hx ?_ | with_reducible refine hk.at ?_ | wp_step)
  intro h1 tk1 hn1 hsame
  exact q h1 tk1 (fun b o hb ho => (hsame.2 b hb).trans ho) hn1
end
end Hv

set_option Elab.async false
set_option linter.all false
set_option maxRecDepth 100000
set_option maxHeartbeats 4000000
/-! HvJ2: self.f = v in __init__ of an own class of exceptions, in the hand layer's words. -/
namespace Hv
open PySem PySem.Spec PyProof.Rows L2

/-- an own class of exceptions, whatever its built-in base -/
structure OxC (K : PySem.W.Frag) (C : Addr) : Prop where
  cls : ∃ nm q N bs bm sn sub ab col dd k0 k1 k2 k3 k5 B newId initId bmB, K.lookup C = some (excClassObj nm q C N bs bm true sn sub ab col dd k0 k1 k2 k3 k5 newId) ∧ MroOk bm ∧ ExcBaseFacts B newId initId bmB ∧ (∀ Y : String, bm.contains (.type Y) = bmB.contains (.type Y))
  sa : PySem.W.findIn K (.ref C) "__setattr__" = some (some (.builtin "object.__setattr__"))
  exC : PySem.W.subIn K (.ref C) (.type "BaseException") = some true
  tyC : PySem.W.typeIn K (.ref C) = some (.type "type")
  kC : PySem.W.keepIn K (.ref C) = true
section
variable {X : Cx} {pins : List (Addr × Obj)} {σ : L2.St} {H : Hp} {s : Shared} {a C dx : Addr} {f : Str} {y : V} {u : Value} {fs : List (Str × V)} {Q : Unit → Shared → Prop} {E : Value → Shared → Prop} {A : Around}
theorem ox_cd {K : PySem.W.Frag} (T : OxC K C) : ∃ cd : ClassData, PySem.W.clsIn K C = some cd ∧ MroOk cd.mro ∧ cd.hasDict = true := by
  obtain ⟨nm, q, N, bs, bm, sn, sub, ab, col, dd, k0, k1, k2, k3, k5, B, n1, n2, bmB, hC, hm, _⟩ := T.cls
  exact ⟨{ name := nm, bases := bs, mro := .ref C :: bm, ns := N, qualname := q, hasDict := true, slotNames := sn, subclasses := sub, abstract := ab, collection := col, hasDel := false }, by unfold PySem.W.clsIn; rw [hC] <;> rfl, hm.ref C, rfl⟩
theorem ox_new (T : OxC X.K C) (I : Inv X pins σ H s) (e : H a = some (exo a C none)) (hno : PySem.W.findIn X.K (.ref C) f = some none) (ry : RelV y u)
    (h : ∀ dx s1, H dx = none → dx ≠ a → Inv X pins σ (upd (upd H dx (exd dx [(f, y)])) a (exo a C (some dx))) s1 → Q () s1) : wpAny (model X.prog X.w) A (setAttr (.ref a) f u) Q E s := by
  obtain ⟨cd, hcd, hm, hdi⟩ := ox_cd T
  obtain ⟨t1, ho⟩ := exo_at I.hok e
  obtain ⟨hp, gs, dr, tk, os⟩ := s
  refine PySem.W.set_plain I.kIn (ox := { cls := .ref C, dict := none, data := .fields #[.ref t1, .none, .none, .none, .bool false, .none] }) (od := none) ⟨ho, rfl, rfl, trivial⟩ T.sa ?_
  refine osaX_new I.kIn ho hcd hm hdi hno fun h1 tk1 dx k dn dne hx hn => ?_
  have hnd : H dx = none := I.hok.fresh dn
  have far : ∀ {b : Addr} {o : Obj}, hp.get? b = some o → b ≠ dx := @fun b o q => Nat.ne_of_lt (Nat.lt_of_lt_of_le (show b < hp.objs.size from Heap.lt_size q) dn)
  have nota : ∀ {b : Addr}, H b = none → b ≠ a := fun {b} n z => by
    rw [z, e] at n
    cases n
  have un : Un X.fs [] H (upd (upd H dx (exd dx [(f, y)])) a (exo a C (some dx))) hp h1 := by
    constructor
    · exact fun b o q n _ _ => k b o (nota n) q
    · exact fun b o q n _ _ => ⟨o.slots, k b o (nota n) q⟩
    · intro b o q n _
      rw [upd_ne (nota n), upd_ne (far q)]
      exact n
    · intro b o q _
      by_cases hb : b = a
      · exact ⟨_, by rw [hb]; exact hx⟩
      · exact ⟨o, k b o hb q⟩
    · intro b xs q
      rw [upd_ne (at_ne e q exo_tup), upd_ne (ne_of_none q hnd)]
      exact q
    · intro b o v q
      rw [upd_ne (at_ne e q exo_frz), upd_ne (ne_of_none q hnd)]
      exact q
    · intro b ps q
      refine ⟨#[], ?_⟩
      rw [upd_ne (at_ne e q exo_tbl), upd_ne (ne_of_none q hnd), q]
      simp
  refine h dx _ hnd dne (I.un (t' := tk1) un fun b o q => ?_)
  by_cases hb : b = a
  · subst hb
    rw [upd_same] at q
    cases q
    exact exo_ok hx
  · rw [upd_ne hb] at q
    by_cases hd : b = dx
    · subst hd
      rw [upd_same] at q
      cases q
      exact exd_ok hn (relO_put (fs := []) ry fun _ => True.intro)
    · rw [upd_ne hd] at q
      refine (I.hok b o q).stay (fun c v hc z => k c v ?_ z) (fun c hc => ?_) (fun c xs hc => ?_)
      · rcases hc with rfl | hc
        · exact hb
        · exact at_ne e hc exo_own
      · rw [upd_ne (at_ne e hc exo_own), upd_ne (ne_of_none hc hnd)]
        exact hc
      · rw [upd_ne (at_ne e hc exo_tup), upd_ne (ne_of_none hc hnd)]
        exact hc
theorem ox_old (T : OxC X.K C) (I : Inv X pins σ H s) (e : H a = some (exo a C (some dx))) (ed : H dx = some (exd dx fs)) (hl : fs.length ≤ 900) (hno : PySem.W.findIn X.K (.ref C) f = some none) (ry : RelV y u)
    (h : ∀ s1, Inv X pins σ (upd H dx (exd dx ((f, y) :: fs))) s1 → Q () s1) : wpAny (model X.prog X.w) A (setAttr (.ref a) f u) Q E s := by
  obtain ⟨cd, hcd, hm, hdi⟩ := ox_cd T
  obtain ⟨t1, ho⟩ := exo_at I.hok e
  obtain ⟨mA, hns, rel⟩ := exd_at I.hok ed
  have hw := within_of rel
  obtain ⟨hp, gs, dr, tk, os⟩ := s
  obtain ⟨oD, _, _, hoD, _, _⟩ := hns.count hw
  refine PySem.W.set_plain I.kIn (ox := { cls := .ref C, dict := some dx, data := .fields #[.ref t1, .none, .none, .none, .bool false, .none] }) (od := some oD) ⟨ho, rfl, rfl, hoD⟩ T.sa ?_
  refine osaX_old I.kIn ho hns hw (by rw [List.length_map]; omega) hcd hm hdi hno fun h1 tk1 k hn => ?_
  obtain ⟨o1, _, _, e1, _⟩ := id hn
  exact h _ (I.write (t' := tk1) (x := dx) (e := dx) (o := exd dx ((f, y) :: fs)) (by rw [ed]; exact True.intro) (.inl rfl) k ⟨o1, e1⟩ (exd_ok hn (relO_put ry rel)))
end
/-- self.f = e -/
def tOx (K : PySem.W.Frag) (f : Str) (to te : TE) : TS := fun D σ H => te σ H fun y H1 => to σ H1 fun x H2 => ∃ a C : Addr, x = .ref a ∧ OxC K C ∧ PySem.W.findIn K (.ref C) f = some none ∧
  ((H2 a = some (exo a C none) ∧ ∀ dx, H2 dx = none → dx ≠ a → D.nx σ (upd (upd H2 dx (exd dx [(f, y)])) a (exo a C (some dx)))) ∨
    ∃ (dx : Addr) (gs : List (Str × V)), H2 a = some (exo a C (some dx)) ∧ H2 dx = some (exd dx gs) ∧ gs.length ≤ 900 ∧ D.nx σ (upd H2 dx (exd dx ((f, y) :: gs))))
theorem ps_ox {X : Cx} {o e : Expr} {to te : TE} {f : Str} {p' pos : Pos} (ho : PE X o to) (he : PE X e te) (hs : swapsWith e (some (.Attribute o f p')) pos.line X.env = pure false) : PS X (.Assign [.Attribute o f p'] e pos) (tOx X.K f to te) := by
  refine ⟨fun pins s σ H D I h => plainObj_wpAny_Assign_Attribute (thn (he.run pins s σ H _ I h) fun v s1 hv => ?_) hs⟩
  obtain ⟨y, H1, I1, r1, q1⟩ := hv
  refine thn (ho.run pins s1 σ H1 _ I1 q1) fun u s2 hu => ?_
  obtain ⟨x, H2, I2, r2, a, C, ex, T, hno, q⟩ := hu
  subst ex
  obtain rfl : u = Value.ref a := r2
  rcases q with ⟨ea, q⟩ | ⟨dx, gs, ea, ed, hl, q⟩
  · exact ox_new T I2 ea hno r1 fun dx s' n ne J => ⟨σ, _, J, q dx n ne⟩
  · exact ox_old T I2 ea ed hl hno r1 fun s' J => ⟨σ, _, J, q⟩
end Hv

set_option Elab.async false
set_option linter.all false
set_option maxRecDepth 100000
/-! HvA: plain data for what a Python value is, how it lies in the heap, and readings that run a plain function of such data. -/
namespace Hv
open PySem PySem.Spec PyProof.Rows L2

/-- plain data; ref n is the n-th thing that may change -/
inductive D where
  | non | bl (b : Bool) | int (i : Int) | str (s : Str) | ty (n : String)
  | tup (xs : List D) | lst (xs : List D) | scr (xs : List D)
  | ref (n : Nat)
  | ins (C : Str) (fs : List (Str × D))
  | dct (kvs : List (D × D))
  | glo (x : Str)
  deriving Inhabited
inductive Cell where
  | dead | lst (xs : List D) | ins (C : Str) (fs : List (Str × D)) | dct (kvs : List (D × D))
  deriving Inhabited
abbrev Ct := List Cell
abbrev Sl := List (Option D)
structure XD where
  C : Str
  sup : List (Str × Bool)
  fs : List (Str × D)
inductive Res (α : Type) where
  | ok (a : α) (c : Ct) | exc (x : XD) (c : Ct) | stuck
def bnd {α β : Type} (r : Res α) (k : α → Ct → Res β) : Res β := match r with
  | .ok a c => k a c
  | .exc x c => .exc x c
  | .stuck => .stuck
@[simp] theorem bnd_ok {α β : Type} (a : α) (c : Ct) (k : α → Ct → Res β) : bnd (.ok a c) k = k a c := rfl
@[simp] theorem bnd_exc {α β : Type} (x : XD) (c : Ct) (k : α → Ct → Res β) : bnd (.exc x c) k = .exc x c := rfl
@[simp] theorem bnd_stuck {α β : Type} (k : α → Ct → Res β) : bnd .stuck k = .stuck := rfl

/-- a world: what stands for ever, where the things that change stand, what else stands meanwhile -/
structure Wd where
  F : Hp
  m : List Addr
  x : List (Addr × HO) := []
structure Wd.lo (a b : Wd) : Prop where
  f : ∀ x o, a.F x = some o → b.F x = some o
  m : ∀ (n : Nat) x, a.m[n]? = some x → b.m[n]? = some x
structure Wd.le (a b : Wd) : Prop extends Wd.lo a b where
  x : b.x = a.x
theorem Wd.le.toLo {a b : Wd} (h : a.le b) : a.lo b := ⟨h.f, h.m⟩
theorem Wd.lo.rfl {a : Wd} : a.lo a := ⟨fun _ _ h => h, fun _ _ h => h⟩
theorem Wd.lo.trans {a b c : Wd} (h : a.lo b) (k : b.lo c) : a.lo c := ⟨fun x o e => k.f x o (h.f x o e), fun n x e => k.m n x (h.m n x e)⟩
theorem Wd.le.rfl {a : Wd} : a.le a := ⟨.rfl, Eq.refl _⟩
theorem Wd.le.trans {a b c : Wd} (h : a.le b) (k : b.le c) : a.le c := ⟨h.toLo.trans k.toLo, k.x.trans h.x⟩

def keyD : Key → D
  | .inl i => .int i
  | .inr s => .str s

/-- a tuple: tracked, or an object of the module -/
def TupAt (K : PySem.W.Frag) (H : Hp) (a : Addr) (xs : List V) : Prop :=
  H a = some (.tup xs) ∨ ∃ (o : Obj) (its : Array Value) (n : Nat), K.lookup a = some o ∧ o.cls = .type "tuple" ∧ o.data = .seq its n ∧ its.size ≤ sizeLine ∧ Vals xs its.toList
theorem TupAt.sq {K : PySem.W.Frag} {H : Hp} {a : Addr} {xs : List V} (h : TupAt K H a xs) : SqT K H a xs := h.elim (fun h => .inl (.inl h)) .inr
theorem TupAt.mono {K : PySem.W.Frag} {H H' : Hp} {a : Addr} {xs : List V} (e : ∀ x o, H x = some o → H' x = some o) (h : TupAt K H a xs) : TupAt K H' a xs := h.elim (fun h => .inl (e _ _ h)) .inr
section
variable (K : PySem.W.Frag) (mg : Str → Option Value)
mutual
inductive R (ω : Wd) : D → V → Prop
  | non : R ω .non .non
  | bl (b : Bool) : R ω (.bl b) (.bl b)
  | int (i : Int) : R ω (.int i) (.int i)
  | str (s : Str) : R ω (.str s) (.str s)
  | ty (n : String) : R ω (.ty n) (.ty n)
  | tup {xs : List D} {a : Addr} {vs : List V} (h : TupAt K ω.F a vs) (r : Rs ω xs vs) : R ω (.tup xs) (.ref a)
  | lst {xs : List D} {a : Addr} {vs : List V} (h : ω.F a = some (.lst vs)) (r : Rs ω xs vs) : R ω (.lst xs) (.ref a)
  | scr {xs : List D} {a : Addr} {vs : List V} (h : SqL K ω.F a vs) (r : Rs ω xs vs) : R ω (.scr xs) (.ref a)
  | ref {n : Nat} {a : Addr} (h : ω.m[n]? = some a) : R ω (.ref n) (.ref a)
  | ins {C : Str} {fs : List (Str × D)} {a c dx : Addr} {gs : List (Str × V)} (hc : mg C = some (.ref c)) (h : ω.F a = some (.ins c dx gs)) (r : Rf ω fs gs) : R ω (.ins C fs) (.ref a)
  | dctK {kvs : List (D × D)} {a : Addr} {ws : List (Key × V)} (h : ω.F a = some (.dK ws)) (r : Rk ω kvs ws) : R ω (.dct kvs) (.ref a)
  | dctT {kvs : List (D × D)} {a : Addr} {ws : List (List Key × V)} (h : ω.F a = some (.dT ws)) (r : Rt ω kvs ws) : R ω (.dct kvs) (.ref a)
  | glo {x : Str} {a : Addr} (h : mg x = some (.ref a)) : R ω (.glo x) (.ref a)
inductive Rs (ω : Wd) : List D → List V → Prop
  | nil : Rs ω [] []
  | cons {d : D} {v : V} {ds : List D} {vs : List V} (h : R ω d v) (t : Rs ω ds vs) : Rs ω (d :: ds) (v :: vs)
inductive Rf (ω : Wd) : List (Str × D) → List (Str × V) → Prop
  | nil : Rf ω [] []
  | cons {f : Str} {d : D} {v : V} {ds : List (Str × D)} {vs : List (Str × V)} (h : R ω d v) (t : Rf ω ds vs) : Rf ω ((f, d) :: ds) ((f, v) :: vs)
inductive Rk (ω : Wd) : List (D × D) → List (Key × V) → Prop
  | nil : Rk ω [] []
  | cons {k : Key} {d : D} {v : V} {ds : List (D × D)} {vs : List (Key × V)} (h : R ω d v) (t : Rk ω ds vs) : Rk ω ((keyD k, d) :: ds) ((k, v) :: vs)
inductive Rt (ω : Wd) : List (D × D) → List (List Key × V) → Prop
  | nil : Rt ω [] []
  | cons {k : List Key} {d : D} {v : V} {ds : List (D × D)} {vs : List (List Key × V)} (h : R ω d v) (t : Rt ω ds vs) : Rt ω ((.tup (k.map keyD), d) :: ds) ((k, v) :: vs)
end
end

section
variable {K : PySem.W.Frag} {mg : Str → Option Value} {ω ω' : Wd}
theorem sq_l {H H' : Hp} {a : Addr} {xs : List V} (e : ∀ x o, H x = some o → H' x = some o) (h : SqL K H a xs) : SqL K H' a xs := by
  rcases h with (h | ⟨o, h⟩) | h
  · exact .inl (.inl (e _ _ h))
  · exact .inl (.inr ⟨o, e _ _ h⟩)
  · exact .inr h
theorem sq_t {H H' : Hp} {a : Addr} {xs : List V} (e : ∀ x o, H x = some o → H' x = some o) (h : SqT K H a xs) : SqT K H' a xs := by
  rcases h with (h | ⟨o, h⟩) | h
  · exact .inl (.inl (e _ _ h))
  · exact .inl (.inr ⟨o, e _ _ h⟩)
  · exact .inr h
mutual
theorem R.mono (l : ω.lo ω') : ∀ {d : D} {v : V}, R K mg ω d v → R K mg ω' d v
  | _, _, .non => .non
  | _, _, .bl b => .bl b
  | _, _, .int i => .int i
  | _, _, .str s => .str s
  | _, _, .ty n => .ty n
  | _, _, .tup h r => .tup (h.mono l.f) (Rs.mono l r)
  | _, _, .lst h r => .lst (l.f _ _ h) (Rs.mono l r)
  | _, _, .scr h r => .scr (sq_l l.f h) (Rs.mono l r)
  | _, _, .ref h => .ref (l.m _ _ h)
  | _, _, .ins hc h r => .ins hc (l.f _ _ h) (Rf.mono l r)
  | _, _, .dctK h r => .dctK (l.f _ _ h) (Rk.mono l r)
  | _, _, .dctT h r => .dctT (l.f _ _ h) (Rt.mono l r)
  | _, _, .glo h => .glo h
theorem Rs.mono (l : ω.lo ω') : ∀ {d : List D} {v : List V}, Rs K mg ω d v → Rs K mg ω' d v
  | _, _, .nil => .nil
  | _, _, .cons h t => .cons (R.mono l h) (Rs.mono l t)
theorem Rf.mono (l : ω.lo ω') : ∀ {d : List (Str × D)} {v : List (Str × V)}, Rf K mg ω d v → Rf K mg ω' d v
  | _, _, .nil => .nil
  | _, _, .cons h t => .cons (R.mono l h) (Rf.mono l t)
theorem Rk.mono (l : ω.lo ω') : ∀ {d : List (D × D)} {v : List (Key × V)}, Rk K mg ω d v → Rk K mg ω' d v
  | _, _, .nil => .nil
  | _, _, .cons h t => .cons (R.mono l h) (Rk.mono l t)
theorem Rt.mono (l : ω.lo ω') : ∀ {d : List (D × D)} {v : List (List Key × V)}, Rt K mg ω d v → Rt K mg ω' d v
  | _, _, .nil => .nil
  | _, _, .cons h t => .cons (R.mono l h) (Rt.mono l t)
end
theorem Rs.length : ∀ {d : List D} {v : List V}, Rs K mg ω d v → d.length = v.length
  | _, _, .nil => rfl
  | _, _, .cons h t => congrArg (· + 1) (Rs.length t)
theorem Rs.get : ∀ {ds : List D} {vs : List V}, Rs K mg ω ds vs → ∀ {i : Nat} {d : D}, ds[i]? = some d → ∃ v, vs[i]? = some v ∧ R K mg ω d v
  | _, _, .nil, _, _, e => by simp at e
  | _, _, .cons h t, 0, d, e => by
    simp only [List.getElem?_cons_zero, Option.some.injEq] at e
    subst e
    exact ⟨_, rfl, h⟩
  | _, _, .cons h t, i + 1, d, e => by
    simp only [List.getElem?_cons_succ] at e ⊢
    exact Rs.get t e
theorem Rs.getV : ∀ {ds : List D} {vs : List V}, Rs K mg ω ds vs → ∀ {i : Nat} {v : V}, vs[i]? = some v → ∃ d, ds[i]? = some d ∧ R K mg ω d v
  | _, _, .nil, _, _, e => by simp at e
  | _, _, .cons h t, 0, d, e => by
    simp only [List.getElem?_cons_zero, Option.some.injEq] at e
    subst e
    exact ⟨_, rfl, h⟩
  | _, _, .cons h t, i + 1, d, e => by
    simp only [List.getElem?_cons_succ] at e ⊢
    exact Rs.getV t e
theorem Rs.append : ∀ {ds es : List D} {vs us : List V}, Rs K mg ω ds vs → Rs K mg ω es us → Rs K mg ω (ds ++ es) (vs ++ us)
  | _, _, _, _, .nil, s => s
  | _, _, _, _, .cons h t, s => .cons h (Rs.append t s)
theorem Rs.set {x : D} {y : V} (r : R K mg ω x y) : ∀ {ds : List D} {vs : List V} (i : Nat), Rs K mg ω ds vs → Rs K mg ω (ds.set i x) (vs.set i y)
  | _, _, _, .nil => .nil
  | _, _, 0, .cons _ t => .cons r t
  | _, _, i + 1, .cons h t => .cons h (Rs.set r i t)
theorem Rs.take : ∀ {ds : List D} {vs : List V} (n : Nat), Rs K mg ω ds vs → Rs K mg ω (ds.take n) (vs.take n)
  | _, _, 0, _ => .nil
  | _, _, _ + 1, .nil => .nil
  | _, _, n + 1, .cons h t => .cons h (Rs.take n t)
theorem Rs.drop : ∀ {ds : List D} {vs : List V} (n : Nat), Rs K mg ω ds vs → Rs K mg ω (ds.drop n) (vs.drop n)
  | _, _, 0, h => h
  | _, _, _ + 1, .nil => .nil
  | _, _, n + 1, .cons h t => Rs.drop n t
theorem Rs.ints : ∀ (ns : List Int), Rs K mg ω (ns.map D.int) (ns.map V.int)
  | [] => .nil
  | n :: ns => .cons (.int n) (Rs.ints ns)
end

section
variable (K : PySem.W.Frag) (mg : Str → Option Value)
def COk (ω : Wd) : Cell → Option HO → Prop
  | .dead, _ => True
  | .lst xs, some (.lst vs) => Rs K mg ω xs vs
  | .ins C fs, some (.ins c _ gs) => mg C = some (.ref c) ∧ Rf K mg ω fs gs
  | .dct kvs, some (.dK ws) => Rk K mg ω kvs ws
  | .dct kvs, some (.dT ws) => Rt K mg ω kvs ws
  | _, _ => False
structure Rel (ω : Wd) (c : Ct) (H : Hp) : Prop where
  ext : ∀ a o, ω.F a = some o → H a = some o
  len : ω.m.length = c.length
  nd : ω.m.Nodup
  occ : ∀ a, a ∈ ω.m → H a ≠ none
  xs : ∀ a o, (a, o) ∈ ω.x → H a = some o ∧ ω.F a = none ∧ a ∉ ω.m
  live : ∀ (n : Nat) a u, ω.m[n]? = some a → c[n]? = some u → u ≠ .dead → ω.F a = none ∧ COk K mg ω u (H a)
structure SR (ω : Wd) (sl : Sl) (σ : L2.St) : Prop where
  len : sl.length = σ.length
  get : ∀ (i : Nat) d, sl[i]? = some (some d) → ∃ v, σ[i]? = some (some v) ∧ R K mg ω d v
/-- a name of a class: what it stands for -/
def ClsN (n : Str) (v : Value) (u : V) : Prop := (mg n = some v ∨ (mg n = none ∧ bootBuiltins n = some v ∧ n ≠ "__name__")) ∧ ∀ z, RelV u z ↔ z = v
/-- what the class C of exceptions, at a, says: sup which classes it is of, fl its instances' fields -/
structure XInfo (C : Str) (a : Addr) (sup : List (Str × Bool)) (fl : List Str) : Prop where
  gC : mg C = some (.ref a)
  oex : OxC K a
  xf : XfC K a
  isx : ExcC K a
  nof : ∀ f, f ∈ fl → PySem.W.findIn K (.ref a) f = some none
  sup : ∀ n b, (n, b) ∈ sup → ∃ v u, ClsN mg n v u ∧ PySem.W.exmOne K (.ref a) v = some b ∧ PySem.W.kitOne K (.ref a) v = some b
/-- an exception's class and its own dict -/
def RX (ω : Wd) (x : XD) (cls : Value) (dd : Option Addr) : Prop := ∃ a d gs, XInfo K mg x.C a x.sup (x.fs.map (·.1)) ∧ cls = .ref a ∧ dd = some d ∧ ω.F d = some (.xd gs) ∧ Rf K mg ω x.fs gs
def Post {α β : Type} (ρ : Wd → α → β → Prop) (ω : Wd) (W : WX) (σ : L2.St) (r : Res α) (Q : β → Hp → Prop) : Prop := match r with
  | .ok a c => ∀ ω' b H', ω.le ω' → Rel K mg ω' c H' → ρ ω' a b → Q b H'
  | .exc x c => ∀ ω' H' cls dd, ω.le ω' → Rel K mg ω' c H' → RX K mg ω' x cls dd → W cls dd σ H'
  | .stuck => False
def lift {α β : Type} (ρ : Wd → α → β → Prop) (W : WX) (f : Sl → Ct → Res α) : L2.St → Hp → (β → Hp → Prop) → Prop := fun σ H Q =>
  ∃ ω sl c, SR K mg ω sl σ ∧ Rel K mg ω c H ∧ Post K mg ρ ω W σ (f sl c) Q
abbrev liftE (W : WX) (f : Sl → Ct → Res D) : TE := lift K mg (R K mg) W f
abbrev liftT (W : WX) (f : Sl → Ct → Res Bool) : TT := lift K mg (fun _ a b => a = b) W f
abbrev liftA (W : WX) (f : Sl → Ct → Res (List D)) : TA := lift K mg (Rs K mg) W f
end

section
variable {K : PySem.W.Frag} {mg : Str → Option Value} {ω ω' : Wd} {W : WX} {σ : L2.St} {sl : Sl} {c : Ct} {H : Hp}
theorem SR.mono (s : SR K mg ω sl σ) (l : ω.lo ω') : SR K mg ω' sl σ := ⟨s.len, fun i d e => by
  obtain ⟨v, h1, h2⟩ := s.get i d e
  exact ⟨v, h1, h2.mono l⟩⟩
theorem SR.set (s : SR K mg ω sl σ) (i : Nat) {d : D} {v : V} (r : R K mg ω d v) : SR K mg ω (sl.set i (some d)) (σ.set i (some v)) := ⟨by simp [s.len], fun j e he => by
  by_cases hj : i = j
  · subst hj
    by_cases hl : i < sl.length
    · rw [List.getElem?_set_self hl] at he
      cases he
      exact ⟨v, List.getElem?_set_self (by rw [← s.len]; exact hl), r⟩
    · rw [List.getElem?_eq_none (by simpa using hl)] at he
      cases he
  · rw [List.getElem?_set_ne hj] at he ⊢
    exact s.get j e he⟩
theorem Post.mono {α β : Type} {ρ : Wd → α → β → Prop} {r : Res α} {Q Q' : β → Hp → Prop} (h : Post K mg ρ ω W σ r Q) (k : ∀ b H', Q b H' → Q' b H') : Post K mg ρ ω W σ r Q' := by
  cases r with
  | ok a c => exact fun ω' b H' l rel r => k b H' (h ω' b H' l rel r)
  | exc x c => exact h
  | stuck => exact h
theorem Post.le {α β : Type} {ρ : Wd → α → β → Prop} {r : Res α} {Q : β → Hp → Prop} (h : Post K mg ρ ω W σ r Q) (l : ω.le ω') : Post K mg ρ ω' W σ r Q := by
  cases r with
  | ok a c => exact fun ω'' b H' l' rel r => h ω'' b H' (l.trans l') rel r
  | exc x c => exact fun ω'' H' cls dd l' rel r => h ω'' H' cls dd (l.trans l') rel r
  | stuck => exact h
theorem lift.mono {α β : Type} {ρ : Wd → α → β → Prop} {f : Sl → Ct → Res α} {Q Q' : β → Hp → Prop} (h : lift K mg ρ W f σ H Q) (k : ∀ b H', Q b H' → Q' b H') : lift K mg ρ W f σ H Q' := by
  obtain ⟨ω, sl, c, s, rel, p⟩ := h
  exact ⟨ω, sl, c, s, rel, p.mono k⟩
/-- one step, then the rest -/
theorem post_bind {α β γ δ : Type} {ρ : Wd → α → β → Prop} {ρ' : Wd → γ → δ → Prop} {f : Sl → Ct → Res α} {g : α → Ct → Res γ} {Q : δ → Hp → Prop} (s : SR K mg ω sl σ) (rel : Rel K mg ω c H) (p : Post K mg ρ' ω W σ (bnd (f sl c) g) Q) :
    lift K mg ρ W f σ H (fun b H1 => ∃ ω' c' a, ω.le ω' ∧ SR K mg ω' sl σ ∧ Rel K mg ω' c' H1 ∧ ρ ω' a b ∧ Post K mg ρ' ω' W σ (g a c') Q) := by
  refine ⟨ω, sl, c, s, rel, ?_⟩
  cases e : f sl c with
  | ok a c' =>
    rw [e] at p
    exact fun ω' b H' l rel' r => ⟨ω', c', a, l, s.mono l.toLo, rel', r, Post.le p l⟩
  | exc x c' =>
    rw [e] at p
    exact p
  | stuck =>
    rw [e] at p
    exact p.elim
/-- the world where a step's answer stands -/
theorem Post.ok_of {α β : Type} {ρ : Wd → α → β → Prop} {a : α} {b : β} {Q : β → Hp → Prop} (p : Post K mg ρ ω W σ (.ok a c) Q) (rel : Rel K mg ω c H) (r : ρ ω a b) : Q b H := p ω b H .rfl rel r
theorem Post.ok_le {α β : Type} {ρ : Wd → α → β → Prop} {a : α} {b : β} {Q : β → Hp → Prop} (p : Post K mg ρ ω W σ (.ok a c) Q) (l : ω.le ω') (rel : Rel K mg ω' c H) (r : ρ ω' a b) : Q b H := p ω' b H l rel r

/-! ### heaps that grow -/
theorem COk.mono (l : ω.lo ω') : ∀ {u : Cell} {o : Option HO}, COk K mg ω u o → COk K mg ω' u o := by
  intro u o h
  unfold COk at h ⊢
  split at h
  · trivial
  · exact h.mono l
  · exact ⟨h.1, h.2.mono l⟩
  · exact h.mono l
  · exact h.mono l
  · exact h.elim
/-- a new thing that stands for ever -/
theorem Rel.frozen (rel : Rel K mg ω c H) {p : Addr} (hp : H p = none) (o : HO) : (Wd.mk (upd ω.F p o) ω.m ω.x |> fun w => ω.le w ∧ Rel K mg w c (upd H p o)) := by
  have hF : ω.F p = none := by
    cases e : ω.F p with
    | none => rfl
    | some u =>
      have := rel.ext p u e
      rw [hp] at this
      cases this
  have l : ω.le ⟨upd ω.F p o, ω.m, ω.x⟩ := ⟨⟨fun x u e => by
    show upd ω.F p o x = some u
    rw [upd_ne (ne_of_none e hF)]
    exact e, fun _ _ e => e⟩, rfl⟩
  refine ⟨l, fun a u e => ?_, rel.len, rel.nd, fun a ha => ?_, fun a u hx => ?_, fun n a u h1 h2 h3 => ?_⟩
  · by_cases h : a = p
    · subst h
      have e : upd ω.F a o a = some u := e
      rw [upd_same] at e ⊢
      exact e
    · have e : upd ω.F p o a = some u := e
      rw [upd_ne h] at e ⊢
      exact rel.ext a u e
  · by_cases h : a = p
    · subst h
      rw [upd_same]
      simp
    · rw [upd_ne h]
      exact rel.occ a ha
  · obtain ⟨k1, k2, k3⟩ := rel.xs a u hx
    have hne : a ≠ p := ne_of_none k1 hp
    refine ⟨by rw [upd_ne hne]; exact k1, ?_, k3⟩
    show upd ω.F p o a = none
    rw [upd_ne hne]
    exact k2
  · obtain ⟨k1, k2⟩ := rel.live n a u h1 h2 h3
    have hne : a ≠ p := fun z => by
      subst z
      exact rel.occ a (List.mem_of_getElem? h1) hp
    refine ⟨?_, ?_⟩
    · show upd ω.F p o a = none
      rw [upd_ne hne]
      exact k1
    · rw [upd_ne hne]
      exact k2.mono l.toLo
/-- a new thing that may change -/
theorem Rel.cell (rel : Rel K mg ω c H) {p : Addr} (hp : H p = none) {o : HO} {u : Cell} (ok : COk K mg ω u (some o)) : (Wd.mk ω.F (ω.m ++ [p]) ω.x |> fun w => ω.le w ∧ w.m[c.length]? = some p ∧ Rel K mg w (c ++ [u]) (upd H p o)) := by
  have hF : ω.F p = none := by
    cases e : ω.F p with
    | none => rfl
    | some u =>
      have := rel.ext p u e
      rw [hp] at this
      cases this
  have l : ω.le ⟨ω.F, ω.m ++ [p], ω.x⟩ := ⟨⟨fun x u e => e, fun n x e => by
    show (ω.m ++ [p])[n]? = some x
    rw [List.getElem?_append_left (List.getElem?_eq_some_iff.mp e).1]
    exact e⟩, rfl⟩
  have hnm : p ∉ ω.m := fun hm => rel.occ p hm hp
  refine ⟨l, ?_, fun a v e => ?_, ?_, ?_, fun a ha => ?_, fun a u hx => ?_, fun n a v h1 h2 h3 => ?_⟩
  · show (ω.m ++ [p])[c.length]? = some p
    rw [← rel.len, List.getElem?_append_right (Nat.le_refl _)]
    simp
  · have e : ω.F a = some v := e
    rw [upd_ne (ne_of_none e hF)]
    exact rel.ext a v e
  · simp [rel.len]
  · refine List.nodup_append.mpr ⟨rel.nd, by simp, ?_⟩
    intro a ha b hb e
    rw [List.mem_singleton] at hb
    subst hb
    subst e
    exact hnm ha
  · have ha : a ∈ ω.m ++ [p] := ha
    by_cases h : a = p
    · subst h
      rw [upd_same]
      simp
    · rw [upd_ne h]
      rcases List.mem_append.mp ha with ha | ha
      · exact rel.occ a ha
      · exact absurd (List.mem_singleton.mp ha) h
  · obtain ⟨k1, k2, k3⟩ := rel.xs a u hx
    have hne : a ≠ p := ne_of_none k1 hp
    refine ⟨by rw [upd_ne hne]; exact k1, k2, fun hm => ?_⟩
    have hm : a ∈ ω.m ++ [p] := hm
    rcases List.mem_append.mp hm with hm | hm
    · exact k3 hm
    · exact hne (List.mem_singleton.mp hm)
  · have h1 : (ω.m ++ [p])[n]? = some a := h1
    by_cases hn : n < ω.m.length
    · rw [List.getElem?_append_left hn] at h1
      rw [List.getElem?_append_left (by rw [← rel.len]; exact hn)] at h2
      obtain ⟨k1, k2⟩ := rel.live n a v h1 h2 h3
      have hne : a ≠ p := fun z => hnm (z ▸ List.mem_of_getElem? h1)
      refine ⟨k1, ?_⟩
      rw [upd_ne hne]
      exact k2.mono l.toLo
    · rw [List.getElem?_append_right (by omega)] at h1
      have h0 : n - ω.m.length = 0 := by
        by_cases h : n - ω.m.length = 0
        · exact h
        · rw [List.getElem?_eq_none (by simp; omega)] at h1
          cases h1
      rw [h0] at h1
      cases h1
      rw [List.getElem?_append_right (by rw [← rel.len]; omega), ← rel.len, h0] at h2
      cases h2
      refine ⟨hF, ?_⟩
      rw [upd_same]
      exact ok.mono l.toLo
/-- a thing changes -/
theorem Rel.write (rel : Rel K mg ω c H) {n : Nat} {a : Addr} {u u' : Cell} {o : HO} (h1 : ω.m[n]? = some a) (h2 : c[n]? = some u) (h3 : u ≠ .dead) (ok : COk K mg ω u' (some o)) : Rel K mg ω (c.set n u') (upd H a o) := by
  obtain ⟨k1, k2⟩ := rel.live n a u h1 h2 h3
  refine ⟨fun b v e => ?_, by simp [rel.len], rel.nd, fun b hb => ?_, fun b v hx => ?_, fun j b v e1 e2 e3 => ?_⟩
  · rw [upd_ne (ne_of_none e k1)]
    exact rel.ext b v e
  · by_cases h : b = a
    · subst h
      rw [upd_same]
      simp
    · rw [upd_ne h]
      exact rel.occ b hb
  · obtain ⟨q1, q2, q3⟩ := rel.xs b v hx
    have hne : b ≠ a := fun z => q3 (z ▸ List.mem_of_getElem? h1)
    exact ⟨by rw [upd_ne hne]; exact q1, q2, q3⟩
  · by_cases hj : n = j
    · subst hj
      rw [h1] at e1
      cases e1
      rw [List.getElem?_set_self (List.getElem?_eq_some_iff.mp h2).1] at e2
      cases e2
      rw [upd_same]
      exact ⟨k1, ok⟩
    · rw [List.getElem?_set_ne hj] at e2
      obtain ⟨q1, q2⟩ := rel.live j b v e1 e2 e3
      have hne : b ≠ a := fun z => by
        subst z
        have l1 := (List.getElem?_eq_some_iff.mp h1)
        have l2 := (List.getElem?_eq_some_iff.mp e1)
        exact hj ((List.getElem_inj rel.nd).mp (l1.2.trans l2.2.symm))
      rw [upd_ne hne]
      exact ⟨q1, q2⟩
/-- a thing is not to change any more -/
theorem Rel.freeze (rel : Rel K mg ω c H) {n : Nat} {a : Addr} {u : Cell} {o : HO} (h1 : ω.m[n]? = some a) (h2 : c[n]? = some u) (h3 : u ≠ .dead) (ho : H a = some o) : (Wd.mk (upd ω.F a o) ω.m ω.x |> fun w => ω.le w ∧ Rel K mg w (c.set n .dead) H) := by
  obtain ⟨k1, k2⟩ := rel.live n a u h1 h2 h3
  have l : ω.le ⟨upd ω.F a o, ω.m, ω.x⟩ := ⟨⟨fun x v e => by
    show upd ω.F a o x = some v
    rw [upd_ne (ne_of_none e k1)]
    exact e, fun _ _ e => e⟩, rfl⟩
  refine ⟨l, fun b v e => ?_, by simp [rel.len], rel.nd, rel.occ, fun b v hx => ?_, fun j b v e1 e2 e3 => ?_⟩
  · have e : upd ω.F a o b = some v := e
    by_cases h : b = a
    · subst h
      rw [upd_same] at e
      cases e
      exact ho
    · rw [upd_ne h] at e
      exact rel.ext b v e
  · obtain ⟨q1, q2, q3⟩ := rel.xs b v hx
    have hne : b ≠ a := fun z => q3 (z ▸ List.mem_of_getElem? h1)
    refine ⟨q1, ?_, q3⟩
    show upd ω.F a o b = none
    rw [upd_ne hne]
    exact q2
  · by_cases hj : n = j
    · subst hj
      rw [List.getElem?_set_self (List.getElem?_eq_some_iff.mp h2).1] at e2
      cases e2
      exact absurd rfl e3
    · rw [List.getElem?_set_ne hj] at e2
      obtain ⟨q1, q2⟩ := rel.live j b v e1 e2 e3
      have hne : b ≠ a := fun z => by
        subst z
        have l1 := (List.getElem?_eq_some_iff.mp h1)
        have l2 := (List.getElem?_eq_some_iff.mp e1)
        exact hj ((List.getElem_inj rel.nd).mp (l1.2.trans l2.2.symm))
      refine ⟨?_, q2.mono l.toLo⟩
      show upd ω.F a o b = none
      rw [upd_ne hne]
      exact q1
theorem Rel.start (H : Hp) : Rel K mg ⟨H, [], []⟩ [] H := ⟨fun _ _ e => e, rfl, List.nodup_nil, fun _ h => (by cases h), fun _ _ h => (by cases h), fun n a u h => by cases n <;> cases h⟩
/-- a thing that stands aside: laid, changed, taken in -/
theorem Rel.aside (rel : Rel K mg ω c H) {p : Addr} (hp : H p = none) (o : HO) : (Wd.mk ω.F ω.m ((p, o) :: ω.x) |> fun w => ω.lo w ∧ Rel K mg w c (upd H p o)) := by
  obtain ⟨l, r⟩ := rel.frozen hp o
  have hF : ω.F p = none := by
    cases e : ω.F p with
    | none => rfl
    | some u =>
      have := rel.ext p u e
      rw [hp] at this
      cases this
  refine ⟨⟨fun _ _ e => e, fun _ _ e => e⟩, fun a u e => ?_, rel.len, rel.nd, r.occ, fun a u hx => ?_, fun n a u h1 h2 h3 => ?_⟩
  · rw [upd_ne (ne_of_none e hF)]
    exact rel.ext a u e
  · rcases List.mem_cons.mp hx with e | hx
    · cases e
      exact ⟨upd_same, hF, fun hm => rel.occ p hm hp⟩
    · obtain ⟨q1, q2, q3⟩ := rel.xs a u hx
      exact ⟨by rw [upd_ne (ne_of_none q1 hp)]; exact q1, q2, q3⟩
  · obtain ⟨k1, k2⟩ := rel.live n a u h1 h2 h3
    have hne : a ≠ p := fun z => rel.occ a (List.mem_of_getElem? h1) (z ▸ hp)
    rw [upd_ne hne]
    exact ⟨k1, COk.mono (ω := ω) (ω' := ⟨ω.F, ω.m, (p, o) :: ω.x⟩) ⟨fun _ _ e => e, fun _ _ e => e⟩ k2⟩
theorem Rel.asideSet {p : Addr} {o o' : HO} {r : List (Addr × HO)} (hx : ω.x = (p, o) :: r) (rel : Rel K mg ω c H) (hr : ∀ q u, (q, u) ∈ r → q ≠ p) : (Wd.mk ω.F ω.m ((p, o') :: r) |> fun w => ω.lo w ∧ Rel K mg w c (upd H p o')) := by
  obtain ⟨e1, e2, e3⟩ := rel.xs p o (by rw [hx]; exact List.mem_cons_self)
  refine ⟨⟨fun _ _ e => e, fun _ _ e => e⟩, fun a u e => ?_, rel.len, rel.nd, fun a ha => ?_, fun a u hm => ?_, fun n a u h1 h2 h3 => ?_⟩
  · rw [upd_ne (ne_of_none e e2)]
    exact rel.ext a u e
  · have hne : a ≠ p := fun z => e3 (z ▸ ha)
    rw [upd_ne hne]
    exact rel.occ a ha
  · rcases List.mem_cons.mp hm with e | hm
    · cases e
      exact ⟨upd_same, e2, e3⟩
    · obtain ⟨q1, q2, q3⟩ := rel.xs a u (by rw [hx]; exact List.mem_cons_of_mem _ hm)
      exact ⟨by rw [upd_ne (hr a u hm)]; exact q1, q2, q3⟩
  · have hne : a ≠ p := fun z => e3 (z ▸ List.mem_of_getElem? h1)
    rw [upd_ne hne]
    obtain ⟨k1, k2⟩ := rel.live n a u h1 h2 h3
    exact ⟨k1, COk.mono (ω := ω) (ω' := ⟨ω.F, ω.m, (p, o') :: r⟩) ⟨fun _ _ e => e, fun _ _ e => e⟩ k2⟩
/-- taken in for ever -/
theorem Rel.asideF {p : Addr} {o : HO} {r : List (Addr × HO)} (hx : ω.x = (p, o) :: r) (rel : Rel K mg ω c H) (hr : ∀ q u, (q, u) ∈ r → q ≠ p) : (Wd.mk (upd ω.F p o) ω.m r |> fun w => ω.lo w ∧ Rel K mg w c H) := by
  obtain ⟨e1, e2, e3⟩ := rel.xs p o (by rw [hx]; exact List.mem_cons_self)
  have l : ω.lo ⟨upd ω.F p o, ω.m, r⟩ := ⟨fun x v e => by
    show upd ω.F p o x = some v
    rw [upd_ne (ne_of_none e e2)]
    exact e, fun _ _ e => e⟩
  refine ⟨l, fun a u e => ?_, rel.len, rel.nd, rel.occ, fun a u hm => ?_, fun n a u h1 h2 h3 => ?_⟩
  · have e : upd ω.F p o a = some u := e
    by_cases h : a = p
    · subst h
      rw [upd_same] at e
      cases e
      exact e1
    · rw [upd_ne h] at e
      exact rel.ext a u e
  · obtain ⟨q1, q2, q3⟩ := rel.xs a u (by rw [hx]; exact List.mem_cons_of_mem _ hm)
    refine ⟨q1, ?_, q3⟩
    show upd ω.F p o a = none
    rw [upd_ne (hr a u hm)]
    exact q2
  · obtain ⟨k1, k2⟩ := rel.live n a u h1 h2 h3
    have hne : a ≠ p := fun z => e3 (z ▸ List.mem_of_getElem? h1)
    refine ⟨?_, k2.mono l⟩
    show upd ω.F p o a = none
    rw [upd_ne hne]
    exact k1
/-- taken in as a thing that may change -/
theorem Rel.asideC {p : Addr} {o : HO} {r : List (Addr × HO)} {u : Cell} (hx : ω.x = (p, o) :: r) (rel : Rel K mg ω c H) (hr : ∀ q u, (q, u) ∈ r → q ≠ p) (ok : COk K mg ω u (some o)) : (Wd.mk ω.F (ω.m ++ [p]) r |> fun w => ω.lo w ∧ w.m[c.length]? = some p ∧ Rel K mg w (c ++ [u]) H) := by
  obtain ⟨e1, e2, e3⟩ := rel.xs p o (by rw [hx]; exact List.mem_cons_self)
  have l : ω.lo ⟨ω.F, ω.m ++ [p], r⟩ := ⟨fun x u e => e, fun n x e => by
    show (ω.m ++ [p])[n]? = some x
    rw [List.getElem?_append_left (List.getElem?_eq_some_iff.mp e).1]
    exact e⟩
  refine ⟨l, ?_, rel.ext, by simp [rel.len], ?_, fun a ha => ?_, fun a u hm => ?_, fun n a v h1 h2 h3 => ?_⟩
  · show (ω.m ++ [p])[c.length]? = some p
    rw [← rel.len, List.getElem?_append_right (Nat.le_refl _)]
    simp
  · refine List.nodup_append.mpr ⟨rel.nd, by simp, ?_⟩
    intro a ha b hb e
    rw [List.mem_singleton] at hb
    subst hb
    subst e
    exact e3 ha
  · have ha : a ∈ ω.m ++ [p] := ha
    rcases List.mem_append.mp ha with ha | ha
    · exact rel.occ a ha
    · rw [List.mem_singleton.mp ha, e1]
      simp
  · obtain ⟨q1, q2, q3⟩ := rel.xs a u (by rw [hx]; exact List.mem_cons_of_mem _ hm)
    refine ⟨q1, q2, fun z => ?_⟩
    have z : a ∈ ω.m ++ [p] := z
    rcases List.mem_append.mp z with z | z
    · exact q3 z
    · exact hr a u hm (List.mem_singleton.mp z)
  · have h1 : (ω.m ++ [p])[n]? = some a := h1
    by_cases hn : n < ω.m.length
    · rw [List.getElem?_append_left hn] at h1
      rw [List.getElem?_append_left (by rw [← rel.len]; exact hn)] at h2
      obtain ⟨k1, k2⟩ := rel.live n a v h1 h2 h3
      exact ⟨k1, k2.mono l⟩
    · rw [List.getElem?_append_right (by omega)] at h1
      have h0 : n - ω.m.length = 0 := by
        by_cases h : n - ω.m.length = 0
        · exact h
        · rw [List.getElem?_eq_none (by simp; omega)] at h1
          cases h1
      rw [h0] at h1
      cases h1
      rw [List.getElem?_append_right (by rw [← rel.len]; omega), ← rel.len, h0] at h2
      cases h2
      refine ⟨e2, ?_⟩
      rw [e1]
      exact ok.mono l
end
end Hv

set_option Elab.async false
set_option linter.all false
set_option maxRecDepth 100000
/-! HvA2: what is left behind by a call, and is reached by nothing, goes. -/
namespace Hv
open PySem PySem.Spec PyProof.Rows L2

mutual
/-- nothing in it refers to a cell from n on -/
def rLt (n : Nat) : D → Bool
  | .ref m => decide (m < n)
  | .tup xs => rLts n xs
  | .lst xs => rLts n xs
  | .scr xs => rLts n xs
  | .ins _ fs => rLtf n fs
  | .dct kvs => rLtk n kvs
  | .non => true
  | .bl _ => true
  | .int _ => true
  | .str _ => true
  | .ty _ => true
  | .glo _ => true
def rLts (n : Nat) : List D → Bool
  | [] => true
  | d :: ds => rLt n d && rLts n ds
def rLtf (n : Nat) : List (Str × D) → Bool
  | [] => true
  | (_, d) :: ds => rLt n d && rLtf n ds
def rLtk (n : Nat) : List (D × D) → Bool
  | [] => true
  | (_, d) :: ds => rLt n d && rLtk n ds
end
def cLt (n : Nat) : Cell → Bool
  | .dead => true
  | .lst xs => rLts n xs
  | .ins _ fs => rLtf n fs
  | .dct kvs => rLtk n kvs
open Classical in
/-- what stood ahead of a call stays, the rest goes where nothing leads there -/
noncomputable def cut (c c' : Ct) (b : Bool) : Ct := if b = true ∧ c.length ≤ c'.length ∧ (∀ i, i < c.length → c'[i]? = c[i]? ∨ ∃ u, c'[i]? = some u ∧ cLt c.length u = true) then c'.take c.length else c'
noncomputable def gcK (c : Ct) (r : Res D) : Res D := match r with
  | .ok d c' => .ok d (cut c c' (rLt c.length d))
  | .exc x c' => .exc x (cut c c' (rLtf c.length x.fs))
  | .stuck => .stuck

section
variable {K : PySem.W.Frag} {mg : Str → Option Value} {ω ω' : Wd}
mutual
theorem R.down {n : Nat} (l : ∀ x o, ω.F x = some o → ω'.F x = some o) (m : ∀ k x, k < n → ω.m[k]? = some x → ω'.m[k]? = some x) : ∀ {d : D} {v : V}, R K mg ω d v → rLt n d = true → R K mg ω' d v
  | _, _, .non, _ => .non
  | _, _, .bl b, _ => .bl b
  | _, _, .int i, _ => .int i
  | _, _, .str s, _ => .str s
  | _, _, .ty n, _ => .ty n
  | _, _, .tup h r, e => .tup (h.mono l) (Rs.down l m r (by rw [rLt] at e; exact e))
  | _, _, .lst h r, e => .lst (l _ _ h) (Rs.down l m r (by rw [rLt] at e; exact e))
  | _, _, .scr h r, e => .scr (sq_l l h) (Rs.down l m r (by rw [rLt] at e; exact e))
  | _, _, .ref h, e => .ref (m _ _ (by rw [rLt] at e; exact of_decide_eq_true e) h)
  | _, _, .ins hc h r, e => .ins hc (l _ _ h) (Rf.down l m r (by rw [rLt] at e; exact e))
  | _, _, .dctK h r, e => .dctK (l _ _ h) (Rk.down l m r (by rw [rLt] at e; exact e))
  | _, _, .dctT h r, e => .dctT (l _ _ h) (Rt.down l m r (by rw [rLt] at e; exact e))
  | _, _, .glo h, _ => .glo h
theorem Rs.down {n : Nat} (l : ∀ x o, ω.F x = some o → ω'.F x = some o) (m : ∀ k x, k < n → ω.m[k]? = some x → ω'.m[k]? = some x) : ∀ {d : List D} {v : List V}, Rs K mg ω d v → rLts n d = true → Rs K mg ω' d v
  | _, _, .nil, _ => .nil
  | _, _, .cons h t, e => by
    rw [rLts, Bool.and_eq_true] at e
    exact .cons (R.down l m h e.1) (Rs.down l m t e.2)
theorem Rf.down {n : Nat} (l : ∀ x o, ω.F x = some o → ω'.F x = some o) (m : ∀ k x, k < n → ω.m[k]? = some x → ω'.m[k]? = some x) : ∀ {d : List (Str × D)} {v : List (Str × V)}, Rf K mg ω d v → rLtf n d = true → Rf K mg ω' d v
  | _, _, .nil, _ => .nil
  | _, _, .cons h t, e => by
    rw [rLtf, Bool.and_eq_true] at e
    exact .cons (R.down l m h e.1) (Rf.down l m t e.2)
theorem Rk.down {n : Nat} (l : ∀ x o, ω.F x = some o → ω'.F x = some o) (m : ∀ k x, k < n → ω.m[k]? = some x → ω'.m[k]? = some x) : ∀ {d : List (D × D)} {v : List (Key × V)}, Rk K mg ω d v → rLtk n d = true → Rk K mg ω' d v
  | _, _, .nil, _ => .nil
  | _, _, .cons h t, e => by
    rw [rLtk, Bool.and_eq_true] at e
    exact .cons (R.down l m h e.1) (Rk.down l m t e.2)
theorem Rt.down {n : Nat} (l : ∀ x o, ω.F x = some o → ω'.F x = some o) (m : ∀ k x, k < n → ω.m[k]? = some x → ω'.m[k]? = some x) : ∀ {d : List (D × D)} {v : List (List Key × V)}, Rt K mg ω d v → rLtk n d = true → Rt K mg ω' d v
  | _, _, .nil, _ => .nil
  | _, _, .cons h t, e => by
    rw [rLtk, Bool.and_eq_true] at e
    exact .cons (R.down l m h e.1) (Rt.down l m t e.2)
end
mutual
theorem R.lt {n : Nat} (hn : ω.m.length ≤ n) : ∀ {d : D} {v : V}, R K mg ω d v → rLt n d = true
  | _, _, .non => by rw [rLt]
  | _, _, .bl b => by rw [rLt]
  | _, _, .int i => by rw [rLt]
  | _, _, .str s => by rw [rLt]
  | _, _, .ty n => by rw [rLt]
  | _, _, .tup h r => by rw [rLt]; exact Rs.lt hn r
  | _, _, .lst h r => by rw [rLt]; exact Rs.lt hn r
  | _, _, .scr h r => by rw [rLt]; exact Rs.lt hn r
  | _, _, .ref h => by rw [rLt]; exact decide_eq_true (Nat.lt_of_lt_of_le (List.getElem?_eq_some_iff.mp h).1 hn)
  | _, _, .ins hc h r => by rw [rLt]; exact Rf.lt hn r
  | _, _, .dctK h r => by rw [rLt]; exact Rk.lt hn r
  | _, _, .dctT h r => by rw [rLt]; exact Rt.lt hn r
  | _, _, .glo h => by rw [rLt]
theorem Rs.lt {n : Nat} (hn : ω.m.length ≤ n) : ∀ {d : List D} {v : List V}, Rs K mg ω d v → rLts n d = true
  | _, _, .nil => by rw [rLts]
  | _, _, .cons h t => by rw [rLts, R.lt hn h, Rs.lt hn t]; rfl
theorem Rf.lt {n : Nat} (hn : ω.m.length ≤ n) : ∀ {d : List (Str × D)} {v : List (Str × V)}, Rf K mg ω d v → rLtf n d = true
  | _, _, .nil => by rw [rLtf]
  | _, _, .cons h t => by rw [rLtf, R.lt hn h, Rf.lt hn t]; rfl
theorem Rk.lt {n : Nat} (hn : ω.m.length ≤ n) : ∀ {d : List (D × D)} {v : List (Key × V)}, Rk K mg ω d v → rLtk n d = true
  | _, _, .nil => by rw [rLtk]
  | _, _, .cons h t => by rw [rLtk, R.lt hn h, Rk.lt hn t]; rfl
theorem Rt.lt {n : Nat} (hn : ω.m.length ≤ n) : ∀ {d : List (D × D)} {v : List (List Key × V)}, Rt K mg ω d v → rLtk n d = true
  | _, _, .nil => by rw [rLtk]
  | _, _, .cons h t => by rw [rLtk, R.lt hn h, Rt.lt hn t]; rfl
end
theorem COk.lt {n : Nat} (hn : ω.m.length ≤ n) {u : Cell} {o : Option HO} (h : COk K mg ω u o) : cLt n u = true := by
  unfold COk at h
  split at h
  · rfl
  · exact h.lt hn
  · exact h.2.lt hn
  · exact h.lt hn
  · exact h.lt hn
  · exact h.elim
theorem COk.down {n : Nat} (l : ∀ x o, ω.F x = some o → ω'.F x = some o) (m : ∀ k x, k < n → ω.m[k]? = some x → ω'.m[k]? = some x) {u : Cell} {o : Option HO} (h : COk K mg ω u o) (e : cLt n u = true) : COk K mg ω' u o := by
  unfold COk at h ⊢
  split at h
  · trivial
  · exact Rs.down l m h e
  · exact ⟨h.1, Rf.down l m h.2 e⟩
  · exact Rk.down l m h e
  · exact Rt.down l m h e
  · exact h.elim
theorem Rel.cut {c c' : Ct} {H H' : Hp} (rel : Rel K mg ω c H) (l : ω.le ω') (rel' : Rel K mg ω' c' H') (h1 : c.length ≤ c'.length) (h2 : ∀ i, i < c.length → c'[i]? = c[i]? ∨ ∃ u, c'[i]? = some u ∧ cLt c.length u = true) :
    (Wd.mk ω'.F (ω'.m.take c.length) ω'.x |> fun w => ω.le w ∧ Rel K mg w (c'.take c.length) H') := by
  have dn : ∀ k x, k < c.length → ω'.m[k]? = some x → (ω'.m.take c.length)[k]? = some x := fun k x hk e => by rw [List.getElem?_take, if_pos hk]; exact e
  refine ⟨⟨⟨l.f, fun k x e => dn k x ?_ (l.m k x e)⟩, l.x⟩, rel'.ext, ?_, rel'.nd.sublist (List.take_sublist _ _), fun a ha => rel'.occ a (List.mem_of_mem_take ha), fun a o hx => ?_, fun k a u e1 e2 e3 => ?_⟩
  · rw [← rel.len]; exact (List.getElem?_eq_some_iff.mp e).1
  · rw [List.length_take, List.length_take, rel'.len]
  · obtain ⟨q1, q2, q3⟩ := rel'.xs a o hx
    exact ⟨q1, q2, fun z => q3 (List.mem_of_mem_take z)⟩
  · have e1 : (ω'.m.take c.length)[k]? = some a := e1
    rw [List.getElem?_take] at e1 e2
    by_cases hk : k < c.length
    · rw [if_pos hk] at e1 e2
      obtain ⟨q1, q2⟩ := rel'.live k a u e1 e2 e3
      refine ⟨q1, COk.down (ω := ω') (ω' := ⟨ω'.F, ω'.m.take c.length, ω'.x⟩) (n := c.length) (fun _ _ h => h) dn q2 ?_⟩
      rcases h2 k hk with z | ⟨u', z1, z2⟩
      · rw [e2] at z
        have hm : ω.m[k]? = some (ω.m[k]'(by rw [rel.len]; exact hk)) := List.getElem?_eq_getElem _
        exact (rel.live k _ u hm z.symm e3).2.lt (Nat.le_of_eq rel.len)
      · rw [e2] at z1
        cases z1
        exact z2
    · rw [if_neg hk] at e1
      cases e1
theorem Rel.cut' {c c' : Ct} {H H' : Hp} (rel : Rel K mg ω c H) (l : ω.le ω') (rel' : Rel K mg ω' c' H') (b : Bool) : ∃ w, ω.le w ∧ Rel K mg w (Hv.cut c c' b) H' ∧ (∀ d v, R K mg ω' d v → (b = true → rLt c.length d = true) → R K mg w d v) ∧ (∀ fs gs, Rf K mg ω' fs gs → (b = true → rLtf c.length fs = true) → Rf K mg w fs gs) ∧ (∀ a o, ω'.F a = some o → w.F a = some o) := by
  unfold Hv.cut
  split
  · rename_i h
    obtain ⟨h0, h1, h2⟩ := h
    obtain ⟨q1, q2⟩ := rel.cut l rel' h1 h2
    have dn : ∀ k x, k < c.length → ω'.m[k]? = some x → (ω'.m.take c.length)[k]? = some x := fun k x hk e => by rw [List.getElem?_take, if_pos hk]; exact e
    exact ⟨_, q1, q2, fun d v r e => R.down (ω := ω') (ω' := ⟨ω'.F, ω'.m.take c.length, ω'.x⟩) (n := c.length) (fun _ _ h => h) dn r (e h0), fun d v r e => Rf.down (ω := ω') (ω' := ⟨ω'.F, ω'.m.take c.length, ω'.x⟩) (n := c.length) (fun _ _ h => h) dn r (e h0), fun _ _ h => h⟩
  · exact ⟨ω', l, rel', fun _ _ r _ => r, fun _ _ r _ => r, fun _ _ h => h⟩
theorem Post.gc {W : WX} {σ : L2.St} {c : Ct} {H : Hp} {r : Res D} {Q : VK} (rel : Rel K mg ω c H) (p : Post K mg (R K mg) ω W σ (gcK c r) Q) : Post K mg (R K mg) ω W σ r Q := by
  cases r with
  | stuck => exact p
  | ok d c' =>
    intro ω1 b H' l rel' rd
    obtain ⟨w, q1, q2, q3, _⟩ := rel.cut' l rel' (rLt c.length d)
    exact p w b H' q1 q2 (q3 d b rd fun h => h)
  | exc x c' =>
    intro ω1 H' cls dd l rel' rx
    obtain ⟨w, q1, q2, _, q4, q5⟩ := rel.cut' l rel' (rLtf c.length x.fs)
    obtain ⟨a, d, gs, z1, z2, z3, z4, z5⟩ := rx
    exact p w H' cls dd q1 q2 ⟨a, d, gs, z1, z2, z3, q5 _ _ z4, q4 _ _ z5 fun h => h⟩
end
end Hv

set_option Elab.async false
set_option linter.all false
set_option maxRecDepth 100000
/-! HvB: the inner form of a text (IE, IS) and what it does with plain data. -/
namespace Hv
open PySem PySem.Spec PyProof.Rows L2

inductive Cst where
  | non | bl (b : Bool) | int (i : Int) | str (s : Str)
  deriving DecidableEq, Inhabited
def Cst.d : Cst → D
  | .non => .non | .bl b => .bl b | .int i => .int i | .str s => .str s
def Cst.v : Cst → V
  | .non => .non | .bl b => .bl b | .int i => .int i | .str s => .str s
inductive BOp where
  | add | sub | mul | fdiv | mod | pow
  deriving DecidableEq
inductive COp where
  | lt | le | gt | ge | eq | ne | is | isn | inn | nin
  deriving DecidableEq
inductive Src where
  | arg (i : Nat) | dfl (c : Cst)
  deriving DecidableEq
inductive Blt where
  | len | list | listM | tuple | abs | all | any | sum | isi | int | max | min | sorted | sortedM | str
  deriving DecidableEq
/-- targets -/
inductive IT where
  | nm (i : Nat) | tp (ts : List IT)
/-- targets of an own statement: a name, an attribute of a name -/
inductive XT where
  | nm (i : Nat) | fl (i : Nat) (C f : Str)
/-- methods of built-in classes -/
inductive Mth where
  | append | extend | insert | clear | reverse | index | count
  deriving DecidableEq
mutual
inductive IE where
  | var (i : Nat)
  | cst (c : Cst)
  | typ (n : String)
  | bin (mu : Bool) (o : BOp) (a b : IE)
  | cmp (o : COp) (a b : IE)
  | chn (o o' : COp) (a b c : IE)
  | and (a b : IE) | or (a b : IE) | not (a : IE)
  | ifx (c a b : IE)
  | tup (es : IEs) | lst (mu : Bool) (es : IEs)
  | idx (a b : IE)
  | slc (a : IE) (lo hi : IO)
  | call (fz : Bool) (f : Nat) (ks : List Str) (src : List Src) (es kes : IEs)
  | blt (f : Blt) (es : IEs)
  | comp (mu : Bool) (own : List Nat) (t : IT) (s : II) (q elt : IE)
  | frz (k : Nat) (e : IE)
  | fld (C f : Str) (a : IE)
  | mk (fz : Bool) (C : Str) (f : Nat) (ks : List Str) (src : List Src) (es kes : IEs)
  | mth (fz : Bool) (C m : Str) (f : Nat) (ks : List Str) (src : List Src) (a : IE) (es kes : IEs)
  | bm (m : Mth) (a : IE) (es : IEs)
  | lrng1 (mu : Bool) (a : IE)
  | lrng2 (mu : Bool) (a b : IE)
  | dsp (ks : List Str) (es : IEs)
  | len1 (C : Str) (f : Nat) (a : IE)
inductive IEs where
  | nil | cons (e : IE) (es : IEs)
/-- what a for walks -/
inductive II where
  | seq (e : IE) | rng1 (a : IE) | rng2 (a b : IE) | enum (e : IE) | zip (st : Bool) (es : IEs)
/-- a slice's part -/
inductive IO where
  | no | so (e : IE)
end
/-- what an except suite tells of the exception -/
inductive HX where
  | fld (f : Str) | isi (n : Str)
mutual
inductive IS where
  | asg (t : IT) (e : IE)
  | par (i j : Nat) (a b : IE)
  | put (o i e : IE)
  | aug (i : Nat) (o : BOp) (e : IE)
  | augI (o i : IE) (op : BOp) (e : IE)
  | sto (ts : List XT) (e : IE)
  | par3 (i j k : Nat) (a b d : IE)
  | expr (e : IE) | ret (e : IE) | retN
  | ifs (c : IE) (a b : ISs)
  | whl (c : IE) (b : ISs)
  | for (t : IT) (s : II) (b : ISs)
  | pass | brk | cont
  | nev
  | rse (C : Str) (n : Nat) (sup : List (Str × Bool)) (fl : List (Str × Src)) (es : IEs)
  | tryA (b : ISs) (D : Str) (i : Nat) (hx : List HX) (tg : Option Nat)
inductive ISs where
  | nil | cons (s : IS) (r : ISs)
end

/-! ### what operators do -/
def big : Nat := 1000000
def newL (mu : Bool) (xs : List D) (c : Ct) : Res D := if mu = true then .ok (.ref c.length) (c ++ [.lst xs]) else .ok (.lst xs) c
/-- a list that stands by itself -/
def lstD (x : D) (c : Ct) : Option (List D) := match x with
  | .lst xs => some xs
  | .ref n => match c[n]? with
    | some (.lst xs) => some xs
    | _ => none
  | _ => none
def binI (o : BOp) (i j : Int) (c : Ct) : Res D := match o with
  | .add => .ok (.int (i + j)) c
  | .sub => .ok (.int (i - j)) c
  | .mul => if i.natAbs.log2 + j.natAbs.log2 < big then .ok (.int (i * j)) c else .stuck
  | .fdiv => if j ≠ 0 ∧ j.natAbs.log2 < 9000 then .ok (.int (i.fdiv j)) c else .stuck
  | .mod => if j ≠ 0 then .ok (.int (i.fmod j)) c else .stuck
  | .pow => if 0 ≤ j ∧ j ≤ 1000000 ∧ i.natAbs < 2 ^ 64 then .ok (.int (i ^ j.toNat)) c else .stuck
def catD (mu : Bool) (x y : D) (c : Ct) : Res D := match lstD x c, lstD y c with
  | some xs, some ys => if xs.length + ys.length ≤ 100000 then newL mu (xs ++ ys) c else .stuck
  | _, _ => .stuck
def repD (mu : Bool) (x : D) (k : Int) (c : Ct) : Res D := match lstD x c with
  | some xs => if -(2 ^ 62) ≤ k ∧ k < 2 ^ 62 ∧ xs.length * k.toNat ≤ 100000 then newL mu (List.replicate k.toNat xs).flatten c else .stuck
  | _ => .stuck
def binD (mu : Bool) (o : BOp) (x y : D) (c : Ct) : Res D := match x, y with
  | .int i, .int j => binI o i j c
  | .str a, .str b => if o = .add ∧ a.length + b.length ≤ 100000 then .ok (.str (a ++ b)) c else .stuck
  | x, .int k => if o = .mul then repD mu x k c else .stuck
  | x, y => if o = .add then catD mu x y c else .stuck
/-- the things that == tells apart here -/
def eqD : D → D → Option Bool
  | .int i, .int j => some (decide (i = j))
  | .bl a, .bl b => some (decide (a = b))
  | .str a, .str b => some (decide (a = b))
  | .non, .non => some true
  | .non, .int _ => some false | .int _, .non => some false | .non, .bl _ => some false | .bl _, .non => some false | .non, .str _ => some false | .str _, .non => some false
  | .int _, .str _ => some false | .str _, .int _ => some false | .bl _, .str _ => some false | .str _, .bl _ => some false
  | _, _ => none
def mapO {α β : Type} (f : α → Option β) : List α → Option (List β)
  | [] => some []
  | a :: r => (f a).bind fun b => (mapO f r).map (b :: ·)
/-- data as == reads it -/
def toP : Nat → D → Ct → Option PyData
  | k + 1, .tup xs, c => (mapO (fun d => toP k d c) xs).map .tuple
  | k + 1, .lst xs, c => (mapO (fun d => toP k d c) xs).map .list
  | k + 1, .scr xs, c => (mapO (fun d => toP k d c) xs).map .list
  | k + 1, .ref n, c => match c[n]? with
    | some (.lst xs) => (mapO (fun d => toP k d c) xs).map .list
    | _ => none
  | _, .non, _ => some .none
  | _, .bl b, _ => some (.bool b)
  | _, .int b, _ => some (.int b)
  | _, .str b, _ => some (.str b)
  | _, _, _ => none
def deepD (x y : D) (c : Ct) : Option Bool := match toP 9 x c, toP 9 y c with
  | some a, some b => if SeqAt.shaped a = true ∧ SeqAt.shaped b = true then some (PyData.eqv a b) else none
  | _, _ => none
/-- x in y -/
def inD (x y : D) (c : Ct) : Option Bool := match x, y with
  | .str a, .str b => match a.cps.toList with
    | [k] => some (decide (k ∈ b.cps.toList))
    | _ => none
  | x, y => match toP 9 x c, toP 9 y c with
    | some a, some (.list bs) => if SeqAt.shaped a = true ∧ SeqAt.shaped (.list bs) = true then some (bs.any fun z => PyData.eqv z a) else none
    | _, _ => none
def isNon : D → Bool
  | .non => true
  | _ => false
def bO (o : Option Bool) (c : Ct) : Res D := match o with
  | some b => .ok (.bl b) c
  | none => .stuck
def orO (a b : Option Bool) : Option Bool := match a with
  | some x => some x
  | none => b
def cmpI (o : COp) (i j : Int) : Option Bool := match o with
  | .lt => some (decide (i < j))
  | .le => some (decide (i ≤ j))
  | .gt => some (decide (j < i))
  | .ge => some (decide (j ≤ i))
  | .eq => some (decide (i = j))
  | .ne => some (!decide (i = j))
  | _ => none
def cmpX (o : COp) (x y : D) : Option Bool := match x, y with
  | .int i, .int j => cmpI o i j
  | _, _ => none
def isO (x y : D) : Option Bool := match y with
  | .non => some (isNon x)
  | .bl b => match x with
    | .bl a => some (decide (a = b))
    | _ => none
  | _ => none
def cmpO (o : COp) (x y : D) (c : Ct) : Option Bool := match o with
  | .eq => orO (eqD x y) (deepD x y c)
  | .ne => (orO (eqD x y) (deepD x y c)).map (!·)
  | .is => isO x y
  | .isn => (isO x y).map (!·)
  | .inn => inD x y c
  | .nin => (inD x y c).map (!·)
  | o => cmpX o x y
def cmpD (o : COp) (x y : D) (c : Ct) : Res D := bO (cmpO o x y c) c
def truD (x : D) (c : Ct) : Res Bool := match x with
  | .non => .ok false c
  | .bl b => .ok b c
  | .int i => .ok (i != 0) c
  | .lst xs => .ok (!xs.isEmpty) c
  | .scr xs => .ok (!xs.isEmpty) c
  | .tup xs => .ok (!xs.isEmpty) c
  | .ref n => match c[n]? with
    | some (.lst xs) => .ok (!xs.isEmpty) c
    | _ => .stuck
  | _ => .stuck
/-- the items of a list or tuple as it stands -/
def itsD (x : D) (c : Ct) : Option (List D) := match x with
  | .lst xs => some xs
  | .scr xs => some xs
  | .tup xs => some xs
  | .ref n => match c[n]? with
    | some (.lst xs) => some xs
    | _ => none
  | _ => none
def ofO {α : Type} (o : Option α) (c : Ct) : Res α := match o with
  | some a => .ok a c
  | none => .stuck
@[simp] theorem ofO_some {α : Type} (a : α) (c : Ct) : ofO (some a) c = .ok a c := rfl
@[simp] theorem ofO_none {α : Type} (c : Ct) : ofO (none : Option α) c = .stuck := rfl
def sigD (k : Nat) : D := .str ⟨#[k]⟩
def kvD (s : Str) : List (D × D) → Option D
  | [] => none
  | (.str k, d) :: r => if k = s then some d else kvD s r
  | _ :: _ => none
/-- a dict as it stands -/
def dctD (x : D) (c : Ct) : Option (List (D × D)) := match x with
  | .dct kvs => some kvs
  | .ref n => match c[n]? with
    | some (.dct kvs) => some kvs
    | _ => none
  | _ => none
def idxD (x i : D) (c : Ct) : Res D := match i with
  | .int k => match x with
    | .str s => if s.length ≤ 100000 then ofO ((atI s.cps.toList k).map sigD) c else .stuck
    | x => match itsD x c with
      | some xs => ofO (atI xs k) c
      | none => .stuck
  | .str s => match dctD x c with
    | some kvs => ofO (kvD s kvs) c
    | none => .stuck
  | _ => .stuck
def cutD (xs : List D) (lo hi : Option Int) : List D := (xs.drop (HT.sIx xs.length 0 lo)).take (HT.sIx xs.length xs.length hi - HT.sIx xs.length 0 lo)
def isL : D → Bool
  | .lst _ => true
  | .scr _ => true
  | .ref _ => true
  | _ => false
def slcD (x : D) (lo hi : Option Int) (c : Ct) : Res D := match x with
  | .str s => if s.length ≤ 100000 then .ok (.str (cutS s lo hi)) c else .stuck
  | x => match itsD x c with
    | some xs => if isL x then .ok (.lst (cutD xs lo hi)) c else .stuck
    | none => .stuck
def blsD : List D → Option (List Bool)
  | [] => some []
  | .bl b :: r => (blsD r).map (b :: ·)
  | _ => none
def intsD : List D → Option (List Int)
  | [] => some []
  | .int b :: r => (intsD r).map (b :: ·)
  | _ => none
/-- the class of a thing, for isinstance against built-in classes -/
def tyD (x : D) (c : Ct) : Option String := match x with
  | .non => some "NoneType"
  | .bl _ => some "bool"
  | .int _ => some "int"
  | .str _ => some "str"
  | .tup _ => some "tuple"
  | .lst _ => some "list"
  | .scr _ => some "list"
  | .dct _ => some "dict"
  | .ref n => match c[n]? with
    | some (.lst _) => some "list"
    | some (.dct _) => some "dict"
    | _ => none
  | _ => none
def tysD : List D → Bool
  | [] => true
  | .ty _ :: r => tysD r
  | _ => false
def anyB (t : String) : List D → Option Bool
  | [] => some false
  | .ty n :: r => match kitB t n with
    | some true => if tysD r = true then some true else none
    | some false => anyB t r
    | none => none
  | _ => none
def isiD (x : D) (k : D) (c : Ct) : Res D := match tyD x c, k with
  | some t, .ty n => match kitB t n with
    | some b => .ok (.bl b) c
    | none => .stuck
  | some t, .tup ks => match anyB t ks with
    | some b => .ok (.bl b) c
    | none => .stuck
  | _, _ => .stuck
def strsD : List D → Option (List Str)
  | [] => some []
  | .str b :: r => (strsD r).map (b :: ·)
  | _ => none
def leI (a b : Int) : Bool := decide (a ≤ b)
/-- the order of texts -/
def leS (a b : Str) : Bool := !decide (b.cps.toList < a.cps.toList)
def sortD (x : D) (c : Ct) : Option (List D) := match itsD x c with
  | some xs => if isL x = true then (match intsD xs with
    | some ns => some ((ns.mergeSort leI).map .int)
    | none => match strsD xs with
      | some ss => if ss.length < 64 then some ((ss.mergeSort leS).map .str) else none
      | none => none) else none
  | none => none
def bltD (f : Blt) (as : List D) (c : Ct) : Res D := match f, as with
  | .len, [x] => match x with
    | .str s => if s.length ≤ 100000 then .ok (.int (s.length : Int)) c else .stuck
    | x => match itsD x c with
      | some xs => .ok (.int (xs.length : Int)) c
      | none => .stuck
  | .list, [x] => match itsD x c with
    | some xs => .ok (.lst xs) c
    | none => .stuck
  | .listM, [x] => match itsD x c with
    | some xs => newL true xs c
    | none => .stuck
  | .tuple, [x] => match itsD x c with
    | some xs => .ok (.tup xs) c
    | none => .stuck
  | .abs, [.int i] => .ok (.int (if i < 0 then -i else i)) c
  | .all, [x] => match (itsD x c).bind blsD with
    | some bs => if isL x then .ok (.bl (bs.all id)) c else .stuck
    | none => .stuck
  | .any, [x] => match (itsD x c).bind blsD with
    | some bs => if isL x then .ok (.bl (bs.any id)) c else .stuck
    | none => .stuck
  | .sum, [x] => match (itsD x c).bind intsD with
    | some bs => if isL x then .ok (.int bs.sum) c else .stuck
    | none => .stuck
  | .isi, [x, k] => isiD x k c
  | .max, [.int i, .int j] => .ok (.int (if j > i then j else i)) c
  | .min, [.int i, .int j] => .ok (.int (if j < i then j else i)) c
  | .int, [.int i] => .ok (.int i) c
  | .int, [.bl b] => .ok (.int (if b = true then 1 else 0)) c
  | .sorted, [x] => match sortD x c with
    | some xs => .ok (.lst xs) c
    | none => .stuck
  | .sortedM, [x] => match sortD x c with
    | some xs => newL true xs c
    | none => .stuck
  | .str, [.int i] => if i.natAbs < 2 ^ 64 then .ok (.str (toString i)) c else .stuck
  | _, _ => .stuck
/-- the first place of an equal one -/
def placeP (a : PyData) : List PyData → Nat → Option Nat
  | [], _ => none
  | z :: r, n => if PyData.eqv z a = true then some n else placeP a r (n + 1)
def countI (i : Int) : List D → Option Nat
  | [] => some 0
  | .int j :: r => (countI i r).map fun n => if j = i then n + 1 else n
  | _ => none
def mthD (m : Mth) (x : D) (as : List D) (c : Ct) : Res D := match m, as with
  | .append, [d] => match x with
    | .ref n => match c[n]? with
      | some (.lst xs) => if xs.length < 100000 then .ok .non (c.set n (.lst (xs ++ [d]))) else .stuck
      | _ => .stuck
    | _ => .stuck
  | .extend, [d] => match x with
    | .ref n => match c[n]? with
      | some (.lst xs) => match lstD d c with
        | some ys => if xs.length + ys.length < 100000 then .ok .non (c.set n (.lst (xs ++ ys))) else .stuck
        | none => .stuck
      | _ => .stuck
    | _ => .stuck
  | .insert, [.int i, d] => match x with
    | .ref n => match c[n]? with
      | some (.lst xs) => if xs.length < 100000 ∧ 0 ≤ i ∧ i < 2 ^ 62 then .ok .non (c.set n (.lst (xs.take i.toNat ++ [d] ++ xs.drop i.toNat))) else .stuck
      | _ => .stuck
    | _ => .stuck
  | .clear, [] => match x with
    | .ref n => match c[n]? with
      | some (.lst xs) => .ok .non (c.set n (.lst []))
      | _ => .stuck
    | _ => .stuck
  | .reverse, [] => match x with
    | .ref n => match c[n]? with
      | some (.lst xs) => .ok .non (c.set n (.lst xs.reverse))
      | _ => .stuck
    | _ => .stuck
  | .index, [d] => match toP 9 x c, toP 9 d c with
    | some (.list zs), some a => if SeqAt.shaped a = true ∧ SeqAt.shaped (.list zs) = true then (match placeP a zs 0 with
      | some j => .ok (.int (j : Int)) c
      | none => .stuck) else .stuck
    | _, _ => .stuck
  | _, _ => .stuck

def intO (x : D) (c : Ct) : Res (Option Int) := match x with
  | .int i => .ok (some i) c
  | _ => .stuck

/-! ### freezing -/
def frzL (f : D → Ct → Option (D × Ct)) : List D → Ct → Option (List D × Ct)
  | [], c => some ([], c)
  | d :: ds, c => (f d c).bind fun (e, c) => (frzL f ds c).map fun (es, c) => (e :: es, c)
def frzF (f : D → Ct → Option (D × Ct)) : List (Str × D) → Ct → Option (List (Str × D) × Ct)
  | [], c => some ([], c)
  | (x, d) :: ds, c => (f d c).bind fun (e, c) => (frzF f ds c).map fun (es, c) => ((x, e) :: es, c)
def frzD : Nat → D → Ct → Option (D × Ct)
  | 0, d, c => if rLt 0 d = true then some (d, c) else none
  | k + 1, d, c => if rLt 0 d = true then some (d, c) else match d with
    | .ref n => match c[n]? with
      | some (.lst xs) => (frzL (frzD k) xs (c.set n .dead)).map fun (ys, c) => (.lst ys, c)
      | some (.ins C fs) => (frzF (frzD k) fs (c.set n .dead)).map fun (ys, c) => (.ins C ys, c)
      | _ => none
    | .tup xs => (frzL (frzD k) xs c).map fun (ys, c) => (.tup ys, c)
    | .lst xs => (frzL (frzD k) xs c).map fun (ys, c) => (.lst ys, c)
    | _ => none

/-! ### running -/
def arrD {α : Type} (k : Cst → α) (xs : List α) : List Src → Option (List α)
  | [] => some []
  | .arg i :: r => (xs[i]?).bind fun x => (arrD k xs r).map (x :: ·)
  | .dfl c :: r => (arrD k xs r).map (k c :: ·)
inductive Fl where
  | nx (sl : Sl) | rt (d : D) (sl : Sl) | bk (sl : Sl) | ct (sl : Sl) | ex (x : XD) (sl : Sl)
inductive RS where
  | ok (f : Fl) (c : Ct) | stuck
abbrev CallF := Nat → List D → Ct → Res D
mutual
/-- stores; none: it does not fit -/
def asT : IT → D → Sl → Option Sl
  | .nm i, d, sl => some (sl.set i (some d))
  | .tp ts, .tup ds, sl => asTs ts ds sl
  | .tp _, _, _ => none
def asTs : List IT → List D → Sl → Option Sl
  | [], [], sl => some sl
  | t :: ts, d :: ds, sl => (asT t d sl).bind fun sl => asTs ts ds sl
  | _, _, _ => none
end
def wipeD (sl : Sl) : List Nat → Sl
  | [] => sl
  | v :: vs => (wipeD sl vs).set v none
/-- a comprehension's turns -/
def compR (tg : D → Sl → Option Sl) (q : Sl → Ct → Res Bool) (f : Sl → Ct → Res D) (sl : Sl) : List D → Ct → Res (List D)
  | [], c => .ok [] c
  | d :: ds, c => match tg d sl with
    | none => .stuck
    | some sl' => match q sl' c with
      | .ok false c => compR tg q f sl ds c
      | .ok true c => match f sl' c with
        | .ok e c => match compR tg q f sl ds c with
          | .ok es c => .ok (e :: es) c
          | _ => .stuck
        | _ => .stuck
      | _ => .stuck
def rngD (lo : Int) (n : Nat) : List D := (List.range n).map fun (i : Nat) => D.int (lo + (i : Int))
def small (i : Int) : Prop := -(2 ^ 62) ≤ i ∧ i < 2 ^ 62
instance (i : Int) : Decidable (small i) := inferInstanceAs (Decidable (_ ∧ _))
/-- as a test, or as a value -/
def truK (x : D) (c : Ct) : Res D := bnd (truD x c) fun b c => .ok (.bl b) c
def tst (tm : Bool) (r : Res D) : Res D := if tm = true then bnd r truK else r
@[simp] theorem tst_f (r : Res D) : tst false r = r := rfl
@[simp] theorem tst_t (r : Res D) : tst true r = bnd r truK := rfl
def bolK (x : D) (c : Ct) : Res Bool := match x with
  | .bl b => .ok b c
  | _ => .stuck
def chnK (o o' : COp) (x y : D) (fe : Ct → Res D) (c : Ct) : Res D := bnd (cmpD o x y c) fun r c => match r with
  | .bl true => bnd (fe c) fun z c => cmpD o' y z c
  | .bl false => .ok (.bl false) c
  | _ => .stuck
def andK (x : D) (fb : Ct → Res D) (c : Ct) : Res D := match x with
  | .bl true => fb c
  | .bl false => .ok (.bl false) c
  | _ => .stuck
def orK (x : D) (fb : Ct → Res D) (c : Ct) : Res D := match x with
  | .bl false => fb c
  | .bl true => .ok (.bl true) c
  | _ => .stuck
def notK (x : D) (c : Ct) : Res D := match x with
  | .bl b => .ok (.bl (!b)) c
  | _ => .stuck
def ifK (k : Bool) (fa fb : Ct → Res D) (c : Ct) : Res D := if k = true then fa c else fb c
def tupK (ds : List D) (c : Ct) : Res D := if ds.length ≤ 1000 then .ok (.tup ds) c else .stuck
def lstK (mu : Bool) (ds : List D) (c : Ct) : Res D := if ds.length ≤ 1000 then newL mu ds c else .stuck
def mkD (mu : Bool) (es : List D) (c : Ct) : Res D := if es.length ≤ 100000 then newL mu es c else .stuck
def compK (mu : Bool) (t : IT) (fq : Sl → Ct → Res Bool) (fe : Sl → Ct → Res D) (slw : Sl) (its : List D) (c : Ct) : Res D := match compR (asT t) fq fe slw its c with
  | .ok es c => mkD mu es c
  | _ => .stuck
def frzK (k : Nat) (x : D) (c : Ct) : Res D := match frzD k x c with
  | some (y, c) => .ok y c
  | none => .stuck
def fzK (fz : Bool) (x : D) (c : Ct) : Res D := if fz = true then frzK 9 x c else .ok x c
/-- a call's answer, made to stand still where the caller wants it -/
noncomputable def retK (fz : Bool) (c : Ct) (r : Res D) : Res D := if fz = true then gcK c (bnd r (frzK 9)) else r
noncomputable def callK (fz : Bool) (call : CallF) (f : Nat) (src : List Src) (ds zs : List D) (c : Ct) : Res D := match arrD Cst.d (ds ++ zs) src with
  | some as => retK fz c (call f as c)
  | none => .stuck
def insD (x : D) (c : Ct) : Option (Str × List (Str × D)) := match x with
  | .ins C fs => some (C, fs)
  | .ref n => match c[n]? with
    | some (.ins C fs) => some (C, fs)
    | _ => none
  | _ => none
def fldD (C f : Str) (x : D) (c : Ct) : Res D := match insD x c with
  | some (C', fs) => if C' = C then ofO (fs.lookup f) c else .stuck
  | none => .stuck
/-- a new instance -/
noncomputable def mkK (fz : Bool) (call : CallF) (C : Str) (f : Nat) (src : List Src) (ds zs : List D) (c : Ct) : Res D := match arrD Cst.d (.ref c.length :: (ds ++ zs)) src with
  | some as => gcK c (bnd (call f as (c ++ [.ins C []])) fun v c' => match v with
    | .non => fzK fz (.ref c.length) c'
    | _ => .stuck)
  | none => .stuck
/-- an own method of it, not an attribute -/
def okInsD (C m : Str) (x : D) (c : Ct) (r : Res D) : Res D := match insD x c with
  | some (C', fs) => if C' = C ∧ fs.lookup m = none then r else .stuck
  | none => .stuck
def okLstD (x : D) (c : Ct) (r : Res D) : Res D := if (lstD x c).isSome = true then r else .stuck
noncomputable def mthK (fz : Bool) (call : CallF) (f : Nat) (src : List Src) (x : D) (ds zs : List D) (c : Ct) : Res D := match arrD Cst.d (x :: (ds ++ zs)) src with
  | some as => retK fz c (call f as c)
  | none => .stuck
def len1K (call : CallF) (C : Str) (f : Nat) (x : D) (c : Ct) : Res D := match insD x c with
  | some (C', _) => if C' = C then (match call f [x] c with
    | .ok (.int i) c => if 0 ≤ i ∧ i < 2 ^ 62 then .ok (.int i) c else .stuck
    | _ => .stuck) else .stuck
  | none => .stuck
def dspK (ks : List Str) (ds : List D) (c : Ct) : Res D := if ks.length = ds.length ∧ ks.length ≤ 15 ∧ ks.Nodup then .ok (.dct ((ks.map .str).zip ds)) c else .stuck
def varK (o : Option (Option D)) (c : Ct) : Res D := match o with
  | some (some d) => .ok d c
  | _ => .stuck
def seqD (x : D) (c : Ct) : Res (List D) := match x with
  | .lst xs => .ok xs c
  | .scr xs => .ok xs c
  | .tup xs => .ok xs c
  | .str s => .ok (s.cps.toList.map sigD) c
  | _ => .stuck
/-- what stands still while it is walked: lists that are not to change, tuples -/
def seqsD : List D → Option (List (List D))
  | [] => some []
  | .lst xs :: r => (seqsD r).map (xs :: ·)
  | .tup xs :: r => (seqsD r).map (xs :: ·)
  | _ => none
def enumD (xs : List D) (i : Nat) : List D := match xs with
  | [] => []
  | x :: r => .tup [.int (i : Int), x] :: enumD r (i + 1)
def enumK (x : D) (c : Ct) : Res (List D) := match x with
  | .lst xs => .ok (enumD xs 0) c
  | _ => .stuck
/-- the rows of lists of one length -/
def rowsD (n : Nat) (xss : List (List D)) : List D := (List.range n).map fun i => .tup (xss.map fun xs => xs.getD i .non)
def zipK (ds : List D) (c : Ct) : Res (List D) := match seqsD ds with
  | some (xs :: r) => if r.all (fun ys => ys.length == xs.length) = true ∧ r ≠ [] ∧ r.length ≤ 3 then .ok (rowsD xs.length (xs :: r)) c else .stuck
  | _ => .stuck
def lrngK (mu : Bool) (ds : List D) (c : Ct) : Res D := match ds with
  | [.int j] => if j ≤ 10000 ∧ -10000 ≤ j then newL mu (rngD 0 j.toNat) c else .stuck
  | [.int i, .int j] => if j ≤ 10000 ∧ -10000 ≤ j ∧ -10000 ≤ i ∧ i ≤ 10000 then newL mu (rngD i (j - i).toNat) c else .stuck
  | _ => .stuck
def rng1K (x : D) (c : Ct) : Res (List D) := match x with
  | .int j => if small j then .ok (rngD 0 j.toNat) c else .stuck
  | _ => .stuck
def rng2K (x y : D) (c : Ct) : Res (List D) := match x, y with
  | .int i, .int j => if small i ∧ small j then .ok (rngD i (j - i).toNat) c else .stuck
  | _, _ => .stuck
section
variable (call : CallF)
mutual
noncomputable def evM : Bool → IE → Sl → Ct → Res D
  | tm, .var i, sl, c => tst tm (varK sl[i]? c)
  | tm, .cst k, _, c => tst tm (.ok k.d c)
  | tm, .typ n, _, c => tst tm (.ok (.ty n) c)
  | tm, .bin mu o a b, sl, c => tst tm (bnd (evM false a sl c) fun x c => bnd (evM false b sl c) fun y c => binD mu o x y c)
  | _, .cmp o a b, sl, c => bnd (evM false a sl c) fun x c => bnd (evM false b sl c) fun y c => cmpD o x y c
  | _, .chn o o' a b e, sl, c => bnd (evM false a sl c) fun x c => bnd (evM false b sl c) fun y c => chnK o o' x y (evM false e sl) c
  | tm, .and a b, sl, c => bnd (evM tm a sl c) fun x c => andK x (evM tm b sl) c
  | tm, .or a b, sl, c => bnd (evM tm a sl c) fun x c => orK x (evM tm b sl) c
  | tm, .not a, sl, c => bnd (evM tm a sl c) notK
  | tm, .ifx q a b, sl, c => tst tm (bnd (bnd (evM true q sl c) bolK) fun k c => ifK k (evM false a sl) (evM false b sl) c)
  | tm, .tup es, sl, c => tst tm (bnd (evA es sl c) tupK)
  | tm, .lst mu es, sl, c => tst tm (bnd (evA es sl c) (lstK mu))
  | tm, .idx a b, sl, c => tst tm (bnd (evM false a sl c) fun x c => bnd (evM false b sl c) fun y c => idxD x y c)
  | tm, .slc a lo hi, sl, c => tst tm (bnd (evM false a sl c) fun x c => bnd (evO lo sl c) fun l c => bnd (evO hi sl c) fun h c => slcD x l h c)
  | tm, .call fz f _ src es kes, sl, c => tst tm (bnd (evA es sl c) fun ds c => bnd (evA kes sl c) fun zs c => callK fz call f src ds zs c)
  | tm, .blt f es, sl, c => tst tm (bnd (evA es sl c) fun ds c => bltD f ds c)
  | tm, .comp mu own t s q e, sl, c => tst tm (bnd (evI s sl c) fun its c => compK mu t (fun sl c => bnd (evM true q sl c) bolK) (evM false e) (wipeD sl own) its c)
  | tm, .frz k e, sl, c => tst tm (bnd (evM false e sl c) (frzK k))
  | tm, .fld C f a, sl, c => tst tm (bnd (evM false a sl c) (fldD C f))
  | tm, .mk fz C f _ src es kes, sl, c => tst tm (bnd (evA es sl c) fun ds c => bnd (evA kes sl c) fun zs c => mkK fz call C f src ds zs c)
  | tm, .mth fz C m f _ src a es kes, sl, c => tst tm (bnd (evM false a sl c) fun x c => okInsD C m x c (bnd (evA es sl c) fun ds c => bnd (evA kes sl c) fun zs c => mthK fz call f src x ds zs c))
  | tm, .bm m a es, sl, c => tst tm (bnd (evM false a sl c) fun x c => okLstD x c (bnd (evA es sl c) fun ds c => mthD m x ds c))
  | tm, .lrng1 mu a, sl, c => tst tm (bnd (evM false a sl c) fun x c => lrngK mu [x] c)
  | tm, .lrng2 mu a b, sl, c => tst tm (bnd (evM false a sl c) fun x c => bnd (evM false b sl c) fun y c => lrngK mu [x, y] c)
  | tm, .dsp ks es, sl, c => tst tm (bnd (evA es sl c) (dspK ks))
  | tm, .len1 C f a, sl, c => tst tm (bnd (evM false a sl c) (len1K call C f))
noncomputable def evO : IO → Sl → Ct → Res (Option Int)
  | .no, _, c => .ok none c
  | .so e, sl, c => bnd (evM false e sl c) intO
noncomputable def evA : IEs → Sl → Ct → Res (List D)
  | .nil, _, c => .ok [] c
  | .cons e es, sl, c => bnd (evM false e sl c) fun x c => bnd (evA es sl c) fun xs c => .ok (x :: xs) c
/-- the items that are walked -/
noncomputable def evI : II → Sl → Ct → Res (List D)
  | .seq e, sl, c => bnd (evM false e sl c) seqD
  | .rng1 a, sl, c => bnd (evM false a sl c) rng1K
  | .rng2 a b, sl, c => bnd (evM false a sl c) fun x c => bnd (evM false b sl c) fun y c => rng2K x y c
  | .enum a, sl, c => bnd (evM false a sl c) enumK
  | .zip _ es, sl, c => bnd (evA es sl c) zipK
end
noncomputable abbrev evE : IE → Sl → Ct → Res D := evM call false
noncomputable def evT (i : IE) (sl : Sl) (c : Ct) : Res Bool := bnd (evM call true i sl c) bolK
end

/-! ### statements -/
def ofR {α : Type} (r : Res α) (sl : Sl) (k : α → Ct → RS) : RS := match r with
  | .ok a c => k a c
  | .exc x c => .ok (.ex x sl) c
  | .stuck => .stuck
@[simp] theorem ofR_ok {α : Type} (a : α) (c : Ct) (sl : Sl) (k : α → Ct → RS) : ofR (.ok a c) sl k = k a c := rfl
@[simp] theorem ofR_exc {α : Type} (x : XD) (c : Ct) (sl : Sl) (k : α → Ct → RS) : ofR (.exc x c : Res α) sl k = .ok (.ex x sl) c := rfl
@[simp] theorem ofR_stuck {α : Type} (sl : Sl) (k : α → Ct → RS) : ofR (.stuck : Res α) sl k = .stuck := rfl
def forR (tg : D → Sl → Option Sl) (b : Sl → Ct → RS) : List D → Sl → Ct → RS
  | [], sl, c => .ok (.nx sl) c
  | d :: ds, sl, c => match tg d sl with
    | none => .stuck
    | some sl' => match b sl' c with
      | .ok (.nx s) c => forR tg b ds s c
      | .ok (.ct s) c => forR tg b ds s c
      | .ok (.bk s) c => .ok (.nx s) c
      | .ok (.rt d s) c => .ok (.rt d s) c
      | .ok (.ex x s) c => .ok (.ex x s) c
      | .stuck => .stuck
def whN (q : Sl → Ct → Res Bool) (b : Sl → Ct → RS) : Nat → Sl → Ct → Option RS
  | 0, _, _ => none
  | n + 1, sl, c => match q sl c with
    | .ok false c => some (.ok (.nx sl) c)
    | .ok true c => match b sl c with
      | .ok (.nx s) c => whN q b n s c
      | .ok (.ct s) c => whN q b n s c
      | .ok (.bk s) c => some (.ok (.nx s) c)
      | .ok (.rt d s) c => some (.ok (.rt d s) c)
      | .ok (.ex x s) c => some (.ok (.ex x s) c)
      | .stuck => some .stuck
    | .exc x c => some (.ok (.ex x sl) c)
    | .stuck => some .stuck
theorem whN_more {q : Sl → Ct → Res Bool} {b : Sl → Ct → RS} : ∀ {n m : Nat} {sl : Sl} {c : Ct} {r : RS}, whN q b n sl c = some r → n ≤ m → whN q b m sl c = some r
  | 0, _, _, _, _, h, _ => by cases h
  | n + 1, 0, _, _, _, _, h => by omega
  | n + 1, m + 1, sl, c, r, h, hl => by
    rw [whN] at h ⊢
    cases e : q sl c with
    | stuck => rw [e] at h; exact h
    | exc x c => rw [e] at h; exact h
    | ok k c =>
      rw [e] at h
      cases k with
      | false => exact h
      | true =>
        simp only at h ⊢
        cases e2 : b sl c with
        | stuck => rw [e2] at h; exact h
        | ok f c =>
          rw [e2] at h
          cases f with
          | nx s => exact whN_more (n := n) h (by omega)
          | ct s => exact whN_more (n := n) h (by omega)
          | bk s => exact h
          | rt d s => exact h
          | ex x s => exact h
open Classical in
noncomputable def whR (q : Sl → Ct → Res Bool) (b : Sl → Ct → RS) (sl : Sl) (c : Ct) : RS := if h : ∃ n r, whN q b n sl c = some r then h.choose_spec.choose else .stuck
theorem whR_of {q : Sl → Ct → Res Bool} {b : Sl → Ct → RS} {n : Nat} {sl : Sl} {c : Ct} {r : RS} (h : whN q b n sl c = some r) : whR q b sl c = r := by
  have hx : ∃ n r, whN q b n sl c = some r := ⟨n, r, h⟩
  unfold whR
  rw [dif_pos hx]
  have h2 := hx.choose_spec.choose_spec
  have h3 := whN_more h2 (Nat.le_max_left hx.choose n)
  have h4 := whN_more h (Nat.le_max_right hx.choose n)
  rw [h4] at h3
  exact (Option.some.inj h3).symm
theorem whR_get {q : Sl → Ct → Res Bool} {b : Sl → Ct → RS} {sl : Sl} {c : Ct} (h : whR q b sl c ≠ .stuck) : ∃ n, whN q b n sl c = some (whR q b sl c) := by
  by_cases hx : ∃ n r, whN q b n sl c = some r
  · obtain ⟨n, r, e⟩ := hx
    exact ⟨n, by rw [whR_of e]; exact e⟩
  · unfold whR at h
    rw [dif_neg hx] at h
    exact absurd rfl h
/-- the unfolding -/
theorem whR_eq (q : Sl → Ct → Res Bool) (b : Sl → Ct → RS) (sl : Sl) (c : Ct) : whR q b sl c = match q sl c with
    | .ok false c => .ok (.nx sl) c
    | .ok true c => match b sl c with
      | .ok (.nx s) c => whR q b s c
      | .ok (.ct s) c => whR q b s c
      | .ok (.bk s) c => .ok (.nx s) c
      | .ok (.rt d s) c => .ok (.rt d s) c
      | .ok (.ex x s) c => .ok (.ex x s) c
      | .stuck => .stuck
    | .exc x c => .ok (.ex x sl) c
    | .stuck => .stuck := by
  have one : ∀ {r : RS}, whN q b 1 sl c = some r → whR q b sl c = r := fun h => whR_of h
  have more : ∀ {s : Sl} {c' : Ct}, (∀ n, whN q b (n + 1) sl c = whN q b n s c') → whR q b sl c = whR q b s c' := fun {s c'} h => by
    by_cases hx : ∃ n r, whN q b n s c' = some r
    · obtain ⟨n, r, e⟩ := hx
      rw [whR_of e]
      exact whR_of (n := n + 1) (by rw [h]; exact e)
    · have hy : ¬ ∃ n r, whN q b n sl c = some r := fun ⟨n, r, e⟩ => by
        cases n with
        | zero => cases e
        | succ n => rw [h] at e; exact hx ⟨n, r, e⟩
      unfold whR
      rw [dif_neg hx, dif_neg hy]
  cases e : q sl c with
  | stuck => exact one (by rw [whN, e])
  | exc x c => exact one (by rw [whN, e])
  | ok k c' =>
    cases k with
    | false => exact one (by rw [whN, e])
    | true =>
      simp only
      cases e2 : b sl c' with
      | stuck => exact one (by rw [whN, e]; simp only [e2])
      | ok f c2 =>
        cases f with
        | nx s => exact more fun n => by rw [whN, e]; simp only [e2]
        | ct s => exact more fun n => by rw [whN, e]; simp only [e2]
        | bk s => exact one (by rw [whN, e]; simp only [e2])
        | rt d s => exact one (by rw [whN, e]; simp only [e2])
        | ex x s => exact one (by rw [whN, e]; simp only [e2])
/-- in place, of ints and texts -/
def augD (o : BOp) (x y : D) (c : Ct) : Res D := match x, y with
  | .int i, .int j => if o = .pow then .stuck else binI o i j c
  | .str a, .str b => if o = .add ∧ a.length + b.length ≤ 100000 then .ok (.str (a ++ b)) c else .stuck
  | _, _ => .stuck
/-- xs[i], a changing list's -/
def getA (x i : D) (c : Ct) : Res D := match x, i with
  | .ref n, .int k => match c[n]? with
    | some (.lst xs) => if 0 ≤ k then ofO (xs[k.toNat]?) c else .stuck
    | _ => .stuck
  | _, _ => .stuck
def putD (o i d : D) (c : Ct) : Option Ct := match o, i with
  | .ref n, .int k => match c[n]? with
    | some (.lst xs) => (ixN xs.length k).map fun j => c.set n (.lst (xs.set j d))
    | _ => none
  | _, _ => none
def putF' (f : Str) (d : D) : List (Str × D) → List (Str × D)
  | [] => [(f, d)]
  | (g, e) :: r => if g = f then (f, d) :: r else (g, e) :: putF' f d r
/-- x.f = d -/
def stoD (C f : Str) (x d : D) (c : Ct) : Option Ct := match x with
  | .ref n => match c[n]? with
    | some (.ins C' fs) => if C' = C ∧ fs.length < 1000 then some (c.set n (.ins C (putF' f d fs))) else none
    | _ => none
  | _ => none
def xtD (t : XT) (d : D) (sl : Sl) (c : Ct) : Option (Sl × Ct) := match t with
  | .nm i => some (sl.set i (some d), c)
  | .fl i C f => match sl[i]? with
    | some (some x) => (stoD C f x d c).map fun c => (sl, c)
    | _ => none
def xtsD : List XT → List D → Sl → Ct → Option (Sl × Ct)
  | [], [], sl, c => some (sl, c)
  | t :: ts, d :: ds, sl, c => (xtD t d sl c).bind fun (sl, c) => xtsD ts ds sl c
  | _, _, _, _ => none
def stoK (ts : List XT) (sl : Sl) (d : D) (c : Ct) : RS := match ts with
  | [t] => match xtD t d sl c with
    | some (sl, c) => .ok (.nx sl) c
    | none => .stuck
  | ts => match d with
    | .tup ds => match xtsD ts ds sl c with
      | some (sl, c) => .ok (.nx sl) c
      | none => .stuck
    | _ => .stuck
/-- a new exception's fields -/
def flV {α : Type} (k : Cst → α) (xs : List α) : List (Str × Src) → Option (List (Str × α))
  | [] => some []
  | (f, .arg i) :: r => (xs[i]?).bind fun x => (flV k xs r).map ((f, x) :: ·)
  | (f, .dfl c) :: r => (flV k xs r).map ((f, k c) :: ·)
def hxV (x : XD) : HX → Option D
  | .fld f => x.fs.lookup f
  | .isi n => (x.sup.lookup n).map .bl
def hxVs (x : XD) : List HX → Option (List D)
  | [] => some []
  | h :: r => (hxV x h).bind fun d => (hxVs x r).map (d :: ·)
def rseK (C : Str) (n : Nat) (sup : List (Str × Bool)) (fl : List (Str × Src)) (sl : Sl) (ds : List D) (c : Ct) : RS := if ds.length = n then (match flV Cst.d ds fl with
  | some fs => .ok (.ex ⟨C, sup, fs.reverse⟩ sl) c
  | none => .stuck) else .stuck
def hdlK (i : Nat) (tg : Option Nat) (s : Sl) (c : Ct) (ds : List D) : RS := if i < s.length ∧ ds.length ≤ 1000 then (match tg with
    | none => .ok (.rt (.tup ds) s) c
    | some j => .ok (.nx ((s.set j (some (.tup ds))).set i none)) c) else .stuck
def tryK (D : Str) (i : Nat) (hx : List HX) (tg : Option Nat) (r : RS) : RS := match r with
  | .ok (.ex x s) c => match x.sup.lookup D with
    | some true => match hxVs x hx with
      | some ds => hdlK i tg s c ds
      | none => .stuck
    | some false => .ok (.ex x s) c
    | none => .stuck
  | r => r
section
variable (call : CallF)
mutual
noncomputable def evS : IS → Sl → Ct → RS
  | .asg t e, sl, c => ofR (evE call e sl c) sl fun d c => match asT t d sl with
    | some sl => .ok (.nx sl) c
    | none => .stuck
  | .par i j a b, sl, c => ofR (evE call a sl c) sl fun x c => ofR (evE call b sl c) sl fun y c => .ok (.nx ((sl.set i (some x)).set j (some y))) c
  | .put o i e, sl, c => ofR (evE call e sl c) sl fun d c => ofR (evE call o sl c) sl fun x c => ofR (evE call i sl c) sl fun y c => match putD x y d c with
    | some c => .ok (.nx sl) c
    | none => .stuck
  | .aug i o e, sl, c => match sl[i]? with
    | some (some x) => ofR (evE call e sl c) sl fun y c => ofR (augD o x y c) sl fun z c => .ok (.nx (sl.set i (some z))) c
    | _ => .stuck
  | .augI o i op e, sl, c => ofR (evE call o sl c) sl fun x c => ofR (evE call i sl c) sl fun y c => ofR (getA x y c) sl fun u c => ofR (evE call e sl c) sl fun v c => ofR (augD op u v c) sl fun z c => match putD x y z c with
    | some c => .ok (.nx sl) c
    | none => .stuck
  | .sto ts e, sl, c => ofR (evE call e sl c) sl (stoK ts sl)
  | .par3 i j k a b d, sl, c => ofR (evE call a sl c) sl fun x c => ofR (evE call b sl c) sl fun y c => ofR (evE call d sl c) sl fun z c => .ok (.nx (((sl.set i (some x)).set j (some y)).set k (some z))) c
  | .expr e, sl, c => ofR (evE call e sl c) sl fun _ c => .ok (.nx sl) c
  | .ret e, sl, c => ofR (evE call e sl c) sl fun d c => .ok (.rt d sl) c
  | .retN, sl, c => .ok (.rt .non sl) c
  | .ifs q a b, sl, c => ofR (evT call q sl c) sl fun k c => if k = true then evSs a sl c else evSs b sl c
  | .whl q b, sl, c => whR (evT call q) (evSs b) sl c
  | .for t s b, sl, c => ofR (evI call s sl c) sl fun its c => forR (asT t) (evSs b) its sl c
  | .pass, sl, c => .ok (.nx sl) c
  | .brk, sl, c => .ok (.bk sl) c
  | .cont, sl, c => .ok (.ct sl) c
  | .nev, _, _ => .stuck
  | .rse C n sup fl es, sl, c => ofR (evA call es sl c) sl (rseK C n sup fl sl)
  | .tryA b D i hx tg, sl, c => tryK D i hx tg (evSs b sl c)
noncomputable def evSs : ISs → Sl → Ct → RS
  | .nil, sl, c => .ok (.nx sl) c
  | .cons s r, sl, c => match evS s sl c with
    | .ok (.nx sl) c => evSs r sl c
    | .ok (.bk s) c => .ok (.bk s) c
    | .ok (.ct s) c => .ok (.ct s) c
    | .ok (.rt d s) c => .ok (.rt d s) c
    | .ok (.ex x s) c => .ok (.ex x s) c
    | .stuck => .stuck
end
end
/-- a def: how many parameters, how many names, its body -/
structure FD where
  ps : Nat
  n : Nat
  body : ISs
def fin : RS → Res D
  | .ok (.nx _) c => .ok .non c
  | .ok (.rt d _) c => .ok d c
  | .ok (.ex x _) c => .exc x c
  | _ => .stuck
def begin_ (n : Nat) (as : List D) : Sl := as.map some ++ List.replicate (n - as.length) none
noncomputable def runF (call : CallF) (fd : FD) (as : List D) (c : Ct) : Res D := if as.length = fd.ps then gcK c (fin (evSs call fd.body (begin_ fd.n as) c)) else .stuck
abbrev Tab := List (Nat × FD)
noncomputable def evF (T : Tab) : Nat → CallF
  | 0, _, _, _ => .stuck
  | k + 1, f, as, c => match T.lookup f with
    | none => .stuck
    | some fd => runF (evF T k) fd as c
end Hv

set_option Elab.async false
set_option linter.all false
set_option maxRecDepth 100000
set_option maxHeartbeats 2000000
/-! HvC: operators and built-ins: what the plain functions say holds of the machine. -/
namespace Hv
open PySem PySem.Spec PyProof.Rows L2

theorem _root_.L2.PE.weak {X : Cx} {e : Expr} {t t' : TE} (h : PE X e t) (k : ∀ σ H Q, t' σ H Q → t σ H Q) : PE X e t' := ⟨fun pins s σ H Q I q => h.run pins s σ H Q I (k _ _ _ q)⟩
theorem _root_.L2.PT.weak {X : Cx} {e : Expr} {t t' : TT} (h : PT X e t) (k : ∀ σ H Q, t' σ H Q → t σ H Q) : PT X e t' := ⟨fun pins s σ H Q I q => h.run pins s σ H Q I (k _ _ _ q)⟩
theorem _root_.L2.PA.weak {X : Cx} {es : List Expr} {t t' : TA} (h : PA X es t) (k : ∀ σ H Q, t' σ H Q → t σ H Q) : PA X es t' := ⟨fun pos pins s σ H Q I q => h.run pos pins s σ H Q I (k _ _ _ q)⟩
theorem _root_.L2.PS.weak {X : Cx} {e : Stmt} {t t' : TS} (h : PS X e t) (k : ∀ D σ H, t' D σ H → t D σ H) : PS X e t' := ⟨fun pins s σ H D I q => h.run pins s σ H D I (k _ _ _ q)⟩
theorem _root_.L2.PSs.weak {X : Cx} {e : List Stmt} {t t' : TS} (h : PSs X e t) (k : ∀ D σ H, t' D σ H → t D σ H) : PSs X e t' := ⟨fun pins s σ H D I q => h.run pins s σ H D I (k _ _ _ q)⟩

section
variable (K : PySem.W.Frag) (mg : Str → Option Value)
/-- an operation upon values, by a plain function -/
def rOp (g : D → D → Ct → Res D) : R2 := fun x y H Q => ∃ ω dx dy c W σ, Rel K mg ω c H ∧ R K mg ω dx x ∧ R K mg ω dy y ∧ Post K mg (R K mg) ω W σ (g dx dy c) Q
def rUn (g : D → Ct → Res D) : V → Hp → VK → Prop := fun x H Q => ∃ ω dx c W σ, Rel K mg ω c H ∧ R K mg ω dx x ∧ Post K mg (R K mg) ω W σ (g dx c) Q
def rAr (g : List D → Ct → Res D) : List V → Hp → VK → Prop := fun xs H Q => ∃ ω ds c W σ, Rel K mg ω c H ∧ Rs K mg ω ds xs ∧ Post K mg (R K mg) ω W σ (g ds c) Q
end
section
variable {X : Cx} {W : WX} {pos : Pos}
/-- a // b by a divisor that is not nought, below 2 ^ 9000 -/
theorem op_fdivX : OpR X (binaryOp .FloorDiv) (rI (fun _ j => j ≠ 0 ∧ j.natAbs.log2 < 9000) fun i j => .int (i.fdiv j)) := opI fun _ _ _ _ _ _ _ hc q => floordiv_int hc.1 q (.inl (PyProof.noPylong_of_log2 hc.2))
def opOf : BOp → Operator
  | .add => .Add | .sub => .Sub | .mul => .Mult | .fdiv => .FloorDiv | .mod => .Mod | .pow => .Pow
/-- a list that stands by itself, where it stands -/
theorem lst_of {K : PySem.W.Frag} {mg : Str → Option Value} {ω : Wd} {c : Ct} {H : Hp} {d : D} {x : V} {xs : List D} (rel : Rel K mg ω c H) (r : R K mg ω d x) (e : lstD d c = some xs) :
    ∃ a vs, x = .ref a ∧ Rs K mg ω xs vs ∧ H a = some (.lst vs) := by
  unfold lstD at e
  split at e
  · cases e
    cases r with
    | lst h r => exact ⟨_, _, rfl, r, rel.ext _ _ h⟩
  · split at e
    · rename_i n ys hc
      cases e
      cases r with
      | ref h =>
        obtain ⟨k1, k2⟩ := rel.live _ _ _ h hc (by intro z; cases z)
        unfold COk at k2
        split at k2
        · rename_i z; cases z
        · rename_i us vs z1 z2
          cases z1
          exact ⟨_, _, rfl, k2, z2⟩
        · rename_i z _; cases z
        · rename_i z _; cases z
        · rename_i z _; cases z
        · exact k2.elim
    · cases e
  · cases e
/-- a new list -/
theorem new_l {K : PySem.W.Frag} {mg : Str → Option Value} {ω : Wd} {c : Ct} {H : Hp} {W : WX} {σ : L2.St} {mu : Bool} {xs : List D} {vs : List V} {Q : VK} (rel : Rel K mg ω c H) (rs : Rs K mg ω xs vs) (p : Post K mg (R K mg) ω W σ (newL mu xs c) Q) : ∀ a, H a = none → Q (.ref a) (upd H a (.lst vs)) := fun a ha => by
  unfold newL at p
  cases mu with
  | true =>
    rw [if_pos rfl] at p
    obtain ⟨l, hm, rel'⟩ := rel.cell ha (o := .lst vs) (u := .lst xs) rs
    exact p.ok_le l rel' (.ref hm)
  | false =>
    rw [if_neg (by decide)] at p
    obtain ⟨l, rel'⟩ := rel.frozen ha (.lst vs)
    exact p.ok_le l rel' (.lst upd_same (rs.mono l.toLo))
theorem rs_rep {K : PySem.W.Frag} {mg : Str → Option Value} {ω : Wd} {xs : List D} {vs : List V} (r : Rs K mg ω xs vs) : ∀ n : Nat, Rs K mg ω (List.replicate n xs).flatten (List.replicate n vs).flatten
  | 0 => .nil
  | n + 1 => by
    rw [List.replicate_succ, List.replicate_succ, List.flatten_cons, List.flatten_cons]
    exact r.append (rs_rep r n)
theorem op_binI (o : BOp) {pins : List (Addr × Obj)} {σ : L2.St} {H : Hp} {s : Shared} {i j : Int} {v u : Value} {Q : VK} {ω : Wd} {c : Ct} {W : WX} {σ' : L2.St} (I : Inv X pins σ H s) (rv : RelV (.int i) v) (ru : RelV (.int j) u) (rel : Rel X.K X.mg ω c H) (p : Post X.K X.mg (R X.K X.mg) ω W σ' (binI o i j c) Q) :
    wpAny (model X.prog X.w) X.A (binaryOp (opOf o) v u) (EP X pins σ Q) X.xe s := by
  unfold binI at p
  cases o with
  | add => exact op_add pins s σ H _ _ v u Q I rv ru ⟨_, _, rfl, rfl, p.ok_of rel (.int _)⟩
  | sub => exact op_sub pins s σ H _ _ v u Q I rv ru ⟨_, _, rfl, rfl, p.ok_of rel (.int _)⟩
  | mul =>
    simp only at p
    split at p
    · rename_i h
      exact op_mulW pins s σ H _ _ v u Q I rv ru ⟨_, _, rfl, rfl, h, p.ok_of rel (.int _)⟩
    · exact p.elim
  | fdiv =>
    simp only at p
    split at p
    · rename_i h
      exact op_fdivX pins s σ H _ _ v u Q I rv ru ⟨_, _, rfl, rfl, h, p.ok_of rel (.int _)⟩
    · exact p.elim
  | mod =>
    simp only at p
    split at p
    · rename_i h
      exact op_modN pins s σ H _ _ v u Q I rv ru ⟨_, _, rfl, rfl, h, p.ok_of rel (.int _)⟩
    · exact p.elim
  | pow =>
    simp only at p
    split at p
    · rename_i h
      exact op_pow pins s σ H _ _ v u Q I rv ru ⟨_, _, rfl, rfl, h, p.ok_of rel (.int _)⟩
    · exact p.elim
theorem op_bin (mu : Bool) (o : BOp) : OpR X (binaryOp (opOf o)) (rOp X.K X.mg (binD mu o)) := by
  intro pins s σ H x y v u Q I rv ru ⟨ω, dx, dy, c, W, σ', rel, rx, ry, p⟩
  unfold binD at p
  split at p
  · cases rx; cases ry
    exact op_binI o I rv ru rel p
  · cases rx; cases ry
    split at p
    · rename_i h
      obtain ⟨rfl, h⟩ := h
      exact op_add_str pins s σ H _ _ v u Q I rv ru ⟨_, _, rfl, rfl, Nat.le_trans h (by rw [sizeLine_eq]; decide), p.ok_of rel (.str _)⟩
    · exact p.elim
  · cases ry
    split at p
    · rename_i h
      subst h
      unfold repD at p
      split at p
      · rename_i xs hx
        split at p
        · rename_i h
          obtain ⟨a, vs, rfl, rs, ha⟩ := lst_of rel rx hx
          exact op_rep pins s σ H _ _ v u Q I rv ru ⟨a, _, vs, rfl, rfl, ha, by omega, by omega, by rw [← rs.length]; exact Nat.le_trans h.2.2 (by rw [sizeLine_eq]; decide), new_l rel (rs_rep rs _) p⟩
        · exact p.elim
      · exact p.elim
    · exact p.elim
  · split at p
    · rename_i h
      subst h
      unfold catD at p
      split at p
      · rename_i xs ys hx hy
        split at p
        · rename_i h
          obtain ⟨a, vs, rfl, rs, ha⟩ := lst_of rel rx hx
          obtain ⟨b, us, rfl, rs2, hb⟩ := lst_of rel ry hy
          exact op_cat pins s σ H _ _ v u Q I rv ru ⟨a, b, vs, us, rfl, rfl, ha, hb, by rw [← rs.length, ← rs2.length]; exact Nat.le_trans h (by rw [sizeLine_eq]; decide), new_l rel (rs.append rs2) p⟩
        · exact p.elim
      · exact p.elim
    · exact p.elim
def copOf : COp → CmpOp
  | .lt => .Lt | .le => .LtE | .gt => .Gt | .ge => .GtE | .eq => .Eq | .ne => .NotEq | .is => .Is | .isn => .IsNot | .inn => .In | .nin => .NotIn
theorem eqD_scal {ω : Wd} {K : PySem.W.Frag} {mg : Str → Option Value} {dx dy : D} {x y : V} {b : Bool} (e : eqD dx dy = some b) (rx : R K mg ω dx x) (ry : R K mg ω dy y) : scal x y = true ∧ decide (x = y) = b := by
  unfold eqD at e
  split at e <;> first | (cases e; done) | (cases e; cases rx; cases ry; first | (constructor <;> simp [scal]; done) | (constructor; · rfl; · simp))
theorem isNon_v {ω : Wd} {K : PySem.W.Frag} {mg : Str → Option Value} {dx : D} {x : V} (rx : R K mg ω dx x) : decide (x = .non) = isNon dx := by
  cases rx <;> rfl
/-- the items of a list or a tuple, where it stands -/
theorem its_of {K : PySem.W.Frag} {mg : Str → Option Value} {ω : Wd} {c : Ct} {H : Hp} {d : D} {x : V} {xs : List D} (rel : Rel K mg ω c H) (r : R K mg ω d x) (e : itsD d c = some xs) :
    ∃ a vs, x = .ref a ∧ Rs K mg ω xs vs ∧ ((isL d = true ∧ SqL K H a vs) ∨ (isL d = false ∧ SqT K H a vs ∧ d = .tup xs)) := by
  unfold itsD at e
  split at e
  · cases e
    cases r with
    | lst h r => exact ⟨_, _, rfl, r, .inl ⟨rfl, .inl (.inl (rel.ext _ _ h))⟩⟩
  · cases e
    cases r with
    | scr h r => exact ⟨_, _, rfl, r, .inl ⟨rfl, sq_l rel.ext h⟩⟩
  · cases e
    cases r with
    | tup h r => exact ⟨_, _, rfl, r, .inr ⟨rfl, sq_t rel.ext h.sq, rfl⟩⟩
  · rename_i n
    split at e
    · rename_i ys hc
      cases e
      cases r with
      | ref h =>
        obtain ⟨k1, k2⟩ := rel.live _ _ _ h hc (by intro z; cases z)
        unfold COk at k2
        split at k2
        · rename_i z; cases z
        · rename_i us vs z1 z2
          cases z1
          exact ⟨_, _, rfl, k2, .inl ⟨rfl, .inl (.inl z2)⟩⟩
        · rename_i z _; cases z
        · rename_i z _; cases z
        · rename_i z _; cases z
        · exact k2.elim
    · cases e
  · cases e
theorem mapO_dp {K : PySem.W.Frag} {mg : Str → Option Value} {ω : Wd} {H : Hp} {f : D → Option PyData} (hf : ∀ d p v, f d = some p → R K mg ω d v → Dp K H v p) : ∀ (xs : List D) (ps : List PyData) (vs : List V), mapO f xs = some ps → Rs K mg ω xs vs → DpAll K H vs ps
  | [], ps, vs, e, r => by cases e; cases r; exact .nil
  | d :: ds, ps, vs, e, r => by
    unfold mapO at e
    cases e1 : f d with
    | none => rw [e1] at e; cases e
    | some p =>
      cases e2 : mapO f ds with
      | none => rw [e1, e2] at e; cases e
      | some qs =>
        rw [e1, e2] at e
        cases e
        cases r with
        | cons r rs => exact .cons (hf _ _ _ e1 r) (mapO_dp hf ds qs _ e2 rs)
theorem toP_ok {K : PySem.W.Frag} {mg : Str → Option Value} {ω : Wd} {c : Ct} {H : Hp} (rel : Rel K mg ω c H) : ∀ (k : Nat) (d : D) (p : PyData) (v : V), toP k d c = some p → R K mg ω d v → Dp K H v p := by
  intro k
  induction k with
  | zero =>
    intro d p v e r
    cases d <;> first | (cases e; done) | (cases e; cases r; first | exact .non | exact .bl _ | exact .int _ | exact .str _)
  | succ k ih =>
    intro d p v e r
    have go : ∀ {xs : List D} {f : List PyData → PyData}, (mapO (fun d => toP k d c) xs).map f = some p → ∃ ps, mapO (fun d => toP k d c) xs = some ps ∧ p = f ps := fun {xs f} h => by
      cases q : mapO (fun d => toP k d c) xs with
      | none => rw [q] at h; cases h
      | some ps => rw [q] at h; cases h; exact ⟨ps, rfl, rfl⟩
    cases d with
    | tup xs =>
      obtain ⟨ps, e1, rfl⟩ := go (show (mapO (fun d => toP k d c) xs).map PyData.tuple = some p from e)
      cases r with
      | tup h rs => exact .tup (sq_t rel.ext h.sq) (mapO_dp (fun d p v => ih d p v) _ _ _ e1 rs)
    | lst xs =>
      obtain ⟨ps, e1, rfl⟩ := go (show (mapO (fun d => toP k d c) xs).map PyData.list = some p from e)
      cases r with
      | lst h rs => exact .lst (.inl (.inl (rel.ext _ _ h))) (mapO_dp (fun d p v => ih d p v) _ _ _ e1 rs)
    | scr xs =>
      obtain ⟨ps, e1, rfl⟩ := go (show (mapO (fun d => toP k d c) xs).map PyData.list = some p from e)
      cases r with
      | scr h rs => exact .lst (sq_l rel.ext h) (mapO_dp (fun d p v => ih d p v) _ _ _ e1 rs)
    | ref n =>
      have e : (match c[n]? with | some (.lst xs) => (mapO (fun d => toP k d c) xs).map PyData.list | _ => none) = some p := e
      cases hc : c[n]? with
      | none => rw [hc] at e; cases e
      | some u =>
        rw [hc] at e
        cases u with
        | lst xs =>
          obtain ⟨ps, e1, rfl⟩ := go e
          obtain ⟨a, vs, rfl, rs, h⟩ := its_of rel r (show itsD (.ref n) c = some xs by dsimp only [itsD]; rw [hc])
          rcases h with ⟨_, h⟩ | ⟨z, _⟩
          · exact .lst h (mapO_dp (fun d p v => ih d p v) _ _ _ e1 rs)
          · cases z
        | dead => cases e
        | ins _ _ => cases e
        | dct _ => cases e
    | non => cases e; cases r; exact .non
    | bl _ => cases e; cases r; exact .bl _
    | int _ => cases e; cases r; exact .int _
    | str _ => cases e; cases r; exact .str _
    | ty _ => cases e
    | ins _ _ => cases e
    | dct _ => cases e
    | glo _ => cases e
theorem inD_sign {a : Str} {k : Nat} (h : a.cps.toList = [k]) : a = ⟨#[k]⟩ := by
  obtain ⟨cps⟩ := a
  have : cps = #[k] := by rw [← Array.toArray_toList (xs := cps), show cps.toList = [k] from h]
  rw [this]
theorem op_in (hu : X.A.units + 65 < cLine) (neg : Bool) {pins : List (Addr × Obj)} {σ : L2.St} {H : Hp} {s : Shared} {x y : V} {v u : Value} {Q : VK} {ω : Wd} {dx dy : D} {c : Ct} {b : Bool} (I : Inv X pins σ H s) (rv : RelV x v) (ru : RelV y u) (rel : Rel X.K X.mg ω c H) (rx : R X.K X.mg ω dx x) (ry : R X.K X.mg ω dy y) (e : inD dx dy c = some b) (q : Q (.bl (if neg = true then !b else b)) H) :
    wpAny (model X.prog X.w) X.A (compareOp (if neg = true then .NotIn else .In) v u) (EP X pins σ Q) X.xe s := by
  have fin : ∀ {a : PyData} {bs : List PyData}, toP 9 dx c = some a → toP 9 dy c = some (.list bs) → SeqAt.shaped a = true ∧ SeqAt.shaped (.list bs) = true → b = (bs.any fun z => PyData.eqv z a) → wpAny (model X.prog X.w) X.A (compareOp (if neg = true then .NotIn else .In) v u) (EP X pins σ Q) X.xe s := fun {a bs} h1 h2 h3 h4 => by
    subst h4
    cases neg with
    | true => exact op_notInD hu pins s σ H _ _ v u Q I rv ru ⟨_, _, toP_ok rel _ _ _ _ h1 rx, toP_ok rel _ _ _ _ h2 ry, h3.1, h3.2, q⟩
    | false => exact op_inD hu pins s σ H _ _ v u Q I rv ru ⟨_, _, toP_ok rel _ _ _ _ h1 rx, toP_ok rel _ _ _ _ h2 ry, h3.1, h3.2, q⟩
  unfold inD at e
  split at e
  · rename_i a t
    split at e
    · rename_i k hk
      cases e
      cases inD_sign hk
      cases rx
      cases ry
      cases neg with
      | true => exact op_notIn_sign pins s σ H _ _ v u Q I rv ru ⟨k, t, rfl, rfl, q⟩
      | false => exact op_in_sign pins s σ H _ _ v u Q I rv ru ⟨k, t, rfl, rfl, q⟩
    · cases e
  · split at e
    · rename_i h1 h2
      split at e
      · rename_i h3
        cases e
        exact fin h1 h2 h3 rfl
      · cases e
    · cases e
theorem op_cmp (hu : X.A.units + 65 < cLine) (o : COp) : OpR X (compareOp (copOf o)) (rOp X.K X.mg (cmpD o)) := by
  intro pins s σ H x y v u Q I rv ru ⟨ω, dx, dy, c, W, σ', rel, rx, ry, p⟩
  unfold cmpD bO at p
  cases e : cmpO o dx dy c with
  | none => rw [e] at p; exact p.elim
  | some b =>
    rw [e] at p
    have q : Q (.bl b) H := p.ok_of rel (.bl b)
    have hI : ∀ (o : COp) (b' : Bool), o ≠ .is → o ≠ .isn → o ≠ .inn → o ≠ .nin → cmpX o dx dy = some b' → ∃ i j, dx = .int i ∧ dy = .int j ∧ cmpI o i j = some b' := fun o b' _ _ _ _ h => by
      unfold cmpX at h
      split at h
      · exact ⟨_, _, rfl, rfl, h⟩
      · cases h
    have deep : ∀ {b' : Bool}, deepD dx dy c = some b' → ∃ a b2, toP 9 dx c = some a ∧ toP 9 dy c = some b2 ∧ SeqAt.shaped a = true ∧ SeqAt.shaped b2 = true ∧ b' = PyData.eqv a b2 := fun {b'} h => by
      unfold deepD at h
      split at h
      · split at h
        · rename_i h1 h2 h3
          cases h
          exact ⟨_, _, h1, h2, h3.1, h3.2, rfl⟩
        · cases h
      · cases h
    cases o with
    | lt =>
      obtain ⟨i, j, rfl, rfl, h⟩ := hI .lt b (by simp) (by simp) (by simp) (by simp) e
      cases h; cases rx; cases ry
      exact op_lt pins s σ H _ _ v u Q I rv ru ⟨_, _, rfl, rfl, q⟩
    | le =>
      obtain ⟨i, j, rfl, rfl, h⟩ := hI .le b (by simp) (by simp) (by simp) (by simp) e
      cases h; cases rx; cases ry
      exact op_le pins s σ H _ _ v u Q I rv ru ⟨_, _, rfl, rfl, q⟩
    | gt =>
      obtain ⟨i, j, rfl, rfl, h⟩ := hI .gt b (by simp) (by simp) (by simp) (by simp) e
      cases h; cases rx; cases ry
      exact op_gt pins s σ H _ _ v u Q I rv ru ⟨_, _, rfl, rfl, q⟩
    | ge =>
      obtain ⟨i, j, rfl, rfl, h⟩ := hI .ge b (by simp) (by simp) (by simp) (by simp) e
      cases h; cases rx; cases ry
      exact op_ge pins s σ H _ _ v u Q I rv ru ⟨_, _, rfl, rfl, q⟩
    | eq =>
      have e : orO (eqD dx dy) (deepD dx dy c) = some b := e
      cases h : eqD dx dy with
      | some b' =>
        rw [h] at e
        cases e
        obtain ⟨h1, h2⟩ := eqD_scal h rx ry
        refine op_eq pins s σ H _ _ v u Q I rv ru ⟨h1, ?_⟩
        rw [h2]
        exact q
      | none =>
        rw [h] at e
        obtain ⟨a, b2, h1, h2, h3, h4, rfl⟩ := deep e
        exact op_eqD (by omega) pins s σ H _ _ v u Q I rv ru ⟨a, b2, toP_ok rel _ _ _ _ h1 rx, toP_ok rel _ _ _ _ h2 ry, h3, h4, q⟩
    | ne =>
      have e : (orO (eqD dx dy) (deepD dx dy c)).map (!·) = some b := e
      cases h : eqD dx dy with
      | some b' =>
        rw [h] at e
        cases e
        obtain ⟨h1, h2⟩ := eqD_scal h rx ry
        refine op_ne pins s σ H _ _ v u Q I rv ru ⟨h1, ?_⟩
        rw [h2]
        exact q
      | none =>
        rw [h] at e
        have e : (deepD dx dy c).map (!·) = some b := e
        cases hd : deepD dx dy c with
        | none => rw [hd] at e; cases e
        | some b' =>
          rw [hd] at e
          cases e
          obtain ⟨a, b2, h1, h2, h3, h4, rfl⟩ := deep hd
          exact op_neD (by omega) pins s σ H _ _ v u Q I rv ru ⟨a, b2, toP_ok rel _ _ _ _ h1 rx, toP_ok rel _ _ _ _ h2 ry, h3, h4, q⟩
    | is =>
      have e : isO dx dy = some b := e
      unfold isO at e
      split at e
      · cases e
        cases ry
        refine op_isN pins s σ H _ _ v u Q I rv ru ⟨rfl, ?_⟩
        rw [isNon_v rx]
        exact q
      · split at e
        · cases e
          cases rx; cases ry
          exact op_isBl pins s σ H _ _ v u Q I rv ru ⟨_, _, rfl, rfl, q⟩
        · cases e
      · cases e
    | isn =>
      have e : (isO dx dy).map (!·) = some b := e
      cases h : isO dx dy with
      | none => rw [h] at e; cases e
      | some b' =>
        rw [h] at e
        cases e
        unfold isO at h
        split at h
        · cases h
          cases ry
          refine op_notN pins s σ H _ _ v u Q I rv ru ⟨rfl, ?_⟩
          rw [isNon_v rx]
          exact q
        · split at h
          · cases h
            cases rx; cases ry
            exact op_notBl pins s σ H _ _ v u Q I rv ru ⟨_, _, rfl, rfl, q⟩
          · cases h
        · cases h
    | inn => exact op_in hu false I rv ru rel rx ry e q
    | nin =>
      have e : (inD dx dy c).map (!·) = some b := e
      cases h : inD dx dy c with
      | none => rw [h] at e; cases e
      | some b' =>
        rw [h] at e
        cases e
        exact op_in hu true I rv ru rel rx ry h q
theorem atI_rs {K : PySem.W.Frag} {mg : Str → Option Value} {ω : Wd} {xs : List D} {vs : List V} {k : Int} {d : D} (r : Rs K mg ω xs vs) (e : atI xs k = some d) : ∃ v, atI vs k = some v ∧ R K mg ω d v := by
  unfold atI at e ⊢
  rw [← r.length]
  cases h : ixN xs.length k with
  | none => rw [h] at e; cases e
  | some j =>
    rw [h] at e
    exact r.get e
def rIx (K : PySem.W.Frag) : R2 := fun x y H Q => rIxL K x y H Q ∨ rIxT K x y H Q
theorem IxR.or {r r' : R2} (h : IxR X r) (h' : IxR X r') : IxR X (fun x y H Q => r x y H Q ∨ r' x y H Q) := by
  intro value slice pins s σ H x y v u Q I rx ry q e
  rcases q with q | q
  · exact h value slice pins s σ H x y v u Q I rx ry q e
  · exact h' value slice pins s σ H x y v u Q I rx ry q e
/-- d[y] of a dict -/
theorem ix_dct (hu : X.A.units + 1 < cLine) : IxR X (fun x y H Q => ∃ a v, x = .ref a ∧ DGet H a y (some v) ∧ Q v H) := by
  intro value slice pins s σ H x y v u Q I rx ry h hs
  obtain ⟨a, z, rfl, g, q⟩ := h
  obtain rfl : v = Value.ref a := rx
  exact tail_any (dict_typeIs I g) PySem.F.slot_dict_getitem.lookup (d_getItem hu I g ry fun w' s3 I3 rw' => ⟨z, H, I3, rw', q⟩) hs
theorem keyD_kV {K : PySem.W.Frag} {mg : Str → Option Value} {ω : Wd} (k : Key) : R K mg ω (keyD k) (kV k) := by
  cases k
  · exact .int _
  · exact .str _
theorem kvD_ok {K : PySem.W.Frag} {mg : Str → Option Value} {ω : Wd} {t : Str} : ∀ {kvs : List (D × D)} {ws : List (Key × V)} {d : D}, Rk K mg ω kvs ws → kvD t kvs = some d → ∃ v, valV ws (Sum.inr t) = some v ∧ R K mg ω d v
  | _, _, d, .nil, e => by cases e
  | _, _, d, .cons (k := k) (d := d0) (v := v0) (vs := vs0) h tl, e => by
    cases k with
    | inl i => cases e
    | inr z =>
      have e : (if z = t then some d0 else kvD t _) = some d := e
      by_cases hz : z = t
      · rw [if_pos hz] at e
        cases e
        subst hz
        exact ⟨v0, by unfold valV; rw [List.find?_cons_of_pos (by simp)]; rfl, h⟩
      · rw [if_neg hz] at e
        obtain ⟨v, h1, h2⟩ := kvD_ok tl e
        refine ⟨v, ?_, h2⟩
        unfold valV at h1 ⊢
        rw [List.find?_cons_of_neg (by simp [hz])]
        exact h1
theorem kvD_noT {K : PySem.W.Frag} {mg : Str → Option Value} {ω : Wd} {t : Str} : ∀ {kvs : List (D × D)} {ws : List (List Key × V)} {d : D}, Rt K mg ω kvs ws → kvD t kvs = some d → False
  | _, _, d, .nil, e => by cases e
  | _, _, d, .cons h tl, e => by cases e
/-- a dict where it stands -/
theorem dct_of {K : PySem.W.Frag} {mg : Str → Option Value} {ω : Wd} {c : Ct} {H : Hp} {d : D} {x : V} {kvs : List (D × D)} (rel : Rel K mg ω c H) (r : R K mg ω d x) (e : dctD d c = some kvs) :
    ∃ a, x = .ref a ∧ ((∃ ws, H a = some (.dK ws) ∧ Rk K mg ω kvs ws) ∨ (∃ ws, H a = some (.dT ws) ∧ Rt K mg ω kvs ws)) := by
  unfold dctD at e
  split at e
  · cases e
    cases r with
    | dctK h r => exact ⟨_, rfl, .inl ⟨_, rel.ext _ _ h, r⟩⟩
    | dctT h r => exact ⟨_, rfl, .inr ⟨_, rel.ext _ _ h, r⟩⟩
  · split at e
    · rename_i n ys hc
      cases e
      cases r with
      | ref h =>
        obtain ⟨k1, k2⟩ := rel.live _ _ _ h hc (by intro z; cases z)
        unfold COk at k2
        split at k2
        · rename_i z; cases z
        · rename_i z _; cases z
        · rename_i z _; cases z
        · rename_i us vs z1 z2
          cases z1
          exact ⟨_, rfl, .inl ⟨_, z2, k2⟩⟩
        · rename_i us vs z1 z2
          cases z1
          exact ⟨_, rfl, .inr ⟨_, z2, k2⟩⟩
        · exact k2.elim
    · cases e
  · cases e
theorem ix_D (hu : X.A.units + 1 < cLine) : IxR X (rOp X.K X.mg idxD) := by
  intro value slice pins s σ H x y v u Q I rv ru ⟨ω, dx, dy, c, W, σ', rel, rx, ry, p⟩ e
  unfold idxD at p
  split at p
  · rename_i k
    split at p
    · rename_i z
      split at p
      · rename_i hl
        cases ha : atI z.cps.toList k with
        | none => rw [ha] at p; exact p.elim
        | some d =>
          rw [ha] at p
          cases rx
          cases ry
          exact ix_str value slice pins s σ H _ _ v u Q I rv ru ⟨_, k, d, rfl, rfl, Nat.le_trans hl (by rw [sizeLine_eq]; decide), ha, p.ok_of rel (.str _)⟩ e
      · exact p.elim
    · split at p
      · rename_i xs hx
        cases ha : atI xs k with
        | none => rw [ha] at p; exact p.elim
        | some d =>
          rw [ha] at p
          obtain ⟨a, vs, rfl, rs, h⟩ := its_of rel rx hx
          obtain ⟨z, hz, rz⟩ := atI_rs rs ha
          cases ry
          rcases h with ⟨_, h⟩ | ⟨_, h, _⟩
          · exact ix_list value slice pins s σ H _ _ v u Q I rv ru ⟨a, vs, k, z, rfl, rfl, h, hz, p.ok_of rel rz⟩ e
          · exact ix_tup value slice pins s σ H _ _ v u Q I rv ru ⟨a, vs, k, z, rfl, rfl, h, hz, p.ok_of rel rz⟩ e
      · exact p.elim
  · rename_i t
    split at p
    · rename_i kvs hd
      cases hk : kvD t kvs with
      | none => rw [hk] at p; exact p.elim
      | some d =>
        rw [hk] at p
        obtain ⟨a, rfl, h⟩ := dct_of rel rx hd
        cases ry
        rcases h with ⟨ws, h, r⟩ | ⟨ws, h, r⟩
        · obtain ⟨z, hz, rz⟩ := kvD_ok r hk
          exact ix_dct hu value slice pins s σ H _ _ v u Q I rv ru ⟨a, z, rfl, by have := DGet.k (k := Sum.inr t) h; rw [hz] at this; exact this, p.ok_of rel rz⟩ e
        · exact (kvD_noT r hk).elim
    · exact p.elim
  · exact p.elim
theorem cut_rs {K : PySem.W.Frag} {mg : Str → Option Value} {ω : Wd} {xs : List D} {vs : List V} (r : Rs K mg ω xs vs) (lo hi : Option Int) : Rs K mg ω (cutD xs lo hi) (cutV vs lo hi) := by
  unfold cutD cutV
  rw [r.length]
  exact (r.drop _).take _
/-- a new list | tuple that stands for ever -/
theorem new_lst {K : PySem.W.Frag} {mg : Str → Option Value} {ω : Wd} {c : Ct} {H : Hp} {W : WX} {σ : L2.St} {xs : List D} {vs : List V} {Q : VK} (rel : Rel K mg ω c H) (rs : Rs K mg ω xs vs) (p : Post K mg (R K mg) ω W σ (.ok (.lst xs) c) Q) : ∀ a, H a = none → Q (.ref a) (upd H a (.lst vs)) := fun a ha => by
  obtain ⟨l, rel'⟩ := rel.frozen ha (.lst vs)
  exact p.ok_le l rel' (.lst upd_same (rs.mono l.toLo))
theorem new_tup {K : PySem.W.Frag} {mg : Str → Option Value} {ω : Wd} {c : Ct} {H : Hp} {W : WX} {σ : L2.St} {xs : List D} {vs : List V} {Q : VK} (rel : Rel K mg ω c H) (rs : Rs K mg ω xs vs) (p : Post K mg (R K mg) ω W σ (.ok (.tup xs) c) Q) : ∀ a, H a = none → Q (.ref a) (upd H a (.tup vs)) := fun a ha => by
  obtain ⟨l, rel'⟩ := rel.frozen ha (.tup vs)
  exact p.ok_le l rel' (.tup (.inl upd_same) (rs.mono l.toLo))
/-- a new list that may change -/
theorem new_cell {K : PySem.W.Frag} {mg : Str → Option Value} {ω : Wd} {c : Ct} {H : Hp} {W : WX} {σ : L2.St} {xs : List D} {vs : List V} {Q : VK} (rel : Rel K mg ω c H) (rs : Rs K mg ω xs vs) (p : Post K mg (R K mg) ω W σ (.ok (.ref c.length) (c ++ [.lst xs])) Q) : ∀ a, H a = none → Q (.ref a) (upd H a (.lst vs)) := fun a ha => by
  obtain ⟨l, hm, rel'⟩ := rel.cell ha (o := .lst vs) (u := .lst xs) rs
  exact p.ok_le l rel' (.ref hm)

/-! ### built-ins -/
theorem bls_of {K : PySem.W.Frag} {mg : Str → Option Value} {ω : Wd} : ∀ {xs : List D} {vs : List V} {bs : List Bool}, Rs K mg ω xs vs → blsD xs = some bs → vs = bs.map V.bl
  | [], _, _, .nil, e => by cases e; rfl
  | d :: ds, _, bs, .cons h t, e => by
    unfold blsD at e
    split at e
    · rename_i z; cases z
    · rename_i b r z
      cases z
      cases h
      cases e2 : blsD ds with
      | none => rw [e2] at e; cases e
      | some cs =>
        rw [e2] at e
        cases e
        rw [bls_of t e2]
        rfl
    · cases e
theorem ints_of {K : PySem.W.Frag} {mg : Str → Option Value} {ω : Wd} : ∀ {xs : List D} {vs : List V} {bs : List Int}, Rs K mg ω xs vs → intsD xs = some bs → vs = bs.map V.int
  | [], _, _, .nil, e => by cases e; rfl
  | d :: ds, _, bs, .cons h t, e => by
    unfold intsD at e
    split at e
    · rename_i z; cases z
    · rename_i b r z
      cases z
      cases h
      cases e2 : intsD ds with
      | none => rw [e2] at e; cases e
      | some cs =>
        rw [e2] at e
        cases e
        rw [ints_of t e2]
        rfl
    · cases e
theorem sql_ty {K : PySem.W.Frag} {H : Hp} {a : Addr} {xs : List V} (h : SqL K H a xs) : TyX K H (.ref a) (.type "list") := by
  rcases h with (h | ⟨o, h⟩) | h
  · exact .base (.lst h)
  · exact .base (.frz h)
  · obtain ⟨o, its, n, e1, e2, e3, e4⟩ := h
    exact .kList e1 e2
theorem sqt_ty {K : PySem.W.Frag} {H : Hp} {a : Addr} {xs : List V} (h : SqT K H a xs) : TyX K H (.ref a) (.type "tuple") := by
  rcases h with (h | ⟨o, h⟩) | h
  · exact .base (.tup h)
  · exact .fTuple h
  · obtain ⟨o, its, n, e1, e2, _⟩ := h
    exact .kTuple e1 e2
theorem ty_of {K : PySem.W.Frag} {mg : Str → Option Value} {ω : Wd} {c : Ct} {H : Hp} {d : D} {x : V} {t : String} (rel : Rel K mg ω c H) (r : R K mg ω d x) (e : tyD d c = some t) : TyX K H x (.type t) := by
  unfold tyD at e
  split at e
  · cases e; cases r; exact .base .non
  · cases e; cases r; exact .base (.bl _)
  · cases e; cases r; exact .base (.int _)
  · cases e; cases r; exact .base (.str _)
  · cases e
    cases r with
    | tup h r => exact sqt_ty (sq_t rel.ext h.sq)
  · cases e
    cases r with
    | lst h r => exact sql_ty (.inl (.inl (rel.ext _ _ h)))
  · cases e
    cases r with
    | scr h r => exact sql_ty (sq_l rel.ext h)
  · cases e
    cases r with
    | dctK h r => exact .base (.dK (rel.ext _ _ h))
    | dctT h r => exact .base (.dT (rel.ext _ _ h))
  · rename_i n
    cases r with
    | ref h =>
      split at e
      · rename_i ys hc
        cases e
        obtain ⟨k1, k2⟩ := rel.live _ _ _ h hc (by intro z; cases z)
        unfold COk at k2
        split at k2
        · rename_i z; cases z
        · rename_i us vs z1 z2
          exact .base (.lst z2)
        · rename_i z _; cases z
        · rename_i z _; cases z
        · rename_i z _; cases z
        · exact k2.elim
      · rename_i ys hc
        cases e
        obtain ⟨k1, k2⟩ := rel.live _ _ _ h hc (by intro z; cases z)
        unfold COk at k2
        split at k2
        · rename_i z; cases z
        · rename_i z _; cases z
        · rename_i z _; cases z
        · rename_i us vs z1 z2
          exact .base (.dK z2)
        · rename_i us vs z1 z2
          exact .base (.dT z2)
        · exact k2.elim
      · cases e
  · cases e
theorem tys_of {K : PySem.W.Frag} {mg : Str → Option Value} {ω : Wd} : ∀ {ks : List D} {vs : List V}, Rs K mg ω ks vs → tysD ks = true → ∃ us, Paired ClsV vs us
  | [], _, .nil, e => ⟨[], .nil⟩
  | d :: ds, _, .cons h r, e => by
    unfold tysD at e
    split at e
    · rename_i z; cases z
    · rename_i n r z
      cases z
      cases h
      obtain ⟨us, p⟩ := tys_of (by assumption) e
      exact ⟨_, .cons (.ty n) p⟩
    · cases e
theorem any_of {K : PySem.W.Frag} {mg : Str → Option Value} {ω : Wd} {t : String} : ∀ {ks : List D} {vs : List V} {b : Bool}, Rs K mg ω ks vs → anyB t ks = some b → ∃ us, Paired ClsV vs us ∧ PySem.W.kitAny K (.type t) us = some b
  | [], _, b, .nil, e => by cases e; exact ⟨[], .nil, kitAny_nil⟩
  | d :: ds, _, b, .cons h r, e => by
    unfold anyB at e
    split at e
    · rename_i z; cases z
    · rename_i n r z
      cases z
      cases h
      split at e
      · rename_i hk
        split at e
        · rename_i ht
          cases e
          obtain ⟨us, p⟩ := tys_of (by assumption) ht
          exact ⟨_, .cons (.ty n) p, kitAny_cons (r := true) (kit_ty hk) (fun z => by cases z) (fun _ => rfl)⟩
        · cases e
      · rename_i hk
        obtain ⟨us, p, q⟩ := any_of (by assumption) e
        exact ⟨_, .cons (.ty n) p, kitAny_cons (kit_ty hk) (fun _ => q) (fun z => by cases z)⟩
      · cases e
    · cases e
def bltName : Blt → Str
  | .len => "len" | .list => "list" | .listM => "list" | .sortedM => "sorted" | .str => "str" | .tuple => "tuple" | .abs => "abs" | .all => "all" | .any => "any" | .sum => "sum" | .isi => "isinstance" | .int => "int" | .max => "max" | .min => "min" | .sorted => "sorted"
def bltVal : Blt → Value
  | .len => .builtin "len" | .list => .type "list" | .listM => .type "list" | .sortedM => .builtin "sorted" | .str => .type "str" | .tuple => .type "tuple" | .abs => .builtin "abs" | .all => .builtin "all" | .any => .builtin "any" | .sum => .builtin "sum" | .isi => .builtin "isinstance" | .int => .type "int"
  | .max => .builtin "max" | .min => .builtin "min" | .sorted => .builtin "sorted"
theorem strs_of {K : PySem.W.Frag} {mg : Str → Option Value} {ω : Wd} : ∀ {xs : List D} {vs : List V} {bs : List Str}, Rs K mg ω xs vs → strsD xs = some bs → vs = bs.map V.str
  | [], _, _, .nil, e => by cases e; rfl
  | d :: ds, _, bs, .cons h t, e => by
    unfold strsD at e
    split at e
    · rename_i z; cases z
    · rename_i b r z
      cases z
      cases h
      cases e2 : strsD ds with
      | none => rw [e2] at e; cases e
      | some cs =>
        rw [e2] at e
        cases e
        rw [strs_of t e2]
        rfl
    · cases e
theorem Rs.strs {K : PySem.W.Frag} {mg : Str → Option Value} {ω : Wd} : ∀ (ns : List Str), Rs K mg ω (ns.map D.str) (ns.map V.str)
  | [] => .nil
  | n :: ns => .cons (.str n) (Rs.strs ns)
theorem leI_trans (a b c : Int) : leI a b = true → leI b c = true → leI a c = true := by unfold leI; simp only [decide_eq_true_eq]; omega
theorem leI_total (a b : Int) : (leI a b || leI b a) = true := by unfold leI; simp only [Bool.or_eq_true, decide_eq_true_eq]; omega
theorem sortI_uniq {ns ns' : List Int} (hp : ns'.Perm ns) (hs : ns'.Pairwise (· ≤ ·)) : ns' = ns.mergeSort leI := by
  have h1 : (ns.mergeSort leI).Pairwise (fun a b => leI a b = true) := List.pairwise_mergeSort leI_trans leI_total ns
  have h2 : ns'.Pairwise (fun a b => leI a b = true) := hs.imp fun {a b} h => by unfold leI; exact decide_eq_true h
  exact List.Perm.eq_of_pairwise (fun a b _ _ x y => by unfold leI at x y; simp only [decide_eq_true_eq] at x y; omega) h2 h1 (hp.trans (List.mergeSort_perm ns leI).symm)
theorem lex_antisymm : ∀ (a b : List Nat), ¬ a < b → ¬ b < a → a = b := fun a b h1 h2 => List.le_antisymm (List.not_lt.mp h2) (List.not_lt.mp h1)
theorem cps_inj {a b : Str} (h : a.cps.toList = b.cps.toList) : a = b := by
  obtain ⟨a⟩ := a
  obtain ⟨b⟩ := b
  exact congrArg Str.mk (Array.toList_inj.mp h)
theorem leS_trans (a b c : Str) : leS a b = true → leS b c = true → leS a c = true := by
  unfold leS
  simp only [Bool.not_eq_true', decide_eq_false_iff_not]
  intro h1 h2
  exact List.not_lt.mpr (List.le_trans (List.not_lt.mp h1) (List.not_lt.mp h2))
theorem leS_total (a b : Str) : (leS a b || leS b a) = true := by
  unfold leS
  simp only [Bool.or_eq_true, Bool.not_eq_true', decide_eq_false_iff_not]
  rcases List.le_total a.cps.toList b.cps.toList with h | h
  · exact .inl (List.not_lt.mpr h)
  · exact .inr (List.not_lt.mpr h)
theorem risingS_pw : ∀ (p : Str) (l : List Str), risingS p l = true → (p :: l).Pairwise (fun a b => leS a b = true)
  | p, [], _ => List.pairwise_singleton _ _
  | p, x :: r, h => by
    have h : (!ltCps x.cps.toList p.cps.toList && risingS x r) = true := h
    rw [Bool.and_eq_true] at h
    have h2 := risingS_pw x r h.2
    have h1 : leS p x = true := by unfold leS; rw [← ltCps_eq]; exact h.1
    refine List.pairwise_cons.mpr ⟨fun y hy => ?_, h2⟩
    rcases List.mem_cons.mp hy with rfl | hy
    · exact h1
    · exact leS_trans _ _ _ h1 ((List.pairwise_cons.mp h2).1 y hy)
theorem sortedS_pw : ∀ (l : List Str), sortedS l = true → l.Pairwise (fun a b => leS a b = true)
  | [], _ => List.Pairwise.nil
  | x :: r, h => risingS_pw x r h
theorem sortS_uniq {ns ns' : List Str} (hp : ns'.Perm ns) (hs : sortedS ns' = true) : ns' = ns.mergeSort leS := by
  have h1 : (ns.mergeSort leS).Pairwise (fun a b => leS a b = true) := List.pairwise_mergeSort leS_trans leS_total ns
  exact List.Perm.eq_of_pairwise (fun a b _ _ x y => by
    unfold leS at x y
    simp only [Bool.not_eq_true', decide_eq_false_iff_not] at x y
    exact cps_inj (lex_antisymm _ _ y x)) (sortedS_pw _ hs) h1 (hp.trans (List.mergeSort_perm ns leS).symm)
/-- sorted(x) -/
theorem call_sortedD' {pins : List (Addr × Obj)} {s : Shared} {σ : L2.St} {H : Hp} {x : V} {us : List Value} {Q : VK} {ω : Wd} {d : D} {c : Ct} {ys : List D} (I : Inv X pins σ H s) (rv : Vals [x] us) (rel : Rel X.K X.mg ω c H) (r : R X.K X.mg ω d x) (e : sortD d c = some ys)
    (k : ∀ vs, Rs X.K X.mg ω ys vs → ∀ a, H a = none → Q (.ref a) (upd H a (.lst vs))) : wpAny (model X.prog X.w) X.A (PySem.call (.builtin "sorted") us) (EP X pins σ Q) X.xe s := by
  unfold sortD at e
  split at e
  · rename_i xs hx
    split at e
    · rename_i hl
      obtain ⟨a, vs, rfl, rs, h⟩ := its_of rel r hx
      have hq : SqL X.K H a vs := by
        rcases h with ⟨_, h⟩ | ⟨z, _⟩
        · exact h
        · rw [hl] at z; cases z
      split at e
      · rename_i ns hn
        cases e
        have hv := ints_of rs hn
        subst hv
        refine cr_sortedI pins s σ H _ us Q I rv ⟨a, ns, rfl, hq, fun ns' p hp hs hnew => ?_⟩
        rw [sortI_uniq hp hs]
        exact k _ (Rs.ints _) p hnew
      · split at e
        · rename_i ss hn
          split at e
          · rename_i h64
            cases e
            have hv := strs_of rs hn
            subst hv
            refine cr_sortedS pins s σ H _ us Q I rv ⟨a, ss, rfl, hq, h64, fun ns' p hp hs hnew => ?_⟩
            rw [sortS_uniq hp hs]
            exact k _ (Rs.strs _) p hnew
          · cases e
        · cases e
    · cases e
  · cases e
theorem call_int_bool : CallR X (.type "int") (fun xs H Q => ∃ b : Bool, xs = [.bl b] ∧ Q (.int (if b = true then 1 else 0)) H) := by
  intro pins s σ H xs us Q I r h
  obtain ⟨b, rfl, q⟩ := h
  refine call_int1 pins s σ H _ us Q I r (.inr ⟨b, rfl, ?_⟩)
  cases b <;> exact q
end
end Hv

set_option Elab.async false
set_option linter.all false
set_option maxRecDepth 100000
set_option maxHeartbeats 2000000
/-! HvC2: built-ins and methods of lists. -/
namespace Hv
open PySem PySem.Spec PyProof.Rows L2
theorem Rs.rev {K : PySem.W.Frag} {mg : Str → Option Value} {ω : Wd} : ∀ {ds : List D} {vs : List V}, Rs K mg ω ds vs → Rs K mg ω ds.reverse vs.reverse
  | _, _, .nil => .nil
  | _, _, .cons h t => by
    rw [List.reverse_cons, List.reverse_cons]
    exact (Rs.rev t).append (.cons h .nil)
section
variable {X : Cx} {W : WX} {pos : Pos}
theorem blt_call (hc : X.calm = true) (f : Blt) : CallR X (bltVal f) (rAr X.K X.mg (bltD f)) := by
  intro pins s σ H xs us Q I rv ⟨ω, ds, c, W, σ', rel, rs, p⟩
  unfold bltD at p
  split at p
  · rename_i x
    cases rs with
    | cons rx rn =>
    cases rn
    split at p
    · split at p
      · rename_i h
        cases rx
        refine call_len_str pins s σ H _ us Q I rv ⟨_, rfl, Nat.le_trans h (by rw [sizeLine_eq]; decide), p.ok_of rel (.int _)⟩
      · exact p.elim
    · split at p
      · rename_i ys hx
        obtain ⟨a, vs, rfl, r2, h⟩ := its_of rel rx hx
        refine call_len_seq pins s σ H _ us Q I rv ⟨a, vs, rfl, ?_, ?_⟩
        · rcases h with ⟨_, h⟩ | ⟨_, h, _⟩
          · exact .inl h
          · exact .inr h
        · rw [← r2.length]
          exact p.ok_of rel (.int _)
      · exact p.elim
  · rename_i x
    cases rs with
    | cons rx rn =>
    cases rn
    split at p
    · rename_i ys hx
      obtain ⟨a, vs, rfl, r2, h⟩ := its_of rel rx hx
      refine call_list_of pins s σ H _ us Q I rv ⟨a, vs, rfl, ?_, new_lst rel r2 p⟩
      rcases h with ⟨_, h⟩ | ⟨_, h, _⟩
      · exact .inl h
      · exact .inr h
    · exact p.elim
  · rename_i x
    cases rs with
    | cons rx rn =>
    cases rn
    split at p
    · rename_i ys hx
      obtain ⟨a, vs, rfl, r2, h⟩ := its_of rel rx hx
      refine call_list_of pins s σ H _ us Q I rv ⟨a, vs, rfl, ?_, new_l rel r2 p⟩
      rcases h with ⟨_, h⟩ | ⟨_, h, _⟩
      · exact .inl h
      · exact .inr h
    · exact p.elim
  · rename_i x
    cases rs with
    | cons rx rn =>
    cases rn
    split at p
    · rename_i ys hx
      obtain ⟨a, vs, rfl, r2, h⟩ := its_of rel rx hx
      refine call_tuple_of pins s σ H _ us Q I rv ⟨a, vs, rfl, ?_⟩
      rcases h with ⟨_, h⟩ | ⟨_, h, e⟩
      · exact .inl ⟨h, new_tup rel r2 p⟩
      · refine .inr ⟨h, ?_⟩
        subst e
        exact p.ok_of rel rx
    · exact p.elim
  · cases rs with
    | cons rx rn =>
    cases rn
    cases rx
    exact call_abs pins s σ H _ us Q I rv ⟨_, rfl, p.ok_of rel (.int _)⟩
  · rename_i x
    cases rs with
    | cons rx rn =>
    cases rn
    split at p
    · rename_i bs hb
      split at p
      · rename_i hl
        cases hx : itsD x c with
        | none => rw [hx] at hb; cases hb
        | some ys =>
          rw [hx] at hb
          obtain ⟨a, vs, rfl, r2, h⟩ := its_of rel rx hx
          rw [bls_of r2 hb] at h
          rcases h with ⟨_, h⟩ | ⟨z, _, _⟩
          · exact cr_all hc pins s σ H _ us Q I rv ⟨a, bs, rfl, h, p.ok_of rel (.bl _)⟩
          · rw [hl] at z; cases z
      · exact p.elim
    · exact p.elim
  · rename_i x
    cases rs with
    | cons rx rn =>
    cases rn
    split at p
    · rename_i bs hb
      split at p
      · rename_i hl
        cases hx : itsD x c with
        | none => rw [hx] at hb; cases hb
        | some ys =>
          rw [hx] at hb
          obtain ⟨a, vs, rfl, r2, h⟩ := its_of rel rx hx
          rw [bls_of r2 hb] at h
          rcases h with ⟨_, h⟩ | ⟨z, _, _⟩
          · exact cr_any hc pins s σ H _ us Q I rv ⟨a, bs, rfl, h, p.ok_of rel (.bl _)⟩
          · rw [hl] at z; cases z
      · exact p.elim
    · exact p.elim
  · rename_i x
    cases rs with
    | cons rx rn =>
    cases rn
    split at p
    · rename_i bs hb
      split at p
      · rename_i hl
        cases hx : itsD x c with
        | none => rw [hx] at hb; cases hb
        | some ys =>
          rw [hx] at hb
          obtain ⟨a, vs, rfl, r2, h⟩ := its_of rel rx hx
          rw [ints_of r2 hb] at h
          rcases h with ⟨_, h⟩ | ⟨z, _, _⟩
          · exact cr_sum hc pins s σ H _ us Q I rv ⟨a, bs, rfl, h, p.ok_of rel (.int _)⟩
          · rw [hl] at z; cases z
      · exact p.elim
    · exact p.elim
  · rename_i x k
    cases rs with
    | cons rx rn =>
    cases rn with
    | cons rk rn =>
    cases rn
    unfold isiD at p
    split at p
    · rename_i t n ht
      cases rk
      split at p
      · rename_i b hb
        exact call_isi pins s σ H _ us Q I rv ⟨_, _, _, _, b, rfl, .ty n, ty_of rel rx ht, kit_ty hb, p.ok_of rel (.bl _)⟩
      · exact p.elim
    · rename_i t ks ht
      split at p
      · rename_i b hb
        cases rk with
        | tup h r =>
        obtain ⟨us', p1, p2⟩ := any_of r hb
        rcases h with h | ⟨o, its, n, e1, e2, e3, e4, e5⟩
        · exact call_isiT pins s σ H _ us Q I rv ⟨_, _, _, _, us', b, rfl, rel.ext _ _ h, p1, ty_of rel rx ht, p2, p.ok_of rel (.bl _)⟩
        · have e6 := ClsV.all p1 e5
          obtain ⟨oc, od, dt, sl⟩ := o
          simp only at e2 e3
          subst e2 e3 e6
          exact call_isiK pins s σ H _ us Q I rv ⟨_, _, od, its.toList, n, sl, _, b, rfl, by simpa using e1, ty_of rel rx ht, p2, p.ok_of rel (.bl _)⟩
      · exact p.elim
    · exact p.elim
  · cases rs with
    | cons rx rn =>
    cases rn with
    | cons ry rn =>
    cases rn
    cases rx
    cases ry
    exact call_max2 hc pins s σ H _ us Q I rv ⟨_, _, rfl, p.ok_of rel (.int _)⟩
  · cases rs with
    | cons rx rn =>
    cases rn with
    | cons ry rn =>
    cases rn
    cases rx
    cases ry
    exact call_min2 hc pins s σ H _ us Q I rv ⟨_, _, rfl, p.ok_of rel (.int _)⟩
  · cases rs with
    | cons rx rn =>
    cases rn
    cases rx
    exact call_int1 pins s σ H _ us Q I rv (.inl ⟨_, rfl, p.ok_of rel (.int _)⟩)
  · cases rs with
    | cons rx rn =>
    cases rn
    cases rx
    exact call_int_bool pins s σ H _ us Q I rv ⟨_, rfl, p.ok_of rel (.int _)⟩
  · cases rs with
    | cons rx rn =>
    cases rn
    split at p
    · rename_i ys hx
      exact call_sortedD' I rv rel rx hx fun vs r2 => new_lst rel r2 p
    · exact p.elim
  · cases rs with
    | cons rx rn =>
    cases rn
    split at p
    · rename_i ys hx
      exact call_sortedD' I rv rel rx hx fun vs r2 => new_l rel r2 p
    · exact p.elim
  · cases rs with
    | cons rx rn =>
    cases rn
    cases rx
    split at p
    · rename_i h
      exact call_str_int pins s σ H _ us Q I rv ⟨_, rfl, Nat.lt_trans (PySem.Flt.log2_lt_of (by decide) h) (by decide), p.ok_of rel (.str _)⟩
    · exact p.elim
  · exact p.elim
end
/-! ### methods of lists -/
def mthNm : Mth → Str
  | .append => "append" | .extend => "extend" | .insert => "insert" | .clear => "clear" | .reverse => "reverse" | .index => "index" | .count => "count"
def mthId : Mth → String
  | .append => "list.append" | .extend => "list.extend" | .insert => "list.insert" | .clear => "list.clear" | .reverse => "list.reverse" | .index => "list.index" | .count => "list.count"
section
variable {X : Cx}
theorem cell_of {K : PySem.W.Frag} {mg : Str → Option Value} {ω : Wd} {c : Ct} {H : Hp} {n : Nat} {x : V} {xs : List D} (rel : Rel K mg ω c H) (r : R K mg ω (.ref n) x) (hc : c[n]? = some (.lst xs)) :
    ∃ a vs, x = .ref a ∧ Rs K mg ω xs vs ∧ H a = some (.lst vs) ∧ ∀ {ys us}, Rs K mg ω ys us → Rel K mg ω (c.set n (.lst ys)) (upd H a (.lst us)) := by
  cases r with
  | ref h =>
    obtain ⟨k1, k2⟩ := rel.live _ _ _ h hc (by intro z; cases z)
    unfold COk at k2
    split at k2
    · rename_i z; cases z
    · rename_i us vs z1 z2
      cases z1
      exact ⟨_, _, rfl, k2, z2, fun {ys us} r => rel.write h hc (by intro z; cases z) (o := .lst us) r⟩
    · rename_i z _; cases z
    · rename_i z _; cases z
    · rename_i z _; cases z
    · exact k2.elim
theorem placeP_ok {a : PyData} : ∀ (zs : List PyData) (n j : Nat), placeP a zs n = some j → ∃ m z, j = n + m ∧ zs[m]? = some z ∧ PyData.eqv z a = true ∧ ∀ (i : Nat) (z' : PyData), i < m → zs[i]? = some z' → PyData.eqv z' a = false
  | [], n, j, h => by cases h
  | z :: zs, n, j, h => by
    unfold placeP at h
    by_cases hz : PyData.eqv z a = true
    · rw [if_pos hz] at h
      cases h
      exact ⟨0, z, rfl, rfl, hz, fun i z' hi => by omega⟩
    · rw [if_neg hz] at h
      obtain ⟨m, z2, h1, h2, h3, h4⟩ := placeP_ok zs (n + 1) j h
      refine ⟨m + 1, z2, by omega, h2, h3, fun i z' hi hz' => ?_⟩
      cases i with
      | zero => cases hz'; exact Bool.eq_false_iff.mpr hz
      | succ i => exact h4 i z' (by omega) hz'
theorem mth_ok (hu : X.A.units + 65 < cLine) (m : Mth) : MtR X (mthId m) (fun x xs H Q => ∃ ω dx ds c W σ, Rel X.K X.mg ω c H ∧ R X.K X.mg ω dx x ∧ Rs X.K X.mg ω ds xs ∧ Post X.K X.mg (R X.K X.mg) ω W σ (mthD m dx ds c) Q) := by
  intro pins s σ H x xs v us Q I rv rvs ⟨ω, dx, ds, c, W, σ', rel, rx, rs, p⟩
  have hsl : (100000 : Nat) ≤ sizeLine := by rw [sizeLine_eq]; decide
  unfold mthD at p
  split at p
  · rename_i d
    cases rs with
    | cons rd rn =>
    cases rn
    split at p
    · rename_i n
      split at p
      · rename_i ys hc
        split at p
        · rename_i h
          obtain ⟨a, vs, rfl, r2, ha, wr⟩ := cell_of rel rx hc
          exact mt_append pins s σ H _ _ v us Q I rv rvs ⟨a, vs, _, rfl, rfl, ha, by rw [← r2.length]; omega, p.ok_of (wr (r2.append (.cons rd .nil))) .non⟩
        · exact p.elim
      · exact p.elim
    · exact p.elim
  · rename_i d
    cases rs with
    | cons rd rn =>
    cases rn
    split at p
    · rename_i n
      split at p
      · rename_i ys hc
        split at p
        · rename_i zs hz
          split at p
          · rename_i h
            obtain ⟨a, vs, rfl, r2, ha, wr⟩ := cell_of rel rx hc
            obtain ⟨b, us', rfl, r3, hb⟩ := lst_of rel rd hz
            exact mt_extend pins s σ H _ _ v us Q I rv rvs ⟨a, b, vs, us', rfl, rfl, ha, hb, by rw [← r2.length, ← r3.length]; omega, p.ok_of (wr (r2.append r3)) .non⟩
          · exact p.elim
        · exact p.elim
      · exact p.elim
    · exact p.elim
  · rename_i i d
    cases rs with
    | cons ri rn =>
    cases rn with
    | cons rd rn =>
    cases rn
    cases ri
    split at p
    · rename_i n
      split at p
      · rename_i ys hc
        split at p
        · rename_i h
          obtain ⟨a, vs, rfl, r2, ha, wr⟩ := cell_of rel rx hc
          exact mt_insert pins s σ H _ _ v us Q I rv rvs ⟨a, vs, i, _, rfl, rfl, ha, by rw [← r2.length]; omega, h.2.1, by omega, p.ok_of (wr (((r2.take i.toNat).append (.cons rd .nil)).append (r2.drop i.toNat))) .non⟩
        · exact p.elim
      · exact p.elim
    · exact p.elim
  · cases rs
    split at p
    · rename_i n
      split at p
      · rename_i ys hc
        obtain ⟨a, vs, rfl, r2, ha, wr⟩ := cell_of rel rx hc
        exact mt_clear pins s σ H _ _ v us Q I rv rvs ⟨a, vs, rfl, rfl, ha, p.ok_of (wr .nil) .non⟩
      · exact p.elim
    · exact p.elim
  · cases rs
    split at p
    · rename_i n
      split at p
      · rename_i ys hc
        obtain ⟨a, vs, rfl, r2, ha, wr⟩ := cell_of rel rx hc
        exact mt_reverse pins s σ H _ _ v us Q I rv rvs ⟨a, vs, rfl, rfl, ha, p.ok_of (wr r2.rev) .non⟩
      · exact p.elim
    · exact p.elim
  · rename_i d
    cases rs with
    | cons rd rn =>
    cases rn
    split at p
    · rename_i zs a h1 h2
      split at p
      · rename_i h3
        split at p
        · rename_i j hj
          obtain ⟨m, z, q1, q2, q3, q4⟩ := placeP_ok _ _ _ hj
          rw [Nat.zero_add] at q1
          subst q1
          have hd := toP_ok rel _ _ _ _ h1 rx
          have hz := toP_ok rel _ _ _ _ h2 rd
          have he : ∃ a, x = V.ref a := by cases hd; exact ⟨_, rfl⟩
          obtain ⟨a', rfl⟩ := he
          exact mt_indexD hu pins s σ H _ _ v us Q I rv rvs ⟨a', _, a, zs, j, z, rfl, rfl, hd, hz, h3.2, h3.1, q2, q3, q4, p.ok_of rel (.int _)⟩
        · exact p.elim
      · exact p.elim
    · exact p.elim
  · exact p.elim
end
end Hv

set_option Elab.async false
set_option linter.all false
set_option maxRecDepth 100000
set_option maxHeartbeats 2000000
/-! HvD: the text is the inner form (chk..), and the inner form is what the machine does: expressions. -/
namespace Hv
open PySem PySem.Spec PyProof.Rows L2

structure SE where
  N : List Str
  sc : Scope
  fn : Str → Bool
structure GE where
  names : List (Nat × Str)
  consts : List (Str × Cst)
  flds : List (Str × Str)
  meths : List (Str × Str × Nat × Nat × List Str × List Src)
  mks : List (Str × Nat × Nat × List Str × List Src)
  lens : List (Str × Nat)
  shapes : List (Nat × Nat × List Str × List Src)
  excs : List (Str × Nat × List (Str × Src) × List (Str × Bool))
  cls : List Str
def kindB (sc : Scope) (x : Str) (k : NameKind) : Bool := decide (sc.names.lookup x = some k)
def visB (sc : Scope) (x : Str) : Bool := kindB sc x .local || kindB sc x .cell || kindB sc x .free
def okName (x : Str) : Bool := !(x == ("__debug__" : Str)) && !(x == ("__classdict__" : Str)) && !decide (x = ("__name__" : Str))
def notStarB : Expr → Bool
  | .Starred _ _ => false
  | _ => true
def isSliceB : Expr → Bool
  | .Slice _ _ _ _ => true
  | _ => false
def isSetB : Expr → Bool
  | .Set _ _ _ => true
  | _ => false
def cstB : Cst → Const → Bool
  | .non, .none => true
  | .bl b, .bool k => b == k
  | .int i, .int j => decide (i = j)
  | .str s, .str t => decide (s = t)
  | _, _ => false
def tyNames : List String := ["int", "bool", "str", "list", "tuple", "dict"]
/-- what stands ahead of a dot is no super() -/
def baseB : Expr → Bool
  | .Call _ [] [] _ => false
  | _ => true
/-- a method's call on one line, few arguments -/
def lineB (apos pos : Pos) (n : Nat) : Bool := (apos.endLine == pos.line) && decide (n < 25)
/-- the same test whatever the 'whole' is -/
def plainT : Expr → Bool
  | .UnaryOp .Not _ _ => false
  | .BoolOp _ _ _ => false
  | .IfExp _ _ _ _ => false
  | .Compare _ _ _ _ => false
  | _ => true
def SE.blk (Γ : SE) (scope : Scope) : SE := ⟨Γ.N, relS scope Γ.sc, fun x => scope.names.lookup x == some .cell⟩
mutual
def slotsT : IT → List Nat
  | .nm i => [i]
  | .tp ts => slotsTs ts
def slotsTs : List IT → List Nat
  | [] => []
  | t :: ts => slotsT t ++ slotsTs ts
end
def chkT' (Γ : SE) : IT → Expr → Bool := fun t e => go t e
where
  go : IT → Expr → Bool
    | .nm i, .Name x _ => decide (Γ.N[i]? = some x) && (kindB Γ.sc x .local || (kindB Γ.sc x .cell && Γ.fn x))
    | .tp ts, .Tuple es _ _ => gos ts es
    | _, _ => false
  gos : List IT → List Expr → Bool
    | [], [] => true
    | t :: ts, e :: es => notStarB e && go t e && gos ts es
    | _, _ => false
def dTrue : Expr := .Constant (.bool true) 0 ⟨0, 0, 0, 0⟩
def dG : Comprehension := ⟨dTrue, dTrue, [], 0⟩
def oneG (gs : List Comprehension) : Bool := decide (gs.length = 1) && decide ((gs.headD dG).is_async = 0) && decide ((gs.headD dG).ifs.length ≤ 1) && !isSetB (gs.headD dG).iter
def negB : Cst → Int → Bool
  | .int n, m => decide (n = -m)
  | _, _ => false
def restB (o : BoolOp) (y : Expr) (r : List Expr) (p : Pos) : Expr := match r with
  | [] => y
  | z :: r => .BoolOp o (y :: z :: r) p
def isTupE : Expr → Bool
  | .Tuple _ _ _ => true
  | _ => false
/-- strict=True, or no keyword -/
def strictB (st : Bool) (kws : List Keyword) : Bool := match kws with
  | [] => !st
  | [⟨some k, .Constant (.bool true) _ _, _⟩] => st && decide (k = "strict")
  | _ => false
def isTrueB : IE → Bool
  | .cst (.bl true) => true
  | _ => false
theorem isTrueB_eq {q : IE} (h : isTrueB q = true) : q = .cst (.bl true) := by
  unfold isTrueB at h
  split at h
  · rfl
  · cases h
/-- a dict's written keys -/
def chkKx : List Str → List (Option Expr) → Bool
  | [], l => l.isEmpty
  | k :: ks, l => match l with
    | some (.Constant (.str s) _ _) :: xs => decide (s = k) && chkKx ks xs
    | _ => false
/-- f(g(a)), f(g(a, b)) -/
def rngA1 : Expr → Option (Str × Str × Expr)
  | .Call (.Name x _) [.Call (.Name y _) [z] [] _] [] _ => some (x, y, z)
  | _ => none
def rngA2 : Expr → Option (Str × Str × Expr × Expr)
  | .Call (.Name x _) [.Call (.Name y _) [z, u] [] _] [] _ => some (x, y, z, u)
  | _ => none
theorem rngA1_eq {e : Expr} {x y : Str} {z : Expr} (h : rngA1 e = some (x, y, z)) : ∃ p0 p1 p2 p3, e = .Call (.Name x p0) [.Call (.Name y p1) [z] [] p2] [] p3 := by
  unfold rngA1 at h
  split at h
  · cases h; exact ⟨_, _, _, _, rfl⟩
  · cases h
theorem rngA2_eq {e : Expr} {x y : Str} {z u : Expr} (h : rngA2 e = some (x, y, z, u)) : ∃ p0 p1 p2 p3, e = .Call (.Name x p0) [.Call (.Name y p1) [z, u] [] p2] [] p3 := by
  unfold rngA2 at h
  split at h
  · cases h; exact ⟨_, _, _, _, rfl⟩
  · cases h
/-- the slots' names -/
def ownN (N : List Str) (own : List Nat) : List (Str × Nat) := own.map fun i => (N.getD i "", i)
mutual
def chkM (G : GE) : Bool → SE → IE → Expr → Bool
  | tm, Γ, .var i, e => match e with
    | .Name x _ => decide (Γ.N[i]? = some x) && visB Γ.sc x && okName x
    | _ => false
  | tm, Γ, .cst k, e => match e with
    | .Constant v _ _ => cstB k v
    | .Name x _ => decide ((x, k) ∈ G.consts) && kindB Γ.sc x .globalImplicit && okName x
    | .UnaryOp .USub (.Constant (.int m) _ _) _ => negB k m
    | _ => false
  | tm, Γ, .typ n, e => match e with
    | .Name x _ => decide (x = Str.ofString n) && tyNames.contains n && kindB Γ.sc x .globalImplicit && okName x
    | _ => false
  | tm, Γ, .bin _ o a b, e => match e with
    | .BinOp ea op eb _ => decide (op = opOf o) && chkM G false Γ a ea && chkM G false Γ b eb
    | _ => false
  | tm, Γ, .cmp o a b, e => match e with
    | .Compare ea [op] [eb] _ => decide (op = copOf o) && !isSetB eb && chkM G false Γ a ea && chkM G false Γ b eb
    | _ => false
  | tm, Γ, .chn o o' a b q, e => match e with
    | .Compare ea [op, op'] [eb, ee] _ => decide (op = copOf o) && decide (op' = copOf o') && !isSetB eb && !isSetB ee && chkM G false Γ a ea && chkM G false Γ b eb && chkM G false Γ q ee
    | _ => false
  | tm, Γ, .and a b, e => match e with
    | .BoolOp .And (x :: y :: r) p => chkM G tm Γ a x && chkM G tm Γ b (restB .And y r p)
    | _ => false
  | tm, Γ, .or a b, e => match e with
    | .BoolOp .Or (x :: y :: r) p => chkM G tm Γ a x && chkM G tm Γ b (restB .Or y r p)
    | _ => false
  | tm, Γ, .not a, e => match e with
    | .UnaryOp .Not x _ => chkM G tm Γ a x
    | _ => false
  | tm, Γ, .ifx q a b, e => match e with
    | .IfExp eq ea eb _ => !tm && chkM G true Γ q eq && chkM G false Γ a ea && chkM G false Γ b eb
    | _ => false
  | tm, Γ, .tup es, e => match e with
    | .Tuple xs _ _ => chkA G Γ es xs
    | _ => false
  | tm, Γ, .lst _ es, e => match e with
    | .List xs _ => chkA G Γ es xs
    | _ => false
  | tm, Γ, .idx a b, e => match e with
    | .Subscript x y _ => !isSliceB y && chkM G false Γ a x && chkM G false Γ b y
    | _ => false
  | tm, Γ, .slc a lo hi, e => match e with
    | .Subscript x (.Slice l h none _) _ => chkM G false Γ a x && chkO G Γ lo l && chkO G Γ hi h
    | _ => false
  | tm, Γ, .call _ f ks src es kes, e => match e with
    | .Call (.Name x _) xs kws _ => decide (G.names.lookup f = some x) && kindB Γ.sc x .globalImplicit && okName x && decide ((f, xs.length, ks, src) ∈ G.shapes) && chkA G Γ es xs && chkK G Γ kes ks kws
    | _ => false
  | tm, Γ, .blt f es, e => match e with
    | .Call (.Name x _) xs [] _ => decide (x = bltName f) && kindB Γ.sc x .globalImplicit && !xs.isEmpty && chkA G Γ es xs
    | _ => false
  | tm, Γ, .comp _ own t s q el, e => match e with
    | .ListComp elt gs scope _ => oneG gs && blkC Γ.N Γ.sc scope (ownN Γ.N own) && (slotsT t).all (fun i => own.contains i) && chkI G Γ s (gs.headD dG).target (gs.headD dG).iter && chkT' (Γ.blk scope) t (gs.headD dG).target && (!(gs.headD dG).ifs.isEmpty || isTrueB q) && chkM G true (Γ.blk scope) q ((gs.headD dG).ifs.headD dTrue) && chkM G false (Γ.blk scope) el elt
    | _ => false
  | tm, Γ, .frz _ q, e => (!tm || plainT e) && chkM G false Γ q e
  | tm, Γ, .fld C f a, e => match e with
    | .Attribute x g _ => decide (g = f) && baseB x && decide ((C, f) ∈ G.flds) && chkM G false Γ a x
    | _ => false
  | tm, Γ, .mk _ C f ks src es kes, e => match e with
    | .Call (.Name x _) xs kws _ => decide (x = C) && kindB Γ.sc x .globalImplicit && okName x && decide ((C, f, xs.length + 1, ks, src) ∈ G.mks) && chkA G Γ es xs && chkK G Γ kes ks kws
    | _ => false
  | tm, Γ, .mth _ C m f ks src a es kes, e => match e with
    | .Call (.Attribute x g ap) xs kws p => decide (g = m) && baseB x && lineB ap p (xs.length + kws.length) && decide ((C, m, f, xs.length + 1, ks, src) ∈ G.meths) && chkM G false Γ a x && chkA G Γ es xs && chkK G Γ kes ks kws
    | _ => false
  | tm, Γ, .bm m a es, e => match e with
    | .Call (.Attribute x g ap) xs [] p => decide (g = mthNm m) && baseB x && lineB ap p xs.length && chkM G false Γ a x && chkA G Γ es xs
    | _ => false
  | tm, Γ, .lrng1 _ a, e => match rngA1 e with
    | some (x, y, z) => decide (x = "list") && decide (y = "range") && kindB Γ.sc x .globalImplicit && kindB Γ.sc y .globalImplicit && notStarB z && chkM G false Γ a z
    | none => false
  | tm, Γ, .lrng2 _ a b, e => match rngA2 e with
    | some (x, y, z, u) => decide (x = "list") && decide (y = "range") && kindB Γ.sc x .globalImplicit && kindB Γ.sc y .globalImplicit && notStarB z && notStarB u && chkM G false Γ a z && chkM G false Γ b u
    | none => false
  | tm, Γ, .dsp ks es, e => match e with
    | .Dict kx vx _ => !kx.isEmpty && decide (kx.length ≤ 15) && decide (kx.length = vx.length) && chkKx ks kx && chkA G Γ es vx
    | _ => false
  | tm, Γ, .len1 C f a, e => match e with
    | .Call (.Name x _) [y] [] _ => decide (x = "len") && kindB Γ.sc x .globalImplicit && notStarB y && decide ((C, f) ∈ G.lens) && chkM G false Γ a y
    | _ => false
def chkO (G : GE) : SE → IO → Option Expr → Bool
  | _, .no, e => e.isNone
  | Γ, .so q, e => match e with
    | some x => chkM G false Γ q x
    | none => false
def chkA (G : GE) : SE → IEs → List Expr → Bool
  | _, .nil, l => l.isEmpty
  | Γ, .cons e es, l => match l with
    | x :: xs => notStarB x && chkM G false Γ e x && chkA G Γ es xs
    | [] => false
def chkK (G : GE) : SE → IEs → List Str → List Keyword → Bool
  | _, .nil, ks, l => ks.isEmpty && l.isEmpty
  | Γ, .cons e es, ks, l => match ks, l with
    | k :: ks, ⟨nm, x, _⟩ :: xs => decide (nm = some k) && chkM G false Γ e x && chkK G Γ es ks xs
    | _, _ => false
def chkI (G : GE) : SE → II → Expr → Expr → Bool
  | Γ, .seq q, _, e => chkM G false Γ q e && !isSetB e
  | Γ, .rng1 a, _, e => match e with
    | .Call (.Name x _) [y] [] _ => decide (x = "range") && kindB Γ.sc x .globalImplicit && notStarB y && chkM G false Γ a y
    | _ => false
  | Γ, .rng2 a b, _, e => match e with
    | .Call (.Name x _) [y, z] [] _ => decide (x = "range") && kindB Γ.sc x .globalImplicit && notStarB y && notStarB z && chkM G false Γ a y && chkM G false Γ b z
    | _ => false
  | Γ, .enum a, tg, e => match e with
    | .Call (.Name x _) [y] [] _ => decide (x = "enumerate") && kindB Γ.sc x .globalImplicit && notStarB y && isTupE tg && chkM G false Γ a y
    | _ => false
  | Γ, .zip st es, tg, e => match e with
    | .Call (.Name x _) xs kws _ => decide (x = "zip") && kindB Γ.sc x .globalImplicit && isTupE tg && strictB st kws && decide (2 ≤ xs.length) && chkA G Γ es xs
    | _ => false
end
abbrev chkE (G : GE) : SE → IE → Expr → Bool := chkM G false
end Hv

set_option Elab.async false
set_option linter.all false
set_option maxRecDepth 100000
set_option maxHeartbeats 4000000
/-! HvK: exceptions of own classes: their making, the clause that catches them. -/
namespace Hv
open PySem PySem.Spec PyProof.Rows L2

theorem upd_self {H : Hp} {a : Addr} {o : HO} (h : H a = some o) : upd H a o = H := by
  funext b
  by_cases e : b = a
  · rw [e, upd_same, h]
  · rw [upd_ne e]
theorem upd_upd {H : Hp} {a : Addr} {o u : HO} : upd (upd H a o) a u = upd H a u := by
  funext b
  by_cases e : b = a
  · rw [e, upd_same, upd_same]
  · rw [upd_ne e, upd_ne e, upd_ne e]
theorem upd_swap {H : Hp} {a b : Addr} {o u : HO} (h : a ≠ b) : upd (upd H a o) b u = upd (upd H b u) a o := by
  funext c
  by_cases e : c = a
  · rw [e, upd_same, upd_ne h, upd_same]
  · by_cases e2 : c = b
    · rw [e2, upd_same, upd_ne (Ne.symm h), upd_same]
    · rw [upd_ne e, upd_ne e2, upd_ne e2, upd_ne e]
/-! ### __init__ -/
/-- the places of __init__'s names: self 0, the others behind it -/
def srcT : Src → TE
  | .arg i => tVar (i + 1)
  | .dfl c => tC c.v
def tIs (K : PySem.W.Frag) : List (Str × Src) → TS
  | [] => fun D σ H => D.nx σ H
  | (f, s) :: r => fun D σ H => tOx K f (tVar 0) (srcT s) { D with nx := tIs K r D } σ H
def cstN : Cst → Const → Bool
  | .non, .none => true
  | .bl b, .bool k => b == k
  | .int i, .int j => decide (i = j)
  | .str s, .str t => decide (s = t)
  | _, _ => false
def locB (N : List Str) (sc : Scope) (i : Nat) (x : Str) : Bool := decide (N[i]? = some x) && decide (sc.names.lookup x = some .local) && !(x == ("__debug__" : Str)) && !(x == ("__classdict__" : Str))
def srcB (N : List Str) (sc : Scope) : Src → Expr → Bool
  | .arg i, .Name y _ => locB N sc (i + 1) y
  | .dfl c, .Constant v _ _ => cstN c v
  | _, _ => false
def chkInit (N : List Str) (sc : Scope) : List (Str × Src) → List Stmt → Bool
  | [], l => l.isEmpty
  | (f, s) :: r, l => match l with
    | .Assign [.Attribute (.Name x _) g _] e _ :: t => decide (g = f) && locB N sc 0 x && srcB N sc s e && chkInit N sc r t
    | _ => false
section
variable {X : Cx} {N : List Str}
theorem pe_loc {i : Nat} {x : Str} {pos : Pos} (hN : X.N = N) (h : locB N X.env.scope i x = true) : PE X (.Name x pos) (tVar i) := by
  unfold locB at h
  simp only [Bool.and_eq_true, decide_eq_true_eq, Bool.not_eq_true'] at h
  exact pe_var (by rw [hN]; exact h.1.1.1) (.inl h.1.1.2) h.1.2 h.2
theorem pe_cstN {c : Cst} {v : Const} {j : Nat} {pos : Pos} (h : cstN c v = true) : PE X (.Constant v j pos) (tC c.v) := by
  unfold cstN at h
  split at h
  · exact pe_non
  · rename_i b k
    obtain rfl : b = k := by simpa using h
    exact pe_bl
  · rename_i b k
    obtain rfl := of_decide_eq_true h
    exact pe_int
  · rename_i b k
    obtain rfl := of_decide_eq_true h
    exact pe_str
  · cases h
theorem pe_srcT {s : Src} {e : Expr} (hN : X.N = N) (h : srcB N X.env.scope s e = true) : PE X e (srcT s) ∧ ∀ t l, swapsWith e t l X.env = pure false := by
  cases s with
  | arg i =>
    cases e <;> first | (cases h; done) | skip
    exact ⟨pe_loc hN h, fun _ _ => rfl⟩
  | dfl c =>
    cases e <;> first | (cases h; done) | skip
    rename_i v j pos
    exact ⟨pe_cstN h, fun _ _ => rfl⟩
theorem pss_init (hN : X.N = N) : ∀ (fl : List (Str × Src)) (body : List Stmt), chkInit N X.env.scope fl body = true → PSs X body (tIs X.K fl)
  | [], body, h => by
    cases body with
    | nil => exact pss_nil
    | cons _ _ => cases h
  | (f, s) :: r, body, h => by
    cases body with
    | nil => cases h
    | cons st t =>
      cases st <;> first | (cases h; done) | skip
      rename_i tgs e pos
      rcases tgs with _ | ⟨tg, _ | ⟨_, _⟩⟩ <;> first | (cases h; done) | (simp [chkInit] at h; done) | skip
      cases tg <;> first | (cases h; done) | skip
      rename_i o g p
      cases o <;> first | (cases h; done) | skip
      simp only [chkInit, Bool.and_eq_true, decide_eq_true_eq] at h
      obtain ⟨⟨⟨rfl, h1⟩, h2⟩, h3⟩ := h
      obtain ⟨a, b⟩ := pe_srcT hN h2
      exact pss_cons (ps_ox (pe_loc hN h1) a (b _ _)) (pss_init hN r t h3)
end
/-- the values of the fields -/
def srcV (σ : L2.St) : Src → Option V
  | .arg i => (σ[i + 1]?).join
  | .dfl c => some c.v
def SrcIs {α : Type} (k : Cst → α) (ws : List α) (s : Src) (y : α) : Prop := match s with
  | .arg i => ws[i]? = some y
  | .dfl c => y = k c
theorem flV_cons {α : Type} {k : Cst → α} {ws : List α} {f : Str} {s : Src} {r : List (Str × Src)} {gs : List (Str × α)} (h : flV k ws ((f, s) :: r) = some gs) : ∃ y hs, gs = (f, y) :: hs ∧ flV k ws r = some hs ∧ SrcIs k ws s y := by
  cases s with
  | arg i =>
    unfold flV at h
    cases e : ws[i]? with
    | none => rw [e] at h; cases h
    | some x =>
      rw [e] at h
      cases e2 : flV k ws r with
      | none => rw [e2] at h; cases h
      | some hs =>
        rw [e2] at h
        cases h
        exact ⟨x, hs, rfl, rfl, e⟩
  | dfl c =>
    unfold flV at h
    cases e2 : flV k ws r with
    | none => rw [e2] at h; cases h
    | some hs =>
      rw [e2] at h
      cases h
      exact ⟨k c, hs, rfl, rfl, rfl⟩
theorem src_run {N : List Str} {a : Addr} {ws : List V} {s : Src} {y : V} {H : Hp} {Q : VK} (h : SrcIs Cst.v ws s y) (q : Q y H) : srcT s (L2.start N (.ref a :: ws)) H Q := by
  cases s with
  | arg i =>
    refine ⟨y, ?_, q⟩
    have h : ws[i]? = some y := h
    have hl := (List.getElem?_eq_some_iff.mp h).1
    unfold L2.start
    rw [List.getElem?_append_left (by simp; omega), List.getElem?_map, List.getElem?_cons_succ, h]
    rfl
  | dfl c =>
    have h : y = c.v := h
    subst h
    exact q
theorem tIs_old {K : PySem.W.Frag} {N : List Str} {a C dx : Addr} {ws : List V} {D : Ends} (T : OxC K C) (hne : dx ≠ a) : ∀ (fl : List (Str × Src)) (hs : List (Str × V)) (gs : List (Str × V)) (H : Hp), (∀ f, f ∈ fl.map (·.1) → PySem.W.findIn K (.ref C) f = some none) → flV Cst.v ws fl = some hs → gs.length + fl.length ≤ 900 →
    H a = some (exo a C (some dx)) → H dx = some (exd dx gs) → D.nx (L2.start N (.ref a :: ws)) (upd H dx (exd dx (hs.reverse ++ gs))) → tIs K fl D (L2.start N (.ref a :: ws)) H
  | [], hs, gs, H, _, h, _, ea, ed, q => by
    cases h
    rw [List.reverse_nil, List.nil_append, upd_self ed] at q
    exact q
  | (f, s) :: r, hs, gs, H, hno, h, hl, ea, ed, q => by
    obtain ⟨y, hs', rfl, h2, h3⟩ := flV_cons h
    rw [List.length_cons] at hl
    refine src_run h3 ⟨.ref a, by unfold L2.start; rfl, a, C, rfl, T, hno f (by simp), .inr ⟨dx, gs, ea, ed, by omega, ?_⟩⟩
    refine tIs_old T hne r hs' ((f, y) :: gs) _ (fun g hg => hno g (by simp only [List.map_cons, List.mem_cons]; exact .inr hg)) h2 (by rw [List.length_cons]; omega) ?_ upd_same ?_
    · rw [upd_ne (Ne.symm hne)]
      exact ea
    · rw [upd_upd]
      rw [List.reverse_cons, List.append_assoc] at q
      exact q
/-- what __init__ promises: self gets its dict, with the fields -/
def spI (K : PySem.W.Frag) (n : Nat) (fl : List (Str × Src)) : Sp := fun vs H Q _ => vs.length = n + 1 ∧ ∃ (a C : Addr) (ws : List V) (hs : List (Str × V)), vs = .ref a :: ws ∧ OxC K C ∧ (∀ f, f ∈ fl.map (·.1) → PySem.W.findIn K (.ref C) f = some none) ∧ H a = some (exo a C none) ∧ flV Cst.v ws fl = some hs ∧
  ∀ dx, H dx = none → dx ≠ a → Q .non (upd (upd H dx (exd dx hs.reverse)) a (exo a C (some dx)))
/-- a def __init__ of such a class -/
def InitA (K : PySem.W.Frag) (n : Nat) (fl : List (Str × Src)) (a : Addr) (fd : FuncData) (ps : List Str) : Prop := ∃ (name qual : Str) (params : Arguments) (body : List Stmt) (scope : Scope) (dV kV doc pm cdv ct oc : Value) (an od : Option Addr) (osl : Array (Option Value)) (N : List Str),
    fd = PySem.W.fnOf name qual params body scope dV kV doc pm an cdv ct ∧ K.lookup a = some ⟨oc, od, .func fd, osl⟩ ∧ PySem.W.codeIn K cdv qual = true ∧ FnScope N ps scope ∧ ps.length = n + 1 ∧ chkInit N scope fl body = true
theorem init_ok {P : Program} {w : World} {K : PySem.W.Frag} {mg : Str → Option Value} {base : Heap} {n : Nat} {fl : List (Str × Src)} {a : Addr} {fd : FuncData} {ps : List Str} (hfl : fl ≠ []) (hl : fl.length ≤ 800) (h : InitA K n fl a fd ps) : FnOk P w K mg base (L2.CX P w) 1 a fd ps (spI K n fl) := by
  obtain ⟨name, qual, params, body, scope, dV, kV, doc, pm, cdv, ct, oc, an, od, osl, N, rfl, lk, hcd, S, e1, hchk⟩ := h
  refine fn_of lk hcd S (fun vs H Q E h => h.1.trans e1.symm) fun A' outer s H vs Q E hr hsp => ?_
  refine ⟨_, pss_init (N := N) rfl fl body hchk, ?_⟩
  obtain ⟨_, b, C, ws, hs, rfl, T, hno, eb, hv, q⟩ := hsp
  cases fl with
  | nil => exact absurd rfl hfl
  | cons p r =>
    obtain ⟨f, s⟩ := p
    obtain ⟨y, hs', rfl, h2, h3⟩ := flV_cons hv
    rw [List.length_cons] at hl
    refine src_run h3 ⟨.ref b, by unfold L2.start; rfl, b, C, rfl, T, hno f (by simp), .inl ⟨eb, fun dx n1 n2 => ?_⟩⟩
    refine tIs_old T n2 r hs' [(f, y)] _ (fun g hg => hno g (by simp only [List.map_cons, List.mem_cons]; exact .inr hg)) h2 (by simp; omega) upd_same (by rw [upd_ne n2, upd_same]) ?_
    rw [upd_swap (Ne.symm n2), upd_upd]
    have := q dx n1 n2
    rw [List.reverse_cons] at this
    exact this
/-- a class's defs -/
def clsBody (s : Stmt) : List Stmt := match s with
  | .ClassDef _ _ _ b _ _ _ _ _ _ _ => b
  | _ => []
/-- what is known of a class and its __init__ -/
structure ExcK (P : Program) (w : World) (K : PySem.W.Frag) (mg : Str → Option Value) (base : Heap) (n : Nat) (fl : List (Str × Src)) (C fI : Addr) (fd : FuncData) (ps : List Str) : Prop where
  oex : OxC K C
  nof : ∀ f, f ∈ fl.map (·.1) → PySem.W.findIn K (.ref C) f = some none
  ini : PySem.W.findIn K (.ref C) "__init__" = some (some (.ref fI))
  fty : PySem.W.typeIn K (.ref fI) = some (.type "function")
  fok : FnOk P w K mg base (L2.CX P w) 1 fI fd ps (spI K n fl)
  bnd : ∀ (s : Shared) (us : List Value), us.length = n + 1 → BindsTo s fd ⟨us, []⟩ (ps.zip us)
end Hv

set_option Elab.async false
set_option linter.all false
set_option maxRecDepth 100000
set_option maxHeartbeats 4000000
/-! HvE: soundness of expressions. -/
namespace Hv
open PySem PySem.Spec PyProof.Rows L2

/-! ### calls -/
def SrcR (us : List Value) : List Src → List Value → Prop
  | [], zs => zs = []
  | .arg i :: r, zs => ∃ z t, zs = z :: t ∧ us[i]? = some z ∧ SrcR us r t
  | .dfl c :: r, zs => ∃ z t, zs = z :: t ∧ RelV c.v z ∧ SrcR us r t
/-- how a def's parameters come of a call's values: n of them by place, the others by the names ks -/
structure ShapeOk (K : PySem.W.Frag) (fd : FuncData) (ps : List Str) (n : Nat) (ks : List Str) (src : List Src) : Prop where
  len : src.length = ps.length
  run : ∀ (s : Shared) (us ws : List Value), K.In s.heap → us.length = n → ws.length = ks.length → ∃ zs, BindsTo s fd ⟨us, ks.zip ws⟩ (ps.zip zs) ∧ SrcR (us ++ ws) src zs
theorem Cst.r {K : PySem.W.Frag} {mg : Str → Option Value} {ω : Wd} (k : Cst) : R K mg ω k.d k.v := by
  cases k
  · exact .non
  · exact .bl _
  · exact .int _
  · exact .str _
theorem arr_rs {K : PySem.W.Frag} {mg : Str → Option Value} {ω : Wd} {ds : List D} {vs : List V} (r : Rs K mg ω ds vs) : ∀ {src : List Src} {es : List D}, arrD Cst.d ds src = some es → ∃ us, arrD Cst.v vs src = some us ∧ Rs K mg ω es us
  | [], es, e => by cases e; exact ⟨[], rfl, .nil⟩
  | .arg i :: src, es, e => by
    unfold arrD at e
    cases h : ds[i]? with
    | none => rw [h] at e; cases e
    | some d =>
      rw [h] at e
      cases h2 : arrD Cst.d ds src with
      | none => rw [h2] at e; cases e
      | some es' =>
        rw [h2] at e
        cases e
        obtain ⟨v, e1, r1⟩ := r.get h
        obtain ⟨us, e2, r2⟩ := arr_rs r h2
        refine ⟨v :: us, ?_, .cons r1 r2⟩
        unfold arrD
        rw [e1, e2]
        rfl
  | .dfl c :: src, es, e => by
    unfold arrD at e
    cases h2 : arrD Cst.d ds src with
    | none => rw [h2] at e; cases e
    | some es' =>
      rw [h2] at e
      cases e
      obtain ⟨us, e2, r2⟩ := arr_rs r h2
      refine ⟨c.v :: us, ?_, .cons c.r r2⟩
      unfold arrD
      rw [e2]
      rfl
theorem arr_vals {vs : List V} {us : List Value} (r : Vals vs us) : ∀ {src : List Src} {xs : List V} {zs : List Value}, arrD Cst.v vs src = some xs → SrcR us src zs → Vals xs zs
  | [], xs, zs, e, h => by cases e; cases h; exact .nil
  | .arg i :: src, xs, zs, e, h => by
    obtain ⟨z, t, rfl, h1, h2⟩ := h
    unfold arrD at e
    cases q : vs[i]? with
    | none => rw [q] at e; cases e
    | some v =>
      rw [q] at e
      cases q2 : arrD Cst.v vs src with
      | none => rw [q2] at e; cases e
      | some es' =>
        rw [q2] at e
        cases e
        obtain ⟨u, e1, r1⟩ := r.get q
        rw [h1] at e1
        cases e1
        exact .cons r1 (arr_vals r q2 h2)
  | .dfl c :: src, xs, zs, e, h => by
    obtain ⟨z, t, rfl, h1, h2⟩ := h
    unfold arrD at e
    cases q2 : arrD Cst.v vs src with
    | none => rw [q2] at e; cases e
    | some es' =>
      rw [q2] at e
      cases e
      exact .cons h1 (arr_vals r q2 h2)
theorem arr_len {α : Type} {k : Cst → α} {vs : List α} : ∀ {src : List Src} {xs : List α}, arrD k vs src = some xs → xs.length = src.length
  | [], xs, e => by cases e; rfl
  | .arg i :: src, xs, e => by
    unfold arrD at e
    cases q : vs[i]? with
    | none => rw [q] at e; cases e
    | some v =>
      rw [q] at e
      cases q2 : arrD k vs src with
      | none => rw [q2] at e; cases e
      | some es' =>
        rw [q2] at e
        cases e
        show es'.length + 1 = src.length + 1
        rw [arr_len q2]
  | .dfl c :: src, xs, e => by
    unfold arrD at e
    cases q2 : arrD k vs src with
    | none => rw [q2] at e; cases e
    | some es' =>
      rw [q2] at e
      cases e
      show es'.length + 1 = src.length + 1
      rw [arr_len q2]
def spC (K : PySem.W.Frag) (mg : Str → Option Value) (call : CallF) (f : Nat) (n : Nat) : Sp := fun vs H Q E =>
  vs.length = n ∧ ∃ ω c ds, Rel K mg ω c H ∧ Rs K mg ω ds vs ∧ Post K mg (R K mg) ω (fun cls dd _ H => E cls dd H) [] (call f ds c) Q
structure GOk (G : GE) (call : CallF) (k : Nat) (P : Program) (w : World) (K : PySem.W.Frag) (mg : Str → Option Value) (base : Heap) : Prop where
  blt : ∀ f : Blt, mg (bltName f) = none
  rng : mg "range" = none
  ty : ∀ n, n ∈ tyNames → mg (Str.ofString n) = none
  enm : mg "enumerate" = none
  zip : mg "zip" = none
  con : ∀ x q, (x, q) ∈ G.consts → ∃ u, mg x = some u ∧ RelV (Cst.v q) u
  fld : ∀ C f, (C, f) ∈ G.flds → ∃ cc, mg C = some (.ref cc) ∧ Cls K cc ∧ NoAttr K cc f
  mth : ∀ C m f n ks src, (C, m, f, n, ks, src) ∈ G.meths → ∃ cc a fd ps, mg C = some (.ref cc) ∧ Cls K cc ∧ Meth K cc m a ∧ FnOk P w K mg base (L2.CX P w) k a fd ps (spC K mg call f ps.length) ∧ ShapeOk K fd ps n ks src
  mks : ∀ C f n ks src, (C, f, n, ks, src) ∈ G.mks → ∃ cc a fd ps, mg C = some (.ref cc) ∧ Mk K cc a ∧ FnOk P w K mg base (L2.CX P w) k a fd ps (spC K mg call f ps.length) ∧ ShapeOk K fd ps n ks src
  lens : ∀ C f, (C, f) ∈ G.lens → ∃ cc a fd ps, mg C = some (.ref cc) ∧ Cls K cc ∧ Meth K cc "__len__" a ∧ FnOk P w K mg base (L2.CX P w) k a fd ps (spC K mg call f ps.length) ∧ ShapeOk K fd ps 1 [] [.arg 0]
  fn : ∀ f n ks src, (f, n, ks, src) ∈ G.shapes → ∃ x a fd ps, G.names.lookup f = some x ∧ mg x = some (.ref a) ∧ PySem.W.keepIn K (.ref a) = true ∧ FnOk P w K mg base (L2.CX P w) k a fd ps (spC K mg call f ps.length) ∧ ShapeOk K fd ps n ks src
  exc : ∀ C n fl sup, (C, n, fl, sup) ∈ G.excs → n ≤ 1000 ∧ ∃ a fI fd ps, XInfo K mg C a sup (fl.map (·.1)) ∧ ExcK P w K mg base n fl a fI fd ps
  cls : ∀ n, n ∈ G.cls → ∃ v u, ClsN mg n v u
structure EOk (G : GE) (call : CallF) (k : Nat) (X : Cx) (Γ : SE) (W : WX) : Prop where
  g : GOk G call k X.prog X.w X.K X.mg X.base
  N : X.N = Γ.N
  nd : X.N.Nodup
  sc : X.env.scope = Γ.sc
  calm : X.calm = true
  kind : X.env.scope.kind = .function
  fn : ∀ x, Γ.fn x = true → X.fn x = true
  room : Room (k + 1) X.A
  two : 2 ≤ k
  takes : Takes X W
  own : PassesOwn (model X.prog X.w) X.A X.env X.xe
section
variable {G : GE} {call : CallF} {k : Nat} {X : Cx} {Γ : SE} {W : WX} {pins : List (Addr × Obj)} {σ : L2.St} {H : Hp} {s : Shared}
/-- the callee runs -/
theorem run_callG {K : PySem.W.Frag} {fd : FuncData} {ps ks : List Str} {n : Nat} {src : List Src} {sp : Sp} {f : Addr} {us ws : List Value} {vs zs xs : List V} {Q : VK} (F : FnOk X.prog X.w X.K X.mg X.base (L2.CX X.prog X.w) k f fd ps sp) (hr : Room k X.A) (sh : ShapeOk X.K fd ps n ks src) (tk : Takes X W)
    (I : Inv X pins σ H s) (r : Vals vs us) (rz : Vals zs ws) (l1 : us.length = n) (l2 : ws.length = ks.length) (e : arrD Cst.v (vs ++ zs) src = some xs) (h : sp xs H Q (fun cls d H' => W cls d σ H')) :
    wpAny (model X.prog X.w) X.A (PySem.call (.ref f) us (ks.zip ws)) (EP X pins σ Q) X.xe s := by
  obtain ⟨ys, hb, hs⟩ := sh.run s us ws I.kIn l1 l2
  refine wpAny_call (codeAny_mono (F.run X.A X.stack s H ⟨us, ks.zip ws⟩ ys xs Q _ hr I.env0 hb (arr_vals (r.append rz) e hs) h) fun r s' hq => ?_)
  cases r with
  | error e => exact tk e s' (XE.of_call I (fun _ _ _ h => h) hq)
  | ok fl =>
    cases fl with
    | ret u => exact I.after hq
    | next => exact False.elim hq
    | brk => exact False.elim hq
    | cont => exact False.elim hq
theorem star_ns {x : Expr} (h : notStarB x = true) (xs : List Expr) (env : Env) : starEach (x :: xs) env = (false, eval x env) :: starEach xs env := by
  cases x <;> first | rfl | cases h
theorem back_ns {env : Env} {pos : Pos} : ∀ {xs : List Expr}, (xs.all notStarB) = true → (backTo pos (starEach xs env)).any (·.1) = false
  | [], _ => rfl
  | x :: xs, h => by
    rw [List.all_cons, Bool.and_eq_true] at h
    rw [star_ns h.1]
    show (false || (backTo pos (starEach xs env)).any (·.1)) = false
    rw [back_ns h.2]
    rfl
theorem kw_all {env : Env} {pos : Pos} : ∀ {es : IEs} {ks : List Str} {kws : List Keyword}, chkK G Γ es ks kws = true → (backToKw pos (keywordEach kws env)).all (·.1.isSome) = true ∧ (backToKw pos (keywordEach kws env)).filterMap (·.1) = ks ∧ (backToKw pos (keywordEach kws env)).any (·.1.isNone) = false
  | .nil, ks, kws, h => by
    cases ks <;> cases kws <;> first | (cases h; done) | exact ⟨rfl, rfl, rfl⟩
  | .cons e es, [], _, h => by cases h
  | .cons e es, _ :: _, [], h => by cases h
  | .cons e es, k :: ks, ⟨nm, x, p⟩ :: kws, h => by
    rw [chkK] at h
    simp only [Bool.and_eq_true, decide_eq_true_eq] at h
    obtain ⟨⟨h1, h2⟩, h3⟩ := h
    subst h1
    obtain ⟨a, b, c⟩ := kw_all (env := env) (pos := pos) h3
    refine ⟨?_, ?_, ?_⟩
    · show (true && (backToKw pos (keywordEach kws env)).all (·.1.isSome)) = true
      rw [a]; rfl
    · show k :: (backToKw pos (keywordEach kws env)).filterMap (·.1) = k :: ks
      rw [b]
    · show (false || (backToKw pos (keywordEach kws env)).any (·.1.isNone)) = false
      rw [c]; rfl
def tCallG (sp : Sp) (n m : Nat) (src : List Src) (W : WX) (t tk : TA) : TE := fun σ H Q => t σ H fun vs H1 => tk σ H1 fun zs H2 => ∃ xs, vs.length = n ∧ zs.length = m ∧ arrD Cst.v (vs ++ zs) src = some xs ∧ sp xs H2 Q (fun cls d H' => W cls d σ H')
theorem pe_callG {x : Str} {p pos : Pos} {e : Expr} {es : List Expr} {kws : List Keyword} {t tk : TA} {fd : FuncData} {ps ks : List Str} {n : Nat} {src : List Src} {sp : Sp} {f : Addr} (F : FnOk X.prog X.w X.K X.mg X.base (L2.CX X.prog X.w) k f fd ps sp) (hr : Room k X.A) (hg : Gl X x) (hm : X.mg x = some (.ref f)) (hk : PySem.W.keepIn X.K (.ref f) = true)
    (sh : ShapeOk X.K fd ps n ks src) (tkW : Takes X W) (ha : PA X (e :: es) t) (hkw : PK X kws tk) (hns : (e :: es).all notStarB = true)
    (hkws : (backToKw pos (keywordEach kws X.env)).all (·.1.isSome) = true ∧ (backToKw pos (keywordEach kws X.env)).filterMap (·.1) = ks ∧ (backToKw pos (keywordEach kws X.env)).any (·.1.isNone) = false)
    (hdb : (x == ("__debug__" : Str)) = false) : PE X (.Call (.Name x p) (e :: es) kws pos) (tCallG sp n ks.length src W t tk) := by
  obtain ⟨hall, hks, hnn⟩ := hkws
  refine ⟨fun pins s σ H Q I h => ?_⟩
  refine wpAny_Call_Name_kw (ld_glob I hg hm ?_ hdb)
  have hns' := hns
  rw [List.all_cons, Bool.and_eq_true] at hns'
  refine PySem.W.callWith_KW (h₀ := X.base) I.ok.mod.kin hk hall (thn (ha.run pos pins s σ H _ I h) fun us s1 ⟨vs, H1, I1, r, q⟩ => ?_) (by rw [back_ns hns, hnn]; rfl) (star_ns hns'.1 _ _)
  refine thn (hkw.run pos pins s1 σ H1 _ I1 q) fun ws s2 ⟨zs, H2, I2, rz, xs, l1, l2, e, q2⟩ => ⟨I2.kIn, ?_⟩
  rw [hks]
  exact run_callG (K := X.K) F hr sh tkW I2 r rz (r.length.symm.trans l1) (rz.length.symm.trans l2) e q2
theorem pe_callG0 {x : Str} {p pos : Pos} {kws : List Keyword} {tk : TA} {fd : FuncData} {ps ks : List Str} {n : Nat} {src : List Src} {sp : Sp} {f : Addr} (F : FnOk X.prog X.w X.K X.mg X.base (L2.CX X.prog X.w) k f fd ps sp) (hr : Room k X.A) (hg : Gl X x) (hm : X.mg x = some (.ref f)) (hk : PySem.W.keepIn X.K (.ref f) = true)
    (sh : ShapeOk X.K fd ps n ks src) (tkW : Takes X W) (hkw : PK X kws tk)
    (hkws : (backToKw pos (keywordEach kws X.env)).all (·.1.isSome) = true ∧ (backToKw pos (keywordEach kws X.env)).filterMap (·.1) = ks ∧ (backToKw pos (keywordEach kws X.env)).any (·.1.isNone) = false)
    (hdb : (x == ("__debug__" : Str)) = false) : PE X (.Call (.Name x p) [] kws pos) (tCallG sp n ks.length src W tNil tk) := by
  obtain ⟨hall, hks, hnn⟩ := hkws
  refine ⟨fun pins s σ H Q I h => ?_⟩
  refine wpAny_Call_Name_kw (ld_glob I hg hm ?_ hdb)
  refine PySem.W.callWith_KW0 (h₀ := X.base) I.ok.mod.kin hk hall (thn (hkw.run pos pins s σ H _ I h) fun ws s2 ⟨zs, H2, I2, rz, xs, l1, l2, e, q2⟩ => ⟨I2.kIn, ?_⟩) (by rw [back_ns (xs := []) rfl, hnn]; rfl)
  rw [hks]
  exact run_callG (K := X.K) (us := []) (vs := []) F hr sh tkW I2 .nil rz (by exact l1) (rz.length.symm.trans l2) e q2

/-! ### own methods, own instances, with keywords -/
theorem base_ok {o : Expr} {m : Str} {env : Env} {wh : Sem Value} (h : baseB o = true) : attributeBase o m env wh = wh := by
  cases o with
  | Call f as ks p =>
    cases as with
    | nil =>
      cases ks with
      | nil => cases h
      | cons _ _ => cases f <;> rfl
    | cons _ _ => cases f <;> rfl
  | _ => rfl
theorem form_ns {env : Env} {pos : Pos} : ∀ {xs : List Expr}, (xs.all notStarB) = true → (backTo pos (starEach xs env)).all (fun x => !x.1) = true
  | [], _ => rfl
  | x :: xs, h => by
    rw [List.all_cons, Bool.and_eq_true] at h
    rw [star_ns h.1]
    show (true && (backTo pos (starEach xs env)).all (fun x => !x.1)) = true
    rw [form_ns h.2]
    rfl
theorem meth_form {o : Expr} {m : Str} {apos pos : Pos} {es : List Expr} {kws : List Keyword} {env : Env} (hb : baseB o = true) (hl : lineB apos pos (es.length + kws.length) = true) (hns : es.all notStarB = true) (hall : (backToKw pos (keywordEach kws env)).all (·.1.isSome) = true) :
    eval (.Call (.Attribute o m apos) es kws pos) env = (do
      let ov ← eval o env
      standAt apos.atName
      let (f, first) ← holding [ov] (getMethod ov m (do return (← importBound o env).getD true))
      callWith pos f first (backTo pos (starEach es env)) (backToKw pos (keywordEach kws env))) := by
  unfold lineB at hl
  rw [Bool.and_eq_true, decide_eq_true_eq] at hl
  have hf : methodCallForm (es.length + kws.length) (backTo pos (starEach es env)) (backToKw pos (keywordEach kws env)) = true := by
    unfold methodCallForm
    rw [form_ns hns, hall]
    simp only [Bool.true_and, decide_eq_true_eq]
    split <;> omega
  rw [arm_eval_Call, base_ok hb]
  unfold methodCall
  rw [hf]
  have hp : methodCallPos true o env apos pos = pure pos := by
    unfold methodCallPos
    rw [hl.1]
    rfl
  simp only [hp, calleeOf, if_true, pure_bind]
def tMethG (C : Addr) (m : Str) (sp : Sp) (n k : Nat) (src : List Src) (W : WX) (ta : TE) (t tk : TA) : TE := fun σ H Q => ta σ H fun x H1 => ∃ a dx fs, x = .ref a ∧ H1 a = some (.ins C dx fs) ∧ fs.lookup m = none ∧
  t σ H1 fun vs H2 => tk σ H2 fun zs H3 => ∃ xs, vs.length + 1 = n ∧ zs.length = k ∧ arrD Cst.v (x :: (vs ++ zs)) src = some xs ∧ sp xs H3 Q (fun cls d H' => W cls d σ H')
theorem pe_methG {o : Expr} {m : Str} {apos pos : Pos} {es : List Expr} {kws : List Keyword} {ta : TE} {t tk : TA} {fd : FuncData} {ps ks : List Str} {n : Nat} {src : List Src} {sp : Sp} {C f : Addr} (F : FnOk X.prog X.w X.K X.mg X.base (L2.CX X.prog X.w) k f fd ps sp) (hr : Room k X.A) (he : PE X o ta) (c : Cls X.K C) (hm : Meth X.K C m f)
    (sh : ShapeOk X.K fd ps n ks src) (tkW : Takes X W) (ha : PA X es t) (hkw : PK X kws tk) (hns : es.all notStarB = true)
    (hkws : (backToKw pos (keywordEach kws X.env)).all (·.1.isSome) = true ∧ (backToKw pos (keywordEach kws X.env)).filterMap (·.1) = ks ∧ (backToKw pos (keywordEach kws X.env)).any (·.1.isNone) = false)
    (hz : es = [] → ∀ σ H Q, t σ H Q → Q [] H) (hb : baseB o = true) (hl : lineB apos pos (es.length + kws.length) = true) : PE X (.Call (.Attribute o m apos) es kws pos) (tMethG C m sp n ks.length src W ta t tk) := by
  obtain ⟨hall, hks, hnn⟩ := hkws
  refine ⟨fun pins s σ H Q I h => ?_⟩
  refine PySem.W.methodCall_KW (thn (he.run pins s σ H _ I h) fun u s1 ⟨x, H1, I1, rx, a, dx, fs, ex, ea, l, q⟩ => ?_) (meth_form hb hl hns hall)
  subst ex
  obtain rfl : u = Value.ref a := rx
  refine getmeth_ok I1 ea c hm l ?_
  cases es with
  | nil =>
    have q := hz rfl _ _ _ q
    refine PySem.W.callWith_KW0 (first := [.ref a]) (h₀ := X.base) I.ok.mod.kin hm.kp hall (thn (hkw.run pos pins s1 σ H1 _ I1 q) fun ws s2 ⟨zs, H2, I2, rz, xs, l1, l2, e, q2⟩ => ⟨I2.kIn, ?_⟩) (by rw [back_ns (xs := []) rfl, hnn]; rfl)
    rw [hks]
    exact run_callG (K := X.K) (us := [.ref a]) (vs := [.ref a]) F hr sh tkW I2 (.cons rfl .nil) rz l1 (rz.length.symm.trans l2) e q2
  | cons e0 es' =>
    have hns' := hns
    rw [List.all_cons, Bool.and_eq_true] at hns'
    refine PySem.W.callWith_KW (first := [.ref a]) (h₀ := X.base) I.ok.mod.kin hm.kp hall (thn (ha.run pos pins s1 σ H1 _ I1 q) fun us s2 ⟨vs, H2, I2, r, q2⟩ => ?_) (by rw [back_ns hns, hnn]; rfl) (star_ns hns'.1 _ _)
    refine thn (hkw.run pos pins s2 σ H2 _ I2 q2) fun ws s3 ⟨zs, H3, I3, rz, xs, l1, l2, e, q3⟩ => ⟨I3.kIn, ?_⟩
    rw [hks]
    exact run_callG (K := X.K) (us := .ref a :: us) (vs := .ref a :: vs) F hr sh tkW I3 (.cons rfl r) rz (by rw [List.length_cons, ← r.length]; exact l1) (rz.length.symm.trans l2) e q3
theorem run_makeG {pins : List (Addr × Obj)} {σ : L2.St} {H : Hp} {s : Shared} {Q : VK} {us ws : List Value} {vs zs : List V} {fd : FuncData} {ps ks : List Str} {n : Nat} {src : List Src} {sp : Sp} {C f : Addr} (M : Mk X.K C f) (F : FnOk X.prog X.w X.K X.mg X.base (L2.CX X.prog X.w) k f fd ps sp) (hr : Room (k + 1) X.A) (sh : ShapeOk X.K fd ps n ks src) (tkW : Takes X W)
    (I : Inv X pins σ H s) (r : Vals vs us) (rz : Vals zs ws) (l1 : vs.length + 1 = n) (l2 : zs.length = ks.length)
    (h : ∀ x dx, H x = none → H dx = none → dx ≠ x → ∃ xs, arrD Cst.v (.ref x :: (vs ++ zs)) src = some xs ∧ sp xs (upd (upd H dx (.own x)) x (.ins C dx [])) (fun v H2 => v = .non ∧ Q (.ref x) H2) (fun cls d H' => W cls d σ H')) :
    wpAny (model X.prog X.w) X.A (PySem.call (.ref C) us (ks.zip ws)) (EP X pins σ Q) X.xe s := by
  obtain ⟨xs, he, hq⟩ := h (s.heap.objs.size + 1) s.heap.objs.size (I.hok.fresh (Nat.le_succ _)) (I.hok.fresh (Nat.le_refl _)) (Nat.ne_of_lt (Nat.lt_succ_self _))
  have I2 := Inv.made (C := C) I
  have r1 : Vals (V.ref (s.heap.objs.size + 1) :: vs) (Value.ref (s.heap.objs.size + 1) :: us) := .cons rfl r
  obtain ⟨ys, hb, hs⟩ := sh.run _ (Value.ref (s.heap.objs.size + 1) :: us) ws I2.kIn (by rw [List.length_cons, ← r.length]; exact l1) (rz.length.symm.trans l2)
  refine wpAny_call (make_map (f := f) I.kIn M.makes M.init (beq_iff_eq.mp M.fn) (codeAny_mono (F.run _ X.stack _ _ ⟨Value.ref (s.heap.objs.size + 1) :: us, ks.zip ws⟩ ys xs _ _ (hr.make C us (ks.zip ws))
    (I2.env0.make C us (ks.zip ws)) hb (arr_vals (r1.append rz) he hs) hq) fun r s' hq' => ?_))
  cases r with
  | error e => exact tkW e s' (XE.of_call I2 (fun _ _ _ h => h) hq')
  | ok fl =>
    cases fl with
    | ret u =>
      obtain ⟨v, H', I3, rv, ev, q3⟩ := I2.after hq'
      subst ev
      exact ⟨rv, ⟨V.ref (s.heap.objs.size + 1), H', I3, rfl, q3⟩⟩
    | next => exact False.elim hq'
    | brk => exact False.elim hq'
    | cont => exact False.elim hq'
def tMakeG (C : Addr) (sp : Sp) (n k : Nat) (src : List Src) (W : WX) (t tk : TA) : TE := fun σ H Q => t σ H fun vs H1 => tk σ H1 fun zs H2 => vs.length + 1 = n ∧ zs.length = k ∧
  ∀ x dx, H2 x = none → H2 dx = none → dx ≠ x → ∃ xs, arrD Cst.v (.ref x :: (vs ++ zs)) src = some xs ∧ sp xs (upd (upd H2 dx (.own x)) x (.ins C dx [])) (fun v H3 => v = .non ∧ Q (.ref x) H3) (fun cls d H' => W cls d σ H')
theorem pe_makeG {x : Str} {p pos : Pos} {es : List Expr} {kws : List Keyword} {t tk : TA} {fd : FuncData} {ps ks : List Str} {n : Nat} {src : List Src} {sp : Sp} {C f : Addr} (M : Mk X.K C f) (F : FnOk X.prog X.w X.K X.mg X.base (L2.CX X.prog X.w) k f fd ps sp) (hr : Room (k + 1) X.A) (hg : Gl X x) (hm : X.mg x = some (.ref C))
    (sh : ShapeOk X.K fd ps n ks src) (tkW : Takes X W) (ha : PA X es t) (hkw : PK X kws tk) (hns : es.all notStarB = true)
    (hkws : (backToKw pos (keywordEach kws X.env)).all (·.1.isSome) = true ∧ (backToKw pos (keywordEach kws X.env)).filterMap (·.1) = ks ∧ (backToKw pos (keywordEach kws X.env)).any (·.1.isNone) = false)
    (hz : es = [] → ∀ σ H Q, t σ H Q → Q [] H) (hdb : (x == ("__debug__" : Str)) = false) : PE X (.Call (.Name x p) es kws pos) (tMakeG C sp n ks.length src W t tk) := by
  obtain ⟨hall, hks, hnn⟩ := hkws
  refine ⟨fun pins s σ H Q I h => ?_⟩
  refine wpAny_Call_Name_kw (ld_glob I hg hm ?_ hdb)
  cases es with
  | nil =>
    have q := hz rfl _ _ _ h
    refine PySem.W.callWith_KW0 (h₀ := X.base) I.ok.mod.kin M.kp hall (thn (hkw.run pos pins s σ H _ I q) fun ws s2 ⟨zs, H2, I2, rz, l1, l2, q2⟩ => ⟨I2.kIn, ?_⟩) (by rw [back_ns (xs := []) rfl, hnn]; rfl)
    rw [hks]
    exact run_makeG (us := []) (vs := []) M F hr sh tkW I2 .nil rz l1 l2 q2
  | cons e0 es' =>
    have hns' := hns
    rw [List.all_cons, Bool.and_eq_true] at hns'
    refine PySem.W.callWith_KW (h₀ := X.base) I.ok.mod.kin M.kp hall (thn (ha.run pos pins s σ H _ I h) fun us s2 ⟨vs, H2, I2, r, q2⟩ => ?_) (by rw [back_ns hns, hnn]; rfl) (star_ns hns'.1 _ _)
    refine thn (hkw.run pos pins s2 σ H2 _ I2 q2) fun ws s3 ⟨zs, H3, I3, rz, l1, l2, q3⟩ => ⟨I3.kIn, ?_⟩
    rw [hks]
    exact run_makeG M F hr sh tkW I3 r rz l1 l2 q3
end
end Hv

set_option Elab.async false
set_option linter.all false
set_option maxRecDepth 100000
set_option maxHeartbeats 4000000
/-! HvM: raise. -/
namespace Hv
open PySem PySem.Spec PyProof.Rows L2

section
variable {X : Cx} {n : Nat} {fl : List (Str × Src)} {C fI : Addr} {fd : FuncData} {ps : List Str}
theorem mk_callX {pins : List (Addr × Obj)} {σ : L2.St} {H1 : Hp} {s1 : Shared} {Q : XK} {us : List Value} {vs : List V} {hs : List (Str × V)} (T : ExcK X.prog X.w X.K X.mg X.base n fl C fI fd ps) (hr : Room 2 X.A) (hx : Passes (L2.CX X.prog X.w) X (fun _ _ _ => False)) (I1 : Inv X pins σ H1 s1) (r1 : Vals vs us)
    (hn : vs.length = n) (hz : n ≤ 1000) (hv : flV Cst.v vs fl = some hs) (q : ∀ d, H1 d = none → Q (.ref C) (some d) (upd H1 d (.xd hs.reverse))) :
    wpAny (model X.prog X.w) X.A (PySem.call (.ref C) us) (MkP X pins σ Q) X.xe s1 := by
  obtain ⟨nm, qn, N, bs, bm, sn, sub, ab, col, dd, k0, k1, k2, k3, k5, Bn, n1, n2, bmB, hC, hbm, hF, hT⟩ := T.oex.cls
  obtain ⟨hp, g, dr, tk, os⟩ := s1
  have hlu : us.length = n := r1.length.symm.trans hn
  have hbig : hp.objs.size ≤ hp.objs.size + 1 := by omega
  have hnone : H1 (hp.objs.size + 1) = none := I1.hok.fresh hbig
  have kk : ∀ b o, hp.get? b = some o → ((hp.push (PySem.W.kdv_tup us)).push (PySem.HandSPX.excO C hp.objs.size)).get? b = some o := by
    intro b o e
    exact Heap.get?_push_of_some _ (Heap.get?_push_of_some _ e)
  have hat : ((hp.push (PySem.W.kdv_tup us)).push (PySem.HandSPX.excO C hp.objs.size)).get? (hp.objs.size + 1) = some (PySem.HandSPX.excO C hp.objs.size) := by
    heap_get
  have J := I1.laid (t' := tk) (a := hp.objs.size + 1) (o := exo (hp.objs.size + 1) C none) (h' := (hp.push (PySem.W.kdv_tup us)).push (PySem.HandSPX.excO C hp.objs.size)) kk hbig (exo_ok hat)
  have rr : Vals (V.ref (hp.objs.size + 1) :: vs) (Value.ref (hp.objs.size + 1) :: us) := .cons rfl r1
  have hsz : us.length ≤ sizeLine := by rw [hlu, sizeLine_eq]; omega
  refine wpAny_call (PySem.HandSPX.call_own hF hT (I1.kIn _ _ hC) (PySem.W.looks_findIn I1.kIn T.ini) (fun self => PySem.W.bind_fn I1.kIn self T.fty) hsz ?_)
  refine codeAny_mono (T.fok.run _ X.stack _ (upd H1 (hp.objs.size + 1) (exo (hp.objs.size + 1) C none)) ⟨Value.ref (hp.objs.size + 1) :: us, []⟩ (Value.ref (hp.objs.size + 1) :: us) (V.ref (hp.objs.size + 1) :: vs)
    (fun v H2 => v = .non ∧ ∃ (d : Addr), H2 (hp.objs.size + 1) = some (exo (hp.objs.size + 1) C (some d)) ∧ H2 d = some (exd d hs.reverse) ∧ H1 d = none ∧ Q (.ref C) (some d) (upd (del H2 (hp.objs.size + 1)) d (.xd hs.reverse))) (fun _ _ _ => False) (hr.make C us []) (J.env0.make C us [])
    (T.bnd _ (Value.ref (hp.objs.size + 1) :: us) (by rw [List.length_cons, hlu])) rr ⟨by rw [List.length_cons, hn], hp.objs.size + 1, C, vs, hs, rfl, T.oex, T.nof, upd_same, hv, fun dx n1 n2 => ?_⟩) fun r s' hq' => ?_
  · have n3 : H1 dx = none := by rwa [upd_ne n2] at n1
    refine ⟨rfl, dx, upd_same, by rw [upd_ne n2, upd_same], n3, ?_⟩
    have e : upd (del (upd (upd (upd H1 (hp.objs.size + 1) (exo (hp.objs.size + 1) C none)) dx (exd dx hs.reverse)) (hp.objs.size + 1) (exo (hp.objs.size + 1) C (some dx))) (hp.objs.size + 1)) dx (.xd hs.reverse) = upd H1 dx (.xd hs.reverse) := by
      funext b
      by_cases h1 : b = dx
      · rw [h1, upd_same, upd_same]
      · rw [upd_ne h1, upd_ne h1]
        by_cases h2 : b = hp.objs.size + 1
        · rw [h2, del_same, hnone]
        · rw [del_ne h2, upd_ne h2, upd_ne h1, upd_ne h2]
    rw [e]
    exact q dx n3
  · cases r with
    | error er => exact hx pins σ _ _ er s' J hq'
    | ok fw =>
      cases fw with
      | ret u =>
        obtain ⟨v, H2, os2, bare2, un2, hok2, rv, ev, d, ea, ed, hd1, q2⟩ := hq'
        subst ev
        obtain ⟨h2, g2, d2, t2, os'⟩ := s'
        exact ⟨rv, mk_end (raises_own T.oex.exC T.oex.tyC) I1 hbig kk un2 hok2 os2 bare2 ea ed hd1 q2⟩
      | next => exact hq'.elim
      | brk => exact hq'.elim
      | cont => exact hq'.elim
/-- C(e, ..) that is raised -/
def tRse (n : Nat) (fl : List (Str × Src)) (C : Addr) (ta : TA) : L2.St → Hp → XK → Prop := fun σ H Q => ta σ H fun vs H1 => vs.length = n ∧ ∃ hs, flV Cst.v vs fl = some hs ∧ ∀ d, H1 d = none → Q (.ref C) (some d) (upd H1 d (.xd hs.reverse))
theorem pmk_x {x : Str} {p pos : Pos} {e : Expr} {es : List Expr} {ta : TA} (T : ExcK X.prog X.w X.K X.mg X.base n fl C fI fd ps) (hz : n ≤ 1000) (hr : Room 2 X.A) (hx : Passes (L2.CX X.prog X.w) X (fun _ _ _ => False)) (hg : Gl X x) (hm : X.mg x = some (.ref C)) (hdb : (x == ("__debug__" : Str)) = false) (ha : PA X (e :: es) ta) (hns : (e :: es).all notStarB = true) :
    PMk X (.Call (.Name x p) (e :: es) [] pos) (tRse n fl C ta) := by
  intro pins s σ H Q I h
  refine wpAny_Call_Name_kw (ld_glob I hg hm ?_ hdb)
  have hns' := hns
  rw [List.all_cons, Bool.and_eq_true] at hns'
  refine PySem.W.callWith_K (h₀ := X.base) I.ok.mod.kin T.oex.kC (thn (ha.run pos pins s σ H _ I h) fun us s1 ⟨vs, H1, I1, r1, hn, hs, hv, q⟩ => ⟨I1.kIn, ?_⟩) (star_ns hns'.1 _ _) (back_ns hns'.2)
  exact mk_callX T hr hx I1 r1 hn hz hv q
theorem pmk_x0 {x : Str} {p pos : Pos} (T : ExcK X.prog X.w X.K X.mg X.base n fl C fI fd ps) (hz : n ≤ 1000) (hr : Room 2 X.A) (hx : Passes (L2.CX X.prog X.w) X (fun _ _ _ => False)) (hg : Gl X x) (hm : X.mg x = some (.ref C)) (hdb : (x == ("__debug__" : Str)) = false) :
    PMk X (.Call (.Name x p) [] [] pos) (tRse n fl C tNil) := by
  intro pins s σ H Q I h
  refine wpAny_Call_Name_kw (ld_glob I hg hm ?_ hdb)
  refine PySem.W.callWith_KW0 (h₀ := X.base) I.ok.mod.kin T.oex.kC rfl (thn (pk_nil.run pos pins s σ H (fun vs H1 => vs = [] ∧ vs.length = n ∧ ∃ hs, flV Cst.v vs fl = some hs ∧ ∀ d, H1 d = none → Q (.ref C) (some d) (upd H1 d (.xd hs.reverse))) I ⟨rfl, h⟩) fun ws s2 ⟨zs, H2, I2, rz, hz0, hn, hs, hv, q⟩ => ⟨I2.kIn, ?_⟩) rfl
  subst hz0
  exact mk_callX T hr hx I2 .nil hn hz hv q
end
end Hv

set_option Elab.async false
set_option linter.all false
set_option maxRecDepth 100000
set_option maxHeartbeats 4000000
/-! HvN: the except suite. -/
namespace Hv
open PySem PySem.Spec PyProof.Rows L2

def rIsD (K : PySem.W.Frag) (D a dd : Addr) : List V → Hp → VK → Prop := fun xs H Q => ∃ (c : V) (cv : Value) (b : Bool) (fs : List (Str × V)), xs = [.ref a, c] ∧ (∀ u, RelV c u → u = cv) ∧ PySem.W.kitOne K (.ref D) cv = some b ∧ H dd = some (.xd fs) ∧ Q (.bl b) H
theorem call_isD {X : Cx} {a D dd : Addr} {oe : Obj} {pn : List (Addr × Obj)} (C : ExcC X.K D) (hz : Zc (.ref D) (some dd) oe) (hf : ∃ vs, oe.data = .fields vs) : CallR (X.suite a ((a, oe) :: pn)) (.builtin "isinstance") (rIsD X.K D a dd) := by
  intro pins s σ H xs us Q I r h
  obtain ⟨c, cv, b, fs, rfl, hcv, hk, hd, q⟩ := h
  match us, r with
  | [u1, u2], .cons r1 (.cons r2 .nil) =>
    obtain rfl : u1 = Value.ref a := r1
    obtain rfl := hcv _ r2
    have hpin := (I.pin (a, oe) (List.mem_append_left _ List.mem_cons_self)).1
    obtain ⟨vs, hv⟩ := hf
    have hx : ObjOk X.prog X.w H s.heap dd (.xd fs) := I.hok dd _ hd
    obtain ⟨mA, hns, _⟩ := hx
    obtain ⟨od, ho, _⟩ := lookIn_ns hns
    have J : PySem.W.InstAt s.heap a oe D (some od) := ⟨hpin, hz.1, by unfold PySem.W.notCls; rw [hv] <;> rfl, by rw [hz.2]; exact ho⟩
    obtain ⟨cd, hcd, _⟩ := PySem.W.any_some C.hd
    have Z := PySem.W.kitx_exc (x := a) (ox := oe) (od := some od) (show (PySem.W.clsIn X.K D).isSome = true by rw [hcd]; rfl) C.hg C.hk C.hs C.ha C.hn C.ht C.hm
    exact PySem.W.kia_one Z I.kIn J hk (fun z => nomatch z) fun tk => ⟨.bl b, H, I.kept (t' := tk) fun _ _ z => z, rfl, q⟩
/-- e.f, isinstance(e, n) where e stands for the caught exception at a -/
def tHx (K : PySem.W.Frag) (mg : Str → Option Value) (i : Nat) (a : Addr) (cls : Value) (d : Option Addr) : HX → TE
  | .fld f => fun σ H Q => σ[i]? = some (some (.ref a)) ∧ ∃ (C dd : Addr) (fs : List (Str × V)) (v : V), cls = .ref C ∧ XfC K C ∧ PySem.W.findIn K (.ref C) f = some none ∧ d = some dd ∧ H dd = some (.xd fs) ∧ fs.lookup f = some v ∧ Q v H
  | .isi n => fun σ H Q => σ[i]? = some (some (.ref a)) ∧ ∃ (C dd : Addr) (fs : List (Str × V)) (cv : Value) (u : V) (b : Bool), cls = .ref C ∧ ExcC K C ∧ ClsN mg n cv u ∧ PySem.W.kitOne K (.ref C) cv = some b ∧ d = some dd ∧ H dd = some (.xd fs) ∧ Q (.bl b) H
def tHxs (K : PySem.W.Frag) (mg : Str → Option Value) (i : Nat) (a : Addr) (cls : Value) (d : Option Addr) : List HX → TA
  | [] => tNil
  | h :: r => tCons (tHx K mg i a cls d h) (tHxs K mg i a cls d r)
def locN (N : List Str) (sc : Scope) (i : Nat) (x : Str) : Bool := locB N sc i x
def hxB (cl : List Str) (N : List Str) (sc : Scope) (i : Nat) : HX → Expr → Bool
  | .fld f, .Attribute (.Name y _) g _ => locB N sc i y && decide (g = f)
  | .isi c, .Call (.Name z _) [.Name y _, .Name w _] [] _ => decide (z = "isinstance") && locB N sc i y && decide (w = c) && kindB sc z .globalImplicit && kindB sc w .globalImplicit && okName w && cl.contains w
  | _, _ => false
def hxsB (cl : List Str) (N : List Str) (sc : Scope) (i : Nat) : List HX → List Expr → Bool
  | [], l => l.isEmpty
  | h :: r, l => match l with
    | e :: t => notStarB e && hxB cl N sc i h e && hxsB cl N sc i r t
    | [] => false
def suiteB (cl : List Str) (N : List Str) (sc : Scope) (i : Nat) (hx : List HX) (tg : Option Nat) (st : Stmt) : Bool := match tg with
  | none => match st with
    | .Return (some (.Tuple xs _ _)) _ => hxsB cl N sc i hx xs
    | _ => false
  | some j => match st with
    | .Assign [.Name y _] (.Tuple xs _ _) _ => locB N sc j y && decide (j ≠ i) && hxsB cl N sc i hx xs
    | _ => false
def tSuite (K : PySem.W.Frag) (mg : Str → Option Value) (i : Nat) (hx : List HX) (tg : Option Nat) (a : Addr) (cls : Value) (d : Option Addr) : TS := match tg with
  | none => tSeq (tRet (tTup (tHxs K mg i a cls d hx))) tNext
  | some j => tSeq (tAsg (tTup (tHxs K mg i a cls d hx)) (gName j)) tNext
theorem clsN_inj {mg : Str → Option Value} {n : Str} {v v' : Value} {u u' : V} (h : ClsN mg n v u) (h' : ClsN mg n v' u') : v = v' := by
  rcases h.1 with a | ⟨a, b, _⟩
  · rcases h'.1 with a' | ⟨a', _, _⟩
    · exact Option.some.inj (a.symm.trans a')
    · rw [a] at a'; cases a'
  · rcases h'.1 with a' | ⟨a', b', _⟩
    · rw [a] at a'; cases a'
    · exact Option.some.inj (b.symm.trans b')
section
variable {X : Cx} {a : Addr} {oe : Obj} {pn : List (Addr × Obj)} {N cl : List Str} {i : Nat} {cls : Value} {d : Option Addr}
theorem kindB_d {sc : Scope} {x : Str} {k : NameKind} (h : kindB sc x k = true) : sc.names.lookup x = some k := of_decide_eq_true h
theorem okName_e {x : Str} (h : okName x = true) : (x == ("__debug__" : Str)) = false ∧ x ≠ "__name__" := by
  unfold okName at h
  simp only [Bool.and_eq_true, Bool.not_eq_true', decide_eq_false_iff_not] at h
  exact ⟨h.1.1, h.2⟩
theorem pe_clsn {Y : Cx} {w : Str} {v : Value} {u : V} {pos : Pos} (h : ClsN Y.mg w v u) (hg : Gl Y w) (ho : okName w = true) : PE Y (.Name w pos) (tC u) := by
  obtain ⟨e1, e2⟩ := okName_e ho
  rcases h.1 with h1 | ⟨h1, h2, h3⟩
  · exact pe_glob hg h1 ((h.2 v).mpr rfl) e1
  · exact pe_bltn hg h1 h2 ((h.2 v).mpr rfl) h3 e1
theorem pe_hx (hN : X.N = N) (hcl : ∀ n, n ∈ cl → ∃ v u, ClsN X.mg n v u) (hbi : X.mg "isinstance" = none) (hz : Zc cls d oe) (hf : ∃ vs, oe.data = .fields vs) {h : HX} {e : Expr} (hb : hxB cl N X.env.scope i h e = true) :
    PE (X.suite a ((a, oe) :: pn)) e (tHx X.K X.mg i a cls d h) := by
  cases h with
  | fld f =>
    cases e <;> first | (cases hb; done) | skip
    rename_i o g pos
    cases o <;> first | (cases hb; done) | skip
    rename_i y p
    simp only [hxB, Bool.and_eq_true, decide_eq_true_eq] at hb
    obtain ⟨h1, rfl⟩ := hb
    refine ⟨fun pins s σ H Q I hh => ?_⟩
    obtain ⟨hσ, C, dd, fs, v, rfl, T, hno, rfl, hd, hl, q⟩ := hh
    exact (pe_xf (X := X) T hno hz hf (pe_loc (X := X.suite a ((a, oe) :: pn)) hN h1)).run pins s σ H Q I ⟨.ref a, hσ, rfl, rfl, dd, fs, v, rfl, hd, hl, q⟩
  | isi c =>
    cases e <;> first | (cases hb; done) | skip
    rename_i o xs kws pos
    cases o <;> first | (cases hb; done) | skip
    rename_i z pz
    rcases xs with _ | ⟨x1, _ | ⟨x2, _ | ⟨_, _⟩⟩⟩ <;> first | (cases hb; done) | (simp [hxB] at hb; done) | skip
    cases x1 <;> first | (cases hb; done) | skip
    cases x2 <;> first | (cases hb; done) | skip
    cases kws <;> first | (cases hb; done) | skip
    rename_i y py w pw
    simp only [hxB, Bool.and_eq_true, decide_eq_true_eq] at hb
    obtain ⟨⟨⟨⟨⟨⟨rfl, h1⟩, rfl⟩, h2⟩, h3⟩, h4⟩, h5⟩ := hb
    obtain ⟨v, u, hc⟩ := hcl w (by simpa using h5)
    refine ⟨fun pins s σ H Q I hh => ?_⟩
    obtain ⟨hσ, C, dd, fs, cv, u', b, rfl, T, hc', hk, rfl, hd, q⟩ := hh
    obtain rfl := clsN_inj hc hc'
    have hpa : PA (X.suite a ((a, oe) :: pn)) [.Name y py, .Name w pw] (tCons (tVar i) (tCons (tC u) tNil)) := pa_cons (pe_loc (X := X.suite a ((a, oe) :: pn)) hN h1) (pa_cons (pe_clsn (Y := X.suite a ((a, oe) :: pn)) hc (kindB_d h3) h4) pa_nil)
    exact (pe_callB (X := X.suite a ((a, oe) :: pn)) (call_isD T hz hf) (kindB_d h2) hbi (by decide +kernel) hpa).run pins s σ H Q I ⟨.ref a, hσ, u, v, b, fs, rfl, fun z hz => (hc.2 z).mp hz, hk, hd, q⟩
theorem pa_hxs (hN : X.N = N) (hcl : ∀ n, n ∈ cl → ∃ v u, ClsN X.mg n v u) (hbi : X.mg "isinstance" = none) (hz : Zc cls d oe) (hf : ∃ vs, oe.data = .fields vs) : ∀ {hs : List HX} {es : List Expr}, hxsB cl N X.env.scope i hs es = true → PA (X.suite a ((a, oe) :: pn)) es (tHxs X.K X.mg i a cls d hs)
  | [], es, hb => by
    cases es with
    | nil => exact pa_nil
    | cons _ _ => cases hb
  | h :: r, es, hb => by
    cases es with
    | nil => cases hb
    | cons e t =>
      simp only [hxsB, Bool.and_eq_true] at hb
      exact pa_cons (pe_hx hN hcl hbi hz hf hb.1.2) (pa_hxs hN hcl hbi hz hf hb.2) (star_ns hb.1.1 _ _)
theorem pss_suite (hN : X.N = N) (hnd : X.N.Nodup) (hcl : ∀ n, n ∈ cl → ∃ v u, ClsN X.mg n v u) (hbi : X.mg "isinstance" = none) (hz : Zc cls d oe) (hf : ∃ vs, oe.data = .fields vs) {hs : List HX} {tg : Option Nat} {st : Stmt} (hb : suiteB cl N X.env.scope i hs tg st = true) :
    PSs (X.suite a ((a, oe) :: pn)) (st :: []) (tSuite X.K X.mg i hs tg a cls d) := by
  cases tg with
  | none =>
    cases st <;> first | (cases hb; done) | skip
    rename_i v pos
    cases v with
    | none => cases hb
    | some x =>
      cases x <;> first | (cases hb; done) | skip
      exact pss_cons (ps_ret (pe_tup (pa_hxs hN hcl hbi hz hf hb))) pss_nil
  | some j =>
    cases st <;> first | (cases hb; done) | skip
    rename_i tgs x pos
    rcases tgs with _ | ⟨t, _ | ⟨_, _⟩⟩ <;> first | (cases hb; done) | (simp [suiteB] at hb; done) | skip
    cases t <;> first | (cases hb; done) | skip
    cases x <;> first | (cases hb; done) | skip
    simp only [suiteB, Bool.and_eq_true, decide_eq_true_eq] at hb
    obtain ⟨⟨h1, h2⟩, h3⟩ := hb
    unfold locB at h1
    simp only [Bool.and_eq_true, decide_eq_true_eq, Bool.not_eq_true'] at h1
    exact pss_cons (ps_asg (pe_tup (pa_hxs hN hcl hbi hz hf h3)) (pg_name (X := X.suite a ((a, oe) :: pn)) (i := j) hnd (by rw [← hN] at h1; exact h1.1.1.1) (.inl h1.1.1.2) (.inr h1.1.1.2))) pss_nil
end
/-! ### what they tell -/
section
variable {K : PySem.W.Frag} {mg : Str → Option Value} {ω : Wd} {i : Nat} {a : Addr} {x : XD} {cls : Value} {d : Option Addr} {H : Hp} {c : Ct}
theorem rf_lookup : ∀ {fs : List (Str × D)} {gs : List (Str × V)} {f : Str} {y : D}, Rf K mg ω fs gs → fs.lookup f = some y → ∃ v, gs.lookup f = some v ∧ R K mg ω y v ∧ f ∈ fs.map (·.1)
  | _, _, f, y, .nil, h => by cases h
  | _, _, f, y, .cons (f := g) (d := d0) (v := v0) (ds := ds) (vs := vs) r t, h => by
    rw [lookup_put'] at h
    rw [lookup_put]
    by_cases e : f = g
    · rw [if_pos e] at h ⊢
      cases h
      exact ⟨v0, rfl, r, by rw [e]; simp⟩
    · rw [if_neg e] at h ⊢
      obtain ⟨v, h1, h2, h3⟩ := rf_lookup t h
      exact ⟨v, h1, h2, by simp only [List.map_cons, List.mem_cons]; exact .inr h3⟩
where
  lookup_put' {α : Type} {f g : Str} {y : α} {fs : List (Str × α)} : ((f, y) :: fs).lookup g = if g = f then some y else fs.lookup g := by
    by_cases h : g = f
    · subst h
      simp [List.lookup]
    · have e : (g == f) = false := by simpa using h
      rw [if_neg h]
      simp [List.lookup, e]
theorem lookup_mem {α : Type} : ∀ {l : List (Str × α)} {n : Str} {b : α}, l.lookup n = some b → (n, b) ∈ l
  | [], n, b, h => by cases h
  | (m, y) :: l, n, b, h => by
    rw [rf_lookup.lookup_put'] at h
    by_cases e : n = m
    · rw [if_pos e] at h
      cases h
      rw [e]
      exact List.mem_cons_self
    · rw [if_neg e] at h
      exact List.mem_cons_of_mem _ (lookup_mem h)
theorem hx_run (rx : RX K mg ω x cls d) (rel : Rel K mg ω c H) {σ : L2.St} (hσ : σ[i]? = some (some (.ref a))) : ∀ (hs : List HX) (ds : List D) (Q : List V → Hp → Prop), hxVs x hs = some ds → (∀ vs, Rs K mg ω ds vs → Q vs H) → tHxs K mg i a cls d hs σ H Q
  | [], ds, Q, h, q => by
    cases h
    exact q [] .nil
  | h :: r, ds, Q, e, q => by
    have rec_ := hx_run rx rel hσ r
    obtain ⟨C, dd, gs, I, rfl, rfl, hd, rf⟩ := rx
    unfold hxVs at e
    cases e1 : hxV x h with
    | none => rw [e1] at e; cases e
    | some y =>
      rw [e1] at e
      cases e2 : hxVs x r with
      | none => rw [e2] at e; cases e
      | some ys =>
        rw [e2] at e
        cases e
        have go : ∀ v, R K mg ω y v → tHxs K mg i a (.ref C) (some dd) r σ H fun xs H2 => Q (v :: xs) H2 := fun v hv => rec_ ys _ e2 fun vs hvs => q (v :: vs) (.cons hv hvs)
        cases h with
        | fld f =>
          obtain ⟨v, h1, h2, h3⟩ := rf_lookup rf e1
          exact ⟨hσ, C, dd, gs, v, rfl, I.xf, I.nof f h3, rfl, rel.ext _ _ hd, h1, go v h2⟩
        | isi n =>
          have e1 : (x.sup.lookup n).map D.bl = some y := e1
          cases e3 : x.sup.lookup n with
          | none => rw [e3] at e1; cases e1
          | some b =>
            rw [e3] at e1
            cases e1
            obtain ⟨v, u, h1, h2, h3⟩ := I.sup n b (lookup_mem e3)
            exact ⟨hσ, C, dd, gs, v, u, b, rfl, I.isx, h1, h3, rfl, rel.ext _ _ hd, go (.bl b) (.bl b)⟩
end
end Hv

set_option Elab.async false
set_option linter.all false
set_option maxRecDepth 100000
set_option maxHeartbeats 4000000
/-! HvF: freezing, what is walked, targets, comprehensions. -/
namespace Hv
open PySem PySem.Spec PyProof.Rows L2

section
variable {K : PySem.W.Frag} {mg : Str → Option Value}
theorem frzL_ok {f : D → Ct → Option (D × Ct)} (hf : ∀ d c e c', f d c = some (e, c') → ∀ ω H v, Rel K mg ω c H → R K mg ω d v → ∃ ω', ω.le ω' ∧ Rel K mg ω' c' H ∧ R K mg ω' e v) :
    ∀ (ds : List D) (c : Ct) (es : List D) (c' : Ct), frzL f ds c = some (es, c') → ∀ ω H vs, Rel K mg ω c H → Rs K mg ω ds vs → ∃ ω', ω.le ω' ∧ Rel K mg ω' c' H ∧ Rs K mg ω' es vs
  | [], c, es, c', h, ω, H, vs, rel, rs => by
    cases h
    cases rs
    exact ⟨ω, .rfl, rel, .nil⟩
  | d :: ds, c, es, c', h, ω, H, vs, rel, rs => by
    unfold frzL at h
    cases e1 : f d c with
    | none => rw [e1] at h; cases h
    | some p =>
      obtain ⟨e, c1⟩ := p
      rw [e1] at h
      cases e2 : frzL f ds c1 with
      | none => simp only [Option.bind_some, e2] at h; cases h
      | some q =>
        obtain ⟨es', c2⟩ := q
        simp only [Option.bind_some, e2] at h
        cases h
        cases rs with
        | cons r t =>
        obtain ⟨ω1, l1, rel1, r1⟩ := hf _ _ _ _ e1 ω H _ rel r
        obtain ⟨ω2, l2, rel2, r2⟩ := frzL_ok hf ds c1 es' c2 e2 ω1 H _ rel1 (t.mono l1.toLo)
        exact ⟨ω2, l1.trans l2, rel2, .cons (r1.mono l2.toLo) r2⟩
theorem frzF_ok {f : D → Ct → Option (D × Ct)} (hf : ∀ d c e c', f d c = some (e, c') → ∀ ω H v, Rel K mg ω c H → R K mg ω d v → ∃ ω', ω.le ω' ∧ Rel K mg ω' c' H ∧ R K mg ω' e v) :
    ∀ (ds : List (Str × D)) (c : Ct) (es : List (Str × D)) (c' : Ct), frzF f ds c = some (es, c') → ∀ ω H vs, Rel K mg ω c H → Rf K mg ω ds vs → ∃ ω', ω.le ω' ∧ Rel K mg ω' c' H ∧ Rf K mg ω' es vs
  | [], c, es, c', h, ω, H, vs, rel, rs => by
    cases h
    cases rs
    exact ⟨ω, .rfl, rel, .nil⟩
  | (x, d) :: ds, c, es, c', h, ω, H, vs, rel, rs => by
    unfold frzF at h
    cases e1 : f d c with
    | none => rw [e1] at h; cases h
    | some p =>
      obtain ⟨e, c1⟩ := p
      rw [e1] at h
      cases e2 : frzF f ds c1 with
      | none => simp only [Option.bind_some, e2] at h; cases h
      | some q =>
        obtain ⟨es', c2⟩ := q
        simp only [Option.bind_some, e2] at h
        cases h
        cases rs with
        | cons r t =>
        obtain ⟨ω1, l1, rel1, r1⟩ := hf _ _ _ _ e1 ω H _ rel r
        obtain ⟨ω2, l2, rel2, r2⟩ := frzF_ok hf ds c1 es' c2 e2 ω1 H _ rel1 (t.mono l1.toLo)
        exact ⟨ω2, l1.trans l2, rel2, .cons (r1.mono l2.toLo) r2⟩
theorem frz_ok : ∀ (k : Nat) (d : D) (c : Ct) (e : D) (c' : Ct), frzD k d c = some (e, c') → ∀ ω H v, Rel K mg ω c H → R K mg ω d v → ∃ ω', ω.le ω' ∧ Rel K mg ω' c' H ∧ R K mg ω' e v := by
  intro k
  induction k with
  | zero =>
    intro d c e c' h ω H v rel r
    unfold frzD at h
    split at h
    · cases h; exact ⟨ω, .rfl, rel, r⟩
    · cases h
  | succ k ih =>
    intro d c e c' h ω H v rel r
    unfold frzD at h
    split at h
    · cases h; exact ⟨ω, .rfl, rel, r⟩
    · cases d with
      | ref n =>
        simp only at h
        cases hc : c[n]? with
        | none => rw [hc] at h; cases h
        | some u =>
          rw [hc] at h
          cases u with
          | lst xs =>
            simp only at h
            cases e1 : frzL (frzD k) xs (c.set n .dead) with
            | none => rw [e1] at h; cases h
            | some p =>
              obtain ⟨ys, c1⟩ := p
              rw [e1] at h
              cases h
              cases r with
              | ref hm =>
              obtain ⟨k1, k2⟩ := rel.live _ _ _ hm hc (by intro z; cases z)
              unfold COk at k2
              split at k2
              · rename_i z; cases z
              · rename_i us vs z1 z2
                cases z1
                obtain ⟨l1, rel1⟩ := rel.freeze hm hc (by intro z; cases z) z2
                obtain ⟨ω2, l2, rel2, r2⟩ := frzL_ok ih _ _ _ _ e1 _ H _ rel1 (k2.mono l1.toLo)
                refine ⟨ω2, l1.trans l2, rel2, .lst (l2.f _ _ ?_) r2⟩
                exact upd_same
              · rename_i z _; cases z
              · rename_i z _; cases z
              · rename_i z _; cases z
              · exact k2.elim
          | ins C fs =>
            simp only at h
            cases e1 : frzF (frzD k) fs (c.set n .dead) with
            | none => rw [e1] at h; cases h
            | some p =>
              obtain ⟨ys, c1⟩ := p
              rw [e1] at h
              cases h
              cases r with
              | ref hm =>
              obtain ⟨k1, k2⟩ := rel.live _ _ _ hm hc (by intro z; cases z)
              unfold COk at k2
              split at k2
              · rename_i z; cases z
              · rename_i z _; cases z
              · rename_i C' fs' cc dx gs z1 z2
                cases z1
                obtain ⟨l1, rel1⟩ := rel.freeze hm hc (by intro z; cases z) z2
                obtain ⟨ω2, l2, rel2, r2⟩ := frzF_ok ih _ _ _ _ e1 _ H _ rel1 (k2.2.mono l1.toLo)
                exact ⟨ω2, l1.trans l2, rel2, .ins k2.1 (l2.f _ _ upd_same) r2⟩
              · rename_i z _; cases z
              · rename_i z _; cases z
              · exact k2.elim
          | dead => cases h
          | dct _ => cases h
      | tup xs =>
        simp only at h
        cases e1 : frzL (frzD k) xs c with
        | none => rw [e1] at h; cases h
        | some p =>
          obtain ⟨ys, c1⟩ := p
          rw [e1] at h
          cases h
          cases r with
          | tup ht rs =>
          obtain ⟨ω2, l2, rel2, r2⟩ := frzL_ok ih _ _ _ _ e1 _ H _ rel rs
          exact ⟨ω2, l2, rel2, .tup (ht.mono l2.f) r2⟩
      | lst xs =>
        simp only at h
        cases e1 : frzL (frzD k) xs c with
        | none => rw [e1] at h; cases h
        | some p =>
          obtain ⟨ys, c1⟩ := p
          rw [e1] at h
          cases h
          cases r with
          | lst ht rs =>
          obtain ⟨ω2, l2, rel2, r2⟩ := frzL_ok ih _ _ _ _ e1 _ H _ rel rs
          exact ⟨ω2, l2, rel2, .lst (l2.f _ _ ht) r2⟩
      | scr xs => cases h
      | non => cases h
      | bl b => cases h
      | int b => cases h
      | str b => cases h
      | ty _ => cases h
      | ins _ _ => cases h
      | dct _ => cases h
      | glo _ => cases h
end

/-! ### what is walked -/
section
variable (K : PySem.W.Frag) (mg : Str → Option Value)
structure Walks (ω₀ : Wd) (J : It) (ds : List D) : Prop where
  go : ∀ (i : Nat) ω c H, ω₀.lo ω → Rel K mg ω c H → i < ds.length → J.go i H
  yld : ∀ (i : Nat) ω c H x H' d, ω₀.lo ω → Rel K mg ω c H → ds[i]? = some d → J.yld i H x H' → ∃ ω', ω.le ω' ∧ Rel K mg ω' c H' ∧ R K mg ω' d x
  stop : ∀ ω c H, ω₀.lo ω → Rel K mg ω c H → J.stop ds.length H
abbrev liftI (W : WX) (f : Sl → Ct → Res (List D)) : TI := lift K mg (fun ω ds J => Walks K mg ω J ds) W f
end
section
variable {K : PySem.W.Frag} {mg : Str → Option Value} {ω : Wd}
theorem walks_list {a : Addr} {vs : List V} {xs : List D} (h : SqL K ω.F a vs) (r : Rs K mg ω xs vs) : Walks K mg ω (Itl K a) xs where
  go := fun i ω' c H l rel hi => by
    obtain ⟨v, hv, _⟩ := r.get (List.getElem?_eq_getElem hi)
    exact ⟨vs, v, sq_l rel.ext (sq_l l.f h), hv⟩
  yld := fun i ω' c H x H' d l rel hd y => by
    obtain ⟨rfl, y⟩ := y
    obtain ⟨v, hv, rv⟩ := r.get hd
    have e := y vs (sq_l rel.ext (sq_l l.f h))
    rw [hv] at e
    cases e
    exact ⟨ω', .rfl, rel, rv.mono l⟩
  stop := fun ω' c H l rel => ⟨vs, sq_l rel.ext (sq_l l.f h), by rw [r.length]; exact Nat.le_refl _⟩
theorem walks_tup {a : Addr} {vs : List V} {xs : List D} (h : SqT K ω.F a vs) (r : Rs K mg ω xs vs) : Walks K mg ω (Itt K a) xs where
  go := fun i ω' c H l rel hi => by
    obtain ⟨v, hv, _⟩ := r.get (List.getElem?_eq_getElem hi)
    exact ⟨vs, v, sq_t rel.ext (sq_t l.f h), hv⟩
  yld := fun i ω' c H x H' d l rel hd y => by
    obtain ⟨rfl, y⟩ := y
    obtain ⟨v, hv, rv⟩ := r.get hd
    have e := y vs (sq_t rel.ext (sq_t l.f h))
    rw [hv] at e
    cases e
    exact ⟨ω', .rfl, rel, rv.mono l⟩
  stop := fun ω' c H l rel => ⟨vs, sq_t rel.ext (sq_t l.f h), by rw [r.length]; exact Nat.le_refl _⟩
theorem walks_str (z : Str) : Walks K mg ω (Its z) (z.cps.toList.map sigD) where
  go := fun i ω' c H l rel hi => by
    have hi : i < (z.cps.toList.map sigD).length := hi
    rw [List.length_map, Array.length_toList] at hi
    exact hi
  yld := fun i ω' c H x H' d l rel hd y => by
    obtain ⟨rfl, k, hk, rfl⟩ := y
    rw [List.getElem?_map, Array.getElem?_toList, hk] at hd
    cases hd
    exact ⟨ω', .rfl, rel, .str _⟩
  stop := fun ω' c H l rel => by
    show z.cps.size ≤ (z.cps.toList.map sigD).length
    rw [List.length_map, Array.length_toList]
    exact Nat.le_refl _
theorem enum_get : ∀ (xs : List D) (n i : Nat) (d : D), (enumD xs n)[i]? = some d → ∃ x, xs[i]? = some x ∧ d = .tup [.int ((n + i : Nat) : Int), x]
  | [], n, i, d, h => by simp [enumD] at h
  | x :: xs, n, 0, d, h => by
    simp only [enumD, List.getElem?_cons_zero, Option.some.injEq] at h
    exact ⟨x, rfl, h.symm⟩
  | x :: xs, n, i + 1, d, h => by
    simp only [enumD, List.getElem?_cons_succ] at h ⊢
    obtain ⟨y, h1, h2⟩ := enum_get xs (n + 1) i d h
    exact ⟨y, h1, by rw [h2, show n + 1 + i = n + (i + 1) by omega]⟩
theorem enum_len : ∀ (xs : List D) (n : Nat), (enumD xs n).length = xs.length
  | [], _ => rfl
  | x :: xs, n => by simp [enumD, enum_len xs (n + 1)]
theorem walks_enum {a : Addr} {vs : List V} {xs : List D} (h : SqL K ω.F a vs) (r : Rs K mg ω xs vs) : Walks K mg ω (Ite K a) (enumD xs 0) where
  go := fun i ω' c H l rel hi => by
    rw [enum_len] at hi
    obtain ⟨v, hv, _⟩ := r.get (List.getElem?_eq_getElem hi)
    exact ⟨vs, v, sq_l rel.ext (sq_l l.f h), hv⟩
  yld := fun i ω' c H x H' d l rel hd y => by
    obtain ⟨T, v, rfl, hT, rfl, y⟩ := y
    obtain ⟨z, hz, rfl⟩ := enum_get xs 0 i d hd
    obtain ⟨v', hv, rv⟩ := r.get hz
    have e := y vs (sq_l rel.ext (sq_l l.f h))
    rw [hv] at e
    cases e
    obtain ⟨l2, rel2⟩ := rel.frozen hT (.tup [.int (i : Nat), v])
    refine ⟨_, l2, rel2, .tup (.inl upd_same) ?_⟩
    rw [Nat.zero_add]
    exact .cons (.int _) (.cons ((rv.mono l).mono l2.toLo) .nil)
  stop := fun ω' c H l rel => ⟨vs, sq_l rel.ext (sq_l l.f h), by rw [enum_len, r.length]; exact Nat.le_refl _⟩
theorem rng_get {lo : Int} {n i : Nat} {d : D} (h : (rngD lo n)[i]? = some d) : i < n ∧ d = .int (lo + i) := by
  unfold rngD at h
  rw [List.getElem?_map] at h
  by_cases hi : i < n
  · rw [List.getElem?_range hi] at h
    cases h
    exact ⟨hi, rfl⟩
  · rw [List.getElem?_eq_none (by simpa using hi)] at h
    cases h
theorem rng_len (lo : Int) (n : Nat) : (rngD lo n).length = n := by simp [rngD]
theorem walks_rng {lo : Int} {n : Nat} : Walks K mg ω (Itr lo n) (rngD lo n) where
  go := fun i ω' c H l rel hi => by
    rw [rng_len] at hi
    exact hi
  yld := fun i ω' c H x H' d l rel hd y => by
    obtain ⟨rfl, rfl⟩ := y
    obtain ⟨_, rfl⟩ := rng_get hd
    exact ⟨ω', .rfl, rel, .int _⟩
  stop := fun ω' c H l rel => by
    rw [rng_len]
    exact Nat.le_refl _
end
section
variable {X : Cx} {W : WX} {tg l : Expr}
theorem _root_.L2.PI.weak {t t' : TI} (h : PI X tg l t) (k : ∀ σ H Q, t' σ H Q → t σ H Q) : PI X tg l t' := ⟨fun pins s σ H Q I q => h.run pins s σ H Q I (k _ _ _ q)⟩
theorem pi_seq {fe : Sl → Ct → Res D} (he : PE X l (liftE X.K X.mg W fe)) : PI X tg l (liftI X.K X.mg W fun sl c => bnd (fe sl c) seqD) := by
  refine ⟨fun pins s σ H Rr I ⟨ω, sl, c, sr, rel, p⟩ => ?_⟩
  refine thn (he.run pins s σ H _ I (post_bind sr rel p)) fun v s1 ⟨x, H1, I1, r1, ω', c', a, le, sr', rel', ra, p'⟩ => ?_
  have fin : ∀ {b : Addr}, b ∈ [s1.heap.objs.size] → FpOk X pins H1 b := fun {b} hb => by
    have e : b = s1.heap.objs.size := by simpa using hb
    subst e
    exact I1.fpOk (Nat.le_refl _) (I1.hok.fresh (Nat.le_refl _))
  unfold seqD at p'
  split at p'
  · cases ra with
    | lst h rs =>
    cases r1
    have h : SqL X.K ω'.F _ _ := .inl (.inl h)
    have hq := sq_l rel'.ext h
    obtain ⟨its, rv, pl, hz⟩ := I1.list hq
    refine wpAny_pyIter_list pl.isList ?_
    exact ⟨s1.heap.objs.size, [s1.heap.objs.size], _, _, H1, rfl, I1.kept (t' := s1.toks) fun b o e => Heap.get?_push_of_some _ e, turn_list _ _, ⟨_, Heap.get?_push_size _ rfl, rfl, rfl⟩, fun b hb => fin hb, p'.ok_of rel' (walks_list h rs)⟩
  · cases ra with
    | scr h rs =>
    cases r1
    have hq := sq_l rel'.ext h
    obtain ⟨its, rv, pl, hz⟩ := I1.list hq
    refine wpAny_pyIter_list pl.isList ?_
    exact ⟨s1.heap.objs.size, [s1.heap.objs.size], _, _, H1, rfl, I1.kept (t' := s1.toks) fun b o e => Heap.get?_push_of_some _ e, turn_list _ _, ⟨_, Heap.get?_push_size _ rfl, rfl, rfl⟩, fun b hb => fin hb, p'.ok_of rel' (walks_list h rs)⟩
  · cases ra with
    | tup h rs =>
    cases r1
    have hq := sq_t rel'.ext h.sq
    obtain ⟨its, rv, pl, hz⟩ := I1.tuple hq
    refine wpAny_pyIter_tuple (show s1.heap.IsTuple _ its.toArray from pl) ?_
    exact ⟨s1.heap.objs.size, [s1.heap.objs.size], _, _, H1, rfl, I1.kept (t' := s1.toks) fun b o e => Heap.get?_push_of_some _ e, turn_tuple _ _, ⟨_, Heap.get?_push_size _ rfl, rfl, rfl⟩, fun b hb => fin hb, p'.ok_of rel' (walks_tup h.sq rs)⟩
  · rename_i z
    cases ra
    obtain ⟨t, rfl⟩ := r1
    have q := p'.ok_of rel' (walks_str (K := X.K) (mg := X.mg) (ω := ω') z)
    cases ha : z.cps.all (· < 128)
    · exact PySem.wpAny_pyIter_wide ha (pi_one (tk := s1.toks) I1 _ (turn_str _ z t "str_iterator" (.inr rfl)) ⟨_, Heap.get?_push_size _ rfl, rfl, rfl⟩ q)
    · exact PySem.wpAny_pyIter_ascii ha (pi_one (tk := s1.toks) I1 _ (turn_str _ z t "str_ascii_iterator" (.inl rfl)) ⟨_, Heap.get?_push_size _ rfl, rfl, rfl⟩ q)
  · exact p'.elim
end

/-! ### targets -/
/-- the slots of a target are stored, no others -/
def Only' (vs : List Nat) (σ σ' : L2.St) : Prop := σ'.length = σ.length ∧ ∀ i, i ∉ vs → σ'[i]? = σ[i]?
section
variable (K : PySem.W.Frag) (mg : Str → Option Value)
def gT (t : IT) : TG := fun v σ H Q => ∃ ω sl c d sl', SR K mg ω sl σ ∧ Rel K mg ω c H ∧ R K mg ω d v ∧ asT t d sl = some sl' ∧ ∀ σ', SR K mg ω sl' σ' → Only' (slotsT t) σ σ' → Q σ' H
def gTs (ts : List IT) : TGs := fun vs σ H Q => ∃ ω sl c ds sl', SR K mg ω sl σ ∧ Rel K mg ω c H ∧ Rs K mg ω ds vs ∧ asTs ts ds sl = some sl' ∧ ∀ σ', SR K mg ω sl' σ' → Only' (slotsTs ts) σ σ' → Q σ' H
end
section
variable {Γ : SE} {X : Cx}
theorem kindB_iff {sc : Scope} {x : Str} {k : NameKind} : kindB sc x k = true ↔ sc.names.lookup x = some k := by unfold kindB; exact decide_eq_true_iff
theorem _root_.L2.PG.weak {e : Expr} {t t' : TG} (h : PG X e t) (k : ∀ v σ H Q, t' v σ H Q → t v σ H Q) : PG X e t' := ⟨fun pins s σ H v u Q I r q => h.run pins s σ H v u Q I r (k _ _ _ _ q)⟩
theorem _root_.L2.PGs.weak {e : List Expr} {t t' : TGs} (h : PGs X e t) (k : ∀ v σ H Q, t' v σ H Q → t v σ H Q) : PGs X e t' := ⟨fun pins s σ H v u Q I r q => h.run pins s σ H v u Q I r (k _ _ _ _ q)⟩
theorem assign_ns {x : Expr} (h : notStarB x = true) (xs : List Expr) (env : Env) : assignEach (x :: xs) env = (false, fun v => assign x env v) :: assignEach xs env := by
  cases x <;> first | rfl | cases h
theorem assign_len : ∀ {xs : List Expr} {env : Env}, xs.all notStarB = true → (assignEach xs env).length = xs.length ∧ (assignEach xs env).findIdx? (·.1) = none
  | [], _, _ => ⟨rfl, rfl⟩
  | x :: xs, env, h => by
    rw [List.all_cons, Bool.and_eq_true] at h
    obtain ⟨h1, h2⟩ := assign_len (env := env) h.2
    rw [assign_ns h.1]
    refine ⟨by simp [h1], ?_⟩
    rw [List.findIdx?_cons]
    simp [h2]
theorem gos_all : ∀ {ts : List IT} {es : List Expr}, chkT'.gos Γ ts es = true → es.all notStarB = true ∧ ts.length = es.length
  | [], [], _ => ⟨rfl, rfl⟩
  | t :: ts, e :: es, h => by
    unfold chkT'.gos at h
    simp only [Bool.and_eq_true] at h
    obtain ⟨h1, h2⟩ := gos_all h.2
    exact ⟨by rw [List.all_cons, h.1.1, h1]; rfl, by simp [h2]⟩
  | [], _ :: _, h => by unfold chkT'.gos at h; cases h
  | _ :: _, [], h => by unfold chkT'.gos at h; cases h
theorem asTs_len : ∀ {ts : List IT} {ds : List D} {sl sl' : Sl}, asTs ts ds sl = some sl' → ds.length = ts.length
  | [], [], _, _, _ => rfl
  | t :: ts, d :: ds, sl, sl', h => by
    unfold asTs at h
    cases e : asT t d sl with
    | none => rw [e] at h; cases h
    | some s => rw [e] at h; simp [asTs_len (show asTs ts ds s = some sl' from h)]
  | [], _ :: _, _, _, h => by unfold asTs at h; cases h
  | _ :: _, [], _, _, h => by unfold asTs at h; cases h
variable (hN : X.N = Γ.N) (nd : X.N.Nodup) (sc : X.env.scope = Γ.sc) (fn : ∀ x, Γ.fn x = true → X.fn x = true) (hc : X.calm = true)
include hN nd sc fn hc
mutual
theorem pg_T : ∀ (t : IT) (e : Expr), chkT'.go Γ t e = true → PG X e (gT X.K X.mg t)
  | .nm i, .Name x pos, h => by
    unfold chkT'.go at h
    simp only [Bool.and_eq_true, Bool.or_eq_true, decide_eq_true_eq, kindB_iff] at h
    obtain ⟨h1, h2⟩ := h
    have hl : Loc X.env.scope x := by
      rw [sc]
      rcases h2 with h2 | h2
      · exact .inl h2
      · exact .inr h2.1
    have hf : X.fn x = true ∨ X.env.scope.names.lookup x = some .local := by
      rw [sc]
      rcases h2 with h2 | h2
      · exact .inr h2
      · exact .inl (fn x h2.2)
    refine (pg_name (i := i) nd (by rw [hN]; exact h1) hl hf).weak fun v σ H Q ⟨ω, sl, c, d, sl', sr, rel, r, e, k⟩ => ?_
    unfold asT at e
    cases e
    refine k _ (sr.set i r) ⟨by simp, fun j hj => ?_⟩
    unfold slotsT at hj
    rw [List.mem_singleton] at hj
    rw [List.getElem?_set_ne (Ne.symm hj)]
  | .tp ts, .Tuple es kk pos, h => by
    unfold chkT'.go at h
    obtain ⟨h1, h2⟩ := gos_all h
    obtain ⟨h3, h4⟩ := assign_len (env := X.env) h1
    refine (pg_tup (n := es.length) hc (pgs_T ts es h) h3 h4).weak fun v σ H Q ⟨ω, sl, c, d, sl', sr, rel, r, e, k⟩ => ?_
    cases d with
    | tup ds =>
      unfold asT at e
      cases r with
      | tup ht rs =>
      refine ⟨_, _, rfl, sq_t rel.ext ht.sq, ?_, ω, sl, c, ds, sl', sr, rel, rs, e, fun σ' s' o => k σ' s' (by unfold slotsT; exact o)⟩
      rw [← rs.length, asTs_len e, h2]
    | _ => unfold asT at e; cases e
  | .nm _, .BoolOp .., h | .nm _, .NamedExpr .., h | .nm _, .BinOp .., h | .nm _, .UnaryOp .., h | .nm _, .Lambda .., h | .nm _, .IfExp .., h | .nm _, .Dict .., h | .nm _, .Set .., h | .nm _, .ListComp .., h | .nm _, .SetComp .., h | .nm _, .DictComp .., h
  | .nm _, .GeneratorExp .., h | .nm _, .Await .., h | .nm _, .Yield .., h | .nm _, .YieldFrom .., h | .nm _, .Compare .., h | .nm _, .Call .., h | .nm _, .FormattedValue .., h | .nm _, .JoinedStr .., h | .nm _, .Constant .., h | .nm _, .Attribute .., h
  | .nm _, .Subscript .., h | .nm _, .Starred .., h | .nm _, .List .., h | .nm _, .Tuple .., h | .nm _, .Slice .., h => by cases h
  | .tp _, .BoolOp .., h | .tp _, .NamedExpr .., h | .tp _, .BinOp .., h | .tp _, .UnaryOp .., h | .tp _, .Lambda .., h | .tp _, .IfExp .., h | .tp _, .Dict .., h | .tp _, .Set .., h | .tp _, .ListComp .., h | .tp _, .SetComp .., h | .tp _, .DictComp .., h
  | .tp _, .GeneratorExp .., h | .tp _, .Await .., h | .tp _, .Yield .., h | .tp _, .YieldFrom .., h | .tp _, .Compare .., h | .tp _, .Call .., h | .tp _, .FormattedValue .., h | .tp _, .JoinedStr .., h | .tp _, .Constant .., h | .tp _, .Attribute .., h
  | .tp _, .Subscript .., h | .tp _, .Starred .., h | .tp _, .List .., h | .tp _, .Name .., h | .tp _, .Slice .., h => by cases h
theorem pgs_T : ∀ (ts : List IT) (es : List Expr), chkT'.gos Γ ts es = true → PGs X es (gTs X.K X.mg ts)
  | [], [], _ => pgs_nil.weak fun v σ H Q ⟨ω, sl, c, ds, sl', sr, rel, rs, e, k⟩ => by
    cases ds with
    | nil =>
      unfold asTs at e
      cases e
      cases rs
      exact ⟨rfl, k σ sr ⟨rfl, fun _ _ => rfl⟩⟩
    | cons d ds => unfold asTs at e; cases e
  | t :: ts, e :: es, h => by
    unfold chkT'.gos at h
    simp only [Bool.and_eq_true] at h
    obtain ⟨⟨h0, h1⟩, h2⟩ := h
    refine (pgs_cons (pg_T t e h1) (pgs_T ts es h2) (by rw [assign_ns h0]; rfl)).weak fun v σ H Q ⟨ω, sl, c, ds, sl', sr, rel, rs, e, k⟩ => ?_
    cases ds with
    | nil => unfold asTs at e; cases e
    | cons d ds =>
      unfold asTs at e
      cases e1 : asT t d sl with
      | none => rw [e1] at e; cases e
      | some sl1 =>
        rw [e1] at e
        cases rs with
        | cons r rs =>
        refine ⟨_, _, rfl, ω, sl, c, d, sl1, sr, rel, r, e1, fun σ1 s1 o1 => ?_⟩
        refine ⟨ω, sl1, c, ds, sl', s1, rel, rs, e, fun σ2 s2 o2 => k σ2 s2 ⟨o2.1.trans o1.1, fun i hi => ?_⟩⟩
        unfold slotsTs at hi
        rw [List.mem_append, not_or] at hi
        rw [o2.2 i hi.2, o1.2 i hi.1]
  | [], _ :: _, h => by unfold chkT'.gos at h; cases h
  | _ :: _, [], h => by unfold chkT'.gos at h; cases h
end
end

/-! ### comprehensions -/
section
variable {K : PySem.W.Frag} {mg : Str → Option Value} {ω : Wd}
theorem wipe_get {α : Type} (w : List (Option α) → List Nat → List (Option α)) (h0 : ∀ s, w s [] = s) (h1 : ∀ s v vs, w s (v :: vs) = (w s vs).set v none) : ∀ (vs : List Nat) (s : List (Option α)) (i : Nat), (w s vs)[i]? = if i ∈ vs ∧ i < s.length then some none else s[i]?
  | [], s, i => by rw [h0]; simp
  | v :: vs, s, i => by
    rw [h1]
    have ih := wipe_get w h0 h1 vs s
    have hl : (w s vs).length = s.length := by
      clear ih
      induction vs with
      | nil => rw [h0]
      | cons u us ih2 => rw [h1, List.length_set, ih2]
    by_cases hv : v = i
    · subst hv
      by_cases hlt : v < s.length
      · rw [List.getElem?_set_self (by rw [hl]; exact hlt), if_pos ⟨List.mem_cons_self, hlt⟩]
      · rw [if_neg (fun z => hlt z.2), List.getElem?_eq_none (by rw [List.length_set, hl]; omega), List.getElem?_eq_none (by omega)]
    · rw [List.getElem?_set_ne hv, ih]
      by_cases hm : i ∈ vs ∧ i < s.length
      · rw [if_pos hm, if_pos ⟨List.mem_cons_of_mem _ hm.1, hm.2⟩]
      · rw [if_neg hm, if_neg]
        rintro ⟨z1, z2⟩
        rcases List.mem_cons.mp z1 with z | z
        · exact hv z.symm
        · exact hm ⟨z, z2⟩
theorem wipe_at (vs : List Nat) (s : L2.St) (i : Nat) : (wipe s vs)[i]? = if i ∈ vs ∧ i < s.length then some none else s[i]? := wipe_get wipe (fun _ => rfl) (fun _ _ _ => rfl) vs s i
theorem wipeD_at (vs : List Nat) (s : Sl) (i : Nat) : (wipeD s vs)[i]? = if i ∈ vs ∧ i < s.length then some none else s[i]? := wipe_get wipeD (fun _ => rfl) (fun _ _ _ => rfl) vs s i
theorem wipeD_len (s : Sl) : ∀ vs : List Nat, (wipeD s vs).length = s.length
  | [] => rfl
  | v :: vs => by unfold wipeD; rw [List.length_set, wipeD_len s vs]
theorem SR.wipe {sl : Sl} {σ : L2.St} (s : SR K mg ω sl σ) (vs : List Nat) : SR K mg ω (wipeD sl vs) (L2.wipe σ vs) := by
  refine ⟨by rw [wipeD_len, wipe_length, s.len], fun i d e => ?_⟩
  rw [wipeD_at] at e
  rw [wipe_at]
  by_cases h : i ∈ vs ∧ i < sl.length
  · rw [if_pos h] at e; cases e
  · rw [if_neg h] at e
    rw [if_neg (by rw [← s.len]; exact h)]
    exact s.get i d e
theorem wipe_only {vs us : List Nat} {σ σ' : L2.St} (h : Only' us σ σ') (hs : ∀ i ∈ us, i ∈ vs) : L2.wipe σ' vs = L2.wipe σ vs := by
  refine List.ext_getElem? fun i => ?_
  rw [wipe_at, wipe_at, h.1]
  by_cases hi : i ∈ vs ∧ i < σ.length
  · rw [if_pos hi, if_pos hi]
  · rw [if_neg hi, if_neg hi]
    by_cases hm : i ∈ vs
    · have hl : ¬ i < σ.length := fun z => hi ⟨hm, z⟩
      rw [List.getElem?_eq_none (by rw [h.1]; omega), List.getElem?_eq_none (by omega)]
    · exact h.2 i fun z => hm (hs i z)
theorem wipe_wipe (vs : List Nat) (σ : L2.St) : L2.wipe (L2.wipe σ vs) vs = L2.wipe σ vs := by
  refine List.ext_getElem? fun i => ?_
  rw [wipe_at, wipe_at, wipe_length]
  by_cases hi : i ∈ vs ∧ i < σ.length
  · rw [if_pos hi, if_pos hi]
  · rw [if_neg hi]
abbrev noW : WX := fun _ _ _ _ => False
theorem comp_tlc {mu : Bool} {t : IT} {fi : Sl → Ct → Res (List D)} {fq : Sl → Ct → Res Bool} {fe : Sl → Ct → Res D} {vs : List Nat} {W : WX} {σ : L2.St} {H : Hp} {Q : VK} (hs : ∀ i ∈ slotsT t, i ∈ vs)
    (h : liftE K mg W (fun sl c => bnd (fi sl c) fun its c => compK mu t fq fe (wipeD sl vs) its c) σ H Q) :
    tLc (liftI K mg W fi) (gT K mg t) (liftT K mg noW fq) (liftE K mg noW fe) vs σ H Q := by
  obtain ⟨ω0, sl, c0, sr0, rel0, p⟩ := h
  refine (post_bind sr0 rel0 p).mono fun J H1 ⟨ω1, c1, its, l1, sr1, rel1, wk, p1⟩ => ?_
  intro D hD
  unfold compK at p1
  cases hr : compR (asT t) fq fe (wipeD sl vs) its c1 with
  | stuck => rw [hr] at p1; exact p1.elim
  | exc x c => rw [hr] at p1; exact p1.elim
  | ok es cE =>
    rw [hr] at p1
    simp only at p1
    unfold mkD at p1
    by_cases hz : es.length ≤ 100000
    · rw [if_pos hz] at p1
      have hrx : ∀ q u, (q, u) ∈ ω1.x → q ≠ D := fun q u hq => ne_of_none (rel1.xs q u hq).1 hD
      obtain ⟨la, ra⟩ := rel1.aside hD (.lst [])
      refine ⟨fun i m H => i + m = its.length ∧ ∃ ω c accD accV rest, ω1.lo ω ∧ ω.x = (D, .lst accV) :: ω1.x ∧ Rel K mg ω c H ∧ Rs K mg ω accD accV ∧ compR (asT t) fq fe (wipeD sl vs) (its.drop i) c = .ok rest cE ∧ accD ++ rest = es,
        ⟨its.length, by omega, _, c1, [], [], es, la, rfl, ra, .nil, hr, rfl⟩, ?_⟩
      rintro i m H2 ⟨him, ω, c, accD, accV, rest, lo, hx, rel, rs, hc, he⟩
      by_cases hi : i < its.length
      · have hd : its[i]? = some its[i] := List.getElem?_eq_getElem hi
        have hdrop : its.drop i = its[i] :: its.drop (i + 1) := List.drop_eq_getElem_cons hi
        rw [hdrop] at hc
        unfold compR at hc
        cases ht : asT t its[i] (wipeD sl vs) with
        | none => rw [ht] at hc; cases hc
        | some sl' =>
          rw [ht] at hc
          simp only at hc
          refine .inr ⟨wk.go i ω c H2 lo rel hi, fun H' => i + 1 + (m - 1) = its.length ∧ ∃ ω c accD accV rest, ω1.lo ω ∧ ω.x = (D, .lst accV) :: ω1.x ∧ Rel K mg ω c H' ∧ Rs K mg ω accD accV ∧ compR (asT t) fq fe (wipeD sl vs) (its.drop (i + 1)) c = .ok rest cE ∧ accD ++ rest = es,
            fun H' hn => ⟨m - 1, by omega, hn⟩, fun x H3 hy => ?_⟩
          obtain ⟨ω3, l3, rel3, r3⟩ := wk.yld i ω c H2 x H3 its[i] lo rel hd hy
          have sr3 : SR K mg ω3 (wipeD sl vs) (L2.wipe σ vs) := (sr1.mono (lo.trans l3.toLo)).wipe vs
          refine ⟨ω3, wipeD sl vs, c, its[i], sl', sr3, rel3, r3, ht, fun σ2 sr4 o4 => ⟨?_, ?_⟩⟩
          · rw [wipe_only o4 hs, wipe_wipe]
          · have x3 : ω3.x = (D, .lst accV) :: ω1.x := l3.x.trans hx
            cases hq : fq sl' c with
            | stuck => rw [hq] at hc; cases hc
            | exc x c => rw [hq] at hc; cases hc
            | ok b c2 =>
              rw [hq] at hc
              refine ⟨ω3, sl', c, sr4, rel3, ?_⟩
              rw [hq]
              intro ω5 b' H5 l5 rel5 eb
              subst eb
              cases b with
              | false =>
                simp only at hc
                rw [if_neg (by decide)]
                exact ⟨by omega, ω5, c2, accD, accV, rest, (lo.trans l3.toLo).trans l5.toLo, l5.x.trans x3, rel5, rs.mono (l3.toLo.trans l5.toLo), hc, he⟩
              | true =>
                simp only at hc
                rw [if_pos rfl]
                cases hf : fe sl' c2 with
                | stuck => rw [hf] at hc; cases hc
                | exc x c => rw [hf] at hc; cases hc
                | ok e c6 =>
                  rw [hf] at hc
                  simp only at hc
                  cases hR : compR (asT t) fq fe (wipeD sl vs) (its.drop (i + 1)) c6 with
                  | stuck => rw [hR] at hc; cases hc
                  | exc x c => rw [hR] at hc; cases hc
                  | ok rest' c7 =>
                    rw [hR] at hc
                    cases hc
                    refine ⟨ω5, sl', c2, sr4.mono l5.toLo, rel5, ?_⟩
                    rw [hf]
                    intro ω8 y H8 l8 rel8 r8
                    have x8 : ω8.x = (D, .lst accV) :: ω1.x := (l8.x.trans l5.x).trans x3
                    have hD8 := (rel8.xs D (.lst accV) (by rw [x8]; exact List.mem_cons_self)).1
                    have hlen : accV.length < 100000 := by
                      rw [← rs.length]
                      have := congrArg List.length he
                      simp only [List.length_append, List.length_cons] at this
                      omega
                    refine ⟨accV, hD8, Nat.lt_of_lt_of_le hlen (by decide), by omega, ?_⟩
                    obtain ⟨l9, rel9⟩ := rel8.asideSet x8 (o' := .lst (accV ++ [y])) hrx
                    have lo8 : ω1.lo ω8 := ((lo.trans l3.toLo).trans l5.toLo).trans l8.toLo
                    refine ⟨_, c6, accD ++ [e], accV ++ [y], rest', lo8.trans l9, rfl, rel9, ?_, hR, by rw [← he]; simp⟩
                    exact Rs.append (rs.mono (((l3.toLo.trans l5.toLo).trans l8.toLo).trans l9)) (.cons (r8.mono l9) .nil)
      · have e0 : i = its.length := by omega
        subst e0
        rw [List.drop_length] at hc
        unfold compR at hc
        cases hc
        rw [List.append_nil] at he
        subst he
        refine .inl ⟨wk.stop ω _ H2 lo rel, ?_⟩
        unfold newL at p1
        cases mu with
        | true =>
          rw [if_pos rfl] at p1
          obtain ⟨l2, hm, rel2⟩ := rel.asideC hx hrx (u := .lst accD) rs
          exact p1.ok_le ⟨lo.trans l2, rfl⟩ rel2 (.ref hm)
        | false =>
          rw [if_neg (by decide)] at p1
          obtain ⟨l2, rel2⟩ := rel.asideF hx hrx
          exact p1.ok_le ⟨lo.trans l2, rfl⟩ rel2 (.lst upd_same (rs.mono l2))
    · rw [if_neg hz] at p1
      exact p1.elim
end
end Hv

set_option Elab.async false
set_option linter.all false
set_option maxRecDepth 100000
set_option maxHeartbeats 2000000
/-! HvZ: zip over any number of lists and tuples of one length, strict or not. -/
namespace Hz
open PySem
open PySem.Sem (wp)
/-- a list or a tuple that is walked -/
structure Sc where
  a : Addr
  tup : Bool
  xs : List Value
def SrcAt (h : Heap) (e : Sc) : Prop := match e.tup with
  | true => h.IsTuple e.a e.xs.toArray
  | false => h.IsList e.a e.xs.toArray
def ItAt (h : Heap) (i : Addr) (e : Sc) (k : Nat) : Prop := match e.tup with
  | true => h.IsTupleIter i e.a k
  | false => h.IsListIter i e.a k
theorem SrcAt.at {h h' : Heap} {e : Sc} (x : SrcAt h e) (q : ∀ o, h.get? e.a = some o → h'.get? e.a = some o) : SrcAt h' e := by
  unfold SrcAt at x ⊢
  split at x
  · exact Heap.IsTuple.at x q
  · exact Heap.IsList.at x q
theorem ItAt.at {h h' : Heap} {i : Addr} {e : Sc} {k : Nat} (x : ItAt h i e k) (q : ∀ o, h.get? i = some o → h'.get? i = some o) : ItAt h' i e k := by
  unfold ItAt at x ⊢
  split at x
  · exact Heap.IsTupleIter.at x q
  · exact Heap.IsListIter.at x q
theorem ItAt.obj {h : Heap} {i : Addr} {e : Sc} {k : Nat} (x : ItAt h i e k) : ∃ o vs, h.get? i = some o ∧ o.data = .fields vs := by
  unfold ItAt at x
  split at x
  · obtain ⟨o, ho, _, hd⟩ := x; exact ⟨o, _, ho, hd⟩
  · obtain ⟨o, ho, _, hd⟩ := x; exact ⟨o, _, ho, hd⟩
section
variable {prog : Program} {w : World} {A : Around} {E : Value → Shared → Prop} {s : Shared}
theorem next_item {i : Addr} {e : Sc} {k : Nat} {x : Value} {Q : Value → Shared → Prop} (hit : ItAt s.heap i e k) (hs : SrcAt s.heap e) (hx : e.xs[k]? = some x)
    (hQ : ∀ h', ItAt h' i e (k + 1) → Heap.SameBut i s.heap h' → Q x { s with heap := h' }) : wpAny (model prog w) A (Builtin.SmallTypes.nextOf (.ref i)) Q E s := by
  obtain ⟨a, tup, xs⟩ := e
  cases tup with
  | true => exact RZ.nextOf_tuple_item hit hs (by simpa using hx) hQ
  | false => exact wpAny_nextOf_list_item hit hs (by simpa using hx) hQ
theorem next_end {i : Addr} {e : Sc} {k : Nat} {Q : Value → Shared → Prop} (hh : A.handled = none) (hit : ItAt s.heap i e k) (hs : SrcAt s.heap e) (hx : e.xs[k]? = none)
    (hE : ∀ h' ex, Heap.ExtBut i s.heap h' → (∃ o, h'.get? ex = some o ∧ o.cls = .type "StopIteration") → E (.ref ex) { s with heap := h' }) : wpAny (model prog w) A (Builtin.SmallTypes.nextOf (.ref i)) Q E s := by
  obtain ⟨a, tup, xs⟩ := e
  cases tup with
  | true => exact RZ.nextOf_tuple_end hh hit hs (by simpa using hx) hE
  | false => exact wpAny_nextOf_list_end hh hit hs (by simpa using hx) hE
theorem orEnd_item {i : Addr} {e : Sc} {k : Nat} {x : Value} {Q : Option Value → Shared → Prop} (hit : ItAt s.heap i e k) (hs : SrcAt s.heap e) (hx : e.xs[k]? = some x)
    (hQ : ∀ h', ItAt h' i e (k + 1) → Heap.SameBut i s.heap h' → Q (some x) { s with heap := h' }) : wpAny (model prog w) A (Builtin.SmallTypes.nextOrEnd (.ref i)) Q E s := by
  unfold Builtin.SmallTypes.nextOrEnd
  exact wpAny_bind (wpAny_attempt (next_item hit hs hx fun h' a b => wpAny_pure (hQ h' a b)))
theorem orEnd_end {i : Addr} {e : Sc} {k : Nat} {Q : Option Value → Shared → Prop} (hh : A.handled = none) (hit : ItAt s.heap i e k) (hs : SrcAt s.heap e) (hx : e.xs[k]? = none)
    (hQ : ∀ h', Heap.ExtBut i s.heap h' → Q none { s with heap := h' }) : wpAny (model prog w) A (Builtin.SmallTypes.nextOrEnd (.ref i)) Q E s := by
  unfold Builtin.SmallTypes.nextOrEnd
  refine wpAny_bind (wpAny_attempt (next_end hh hit hs hx fun h' ex hk he => ?_))
  obtain ⟨o, ho, hc⟩ := he
  refine wpAny_bind (wpAny_isInstance (T := "StopIteration") (b := true) ⟨o, ho, hc⟩ isSubtype_stop ?_)
  exact wpAny_pure (hQ h' hk)
end
abbrev IsZ (h : Heap) (z TI TO : Addr) (f0 : Value) (st : Bool) : Prop :=
  h.get? z = some { cls := .type "zip", dict := none, data := .fields #[f0, .bool false, .bool st, .ref TI, .ref TO], slots := #[] }
abbrev IsTup (h : Heap) (T : Addr) (vs : List Value) : Prop := h.get? T = some { cls := .type "tuple", data := .seq vs.toArray }
def refsFrom (b n : Nat) : List Value := (List.range n).map fun j => .ref (b + j)
structure Zs (h : Heap) (b : Nat) (S : List Sc) (st : Bool) (k : Nat) (f0 : Value) : Prop where
  z : IsZ h (b + S.length + 2) (b + S.length) (b + S.length + 1) f0 st
  TI : IsTup h (b + S.length) (refsFrom b S.length)
  TO : ∃ vs, vs.length = S.length ∧ IsTup h (b + S.length + 1) vs
  it : ∀ (j : Nat) e, S[j]? = some e → ItAt h (b + j) e k
section
variable {prog : Program} {w : World} {A : Around} {E : Value → Shared → Prop} {s : Shared}
theorem refs_at {b n j : Nat} (h : j < n) : (refsFrom b n).zipIdx[j]? = some (.ref (b + j), j) := by
  simp [refsFrom, List.getElem?_zipIdx, h]
theorem refs_len {b n : Nat} : (refsFrom b n).zipIdx.length = n := by simp [refsFrom]
theorem updTup {T : Addr} {vs : List Value} {x : Value} {k : Nat} {Q : Unit → Shared → Prop} (hT : IsTup s.heap T vs) (hl : vs.length ≤ 1000)
    (h : ∀ h', IsTup h' T (vs.set k x) → Heap.SameBut T s.heap h' → Q () { s with heap := h' }) :
    wpAny (model prog w) A (updateSeq T (·.setIfInBounds k x)) Q E s := by
  refine wpAny_updateSeq hT rfl (h _ ?_ (Heap.SameBut.update ..)) (by rw [List.size_toArray, sizeLine_eq]; omega) (by rw [Array.size_setIfInBounds, List.size_toArray, sizeLine_eq]; omega)
  show Heap.get? _ _ = _
  rw [Heap.get?_update_self _ hT rfl]
  simp [Obj.mapSeq]
theorem zip_item {b : Nat} {S : List Sc} {st : Bool} {k : Nat} {row : List Value} {Q : Value → Shared → Prop} (hS : S ≠ []) (hl : S.length ≤ 1000) (Z : Zs s.heap b S st k .none) (src : ∀ e ∈ S, SrcAt s.heap e ∧ e.a < b)
    (hr : row.length = S.length) (hrow : ∀ (j : Nat) (e : Sc), S[j]? = some e → e.xs[k]? = row[j]?)
    (hQ : ∀ h', Zs h' b S st (k + 1) (rawInt s.heap.objs.size) → IsTup h' s.heap.objs.size row → h'.objs.size = s.heap.objs.size + 1 →
      (∀ (c : Nat) o, (c < b ∨ b + S.length + 2 < c) → s.heap.get? c = some o → h'.get? c = some o) → Q (.ref s.heap.objs.size) { s with heap := h' }) :
    wpAny (model prog w) A (Builtin.«zip.__next__» ⟨[.ref (b + S.length + 2)], []⟩) (fun fin s' => ∃ v, fin = .done (.ret v) ∧ Q v s') E s := by
  obtain ⟨hz, hTI, ⟨vs, hvs, hTO⟩, hit⟩ := Z
  show wpAny _ _ (field (.ref _) 2 >>= _) _ _ _
  refine wpAny_bind (wpAny_field hz rfl (x := .bool st) rfl ?_)
  show wpAny _ _ (field (.ref _) 3 >>= _) _ _ _
  refine wpAny_bind (wpAny_field hz rfl (x := .ref (b + S.length)) rfl ?_)
  refine wpAny_bind (wpAny_seqItems hTI rfl ?_)
  have hne : (refsFrom b S.length).toArray.isEmpty = false := by
    cases S with
    | nil => exact absurd rfl hS
    | cons _ _ => simp [refsFrom]
  simp only [hne]
  show wpAny _ _ (Builtin.SmallTypes.ownedTupleIsFree (.ref _) >>= _) _ _ _
  refine wpAny_bind ?_
  unfold Builtin.SmallTypes.ownedTupleIsFree
  refine wpAny_bind (wpAny_field hz rfl (x := .none) rfl (wpAny_pure ?_))
  simp only [if_true]
  refine wpAny_bind (wpAny_rule ?_)
  refine wpAny_bind (wpAny_field hz rfl (x := .ref (b + S.length + 1)) rfl ?_)
  refine wpAny_bind (wpAny_setField_rec hz (by simp) fun h₁ hz₁ hs₁ => ?_)
  replace hz₁ : IsZ h₁ _ _ _ .ellipsis st := hz₁
  refine wpAny_bind ?_
  have n1 : b + S.length ≠ b + S.length + 2 := by omega
  have n2 : b + S.length + 1 ≠ b + S.length + 2 := by omega
  have n3 : b + S.length ≠ b + S.length + 1 := by omega
  have n4 : ∀ m, m < S.length → b + m ≠ b + S.length + 2 := fun m hm => by omega
  have n5 : ∀ m, m < S.length → b + m ≠ b + S.length + 1 := fun m hm => by omega
  have n6 : ∀ m, m < S.length → b + m ≠ b + S.length := fun m hm => by omega
  have n7 : ∀ m, m < S.length → b + S.length ≠ b + m := fun m hm => by omega
  have n8 : ∀ m, m < S.length → b + S.length + 1 ≠ b + m := fun m hm => by omega
  have n9 : ∀ m, m < S.length → b + S.length + 2 ≠ b + m := fun m hm => by omega
  have n10 : ∀ m j : Nat, m ≠ j → b + m ≠ b + j := fun m j h z => h (by omega)
  have n11 : ∀ c : Nat, (c < b ∨ b + S.length + 2 < c) → c ≠ b + S.length + 1 := fun c h => by omega
  have n12 : ∀ c j : Nat, j < S.length → (c < b ∨ b + S.length + 2 < c) → c ≠ b + j := fun c j h h2 => by omega
  have n13 : ∀ c : Nat, (c < b ∨ b + S.length + 2 < c) → c ≠ b + S.length + 2 := fun c h => by omega
  have lt_of : ∀ {m : Nat} {e : Sc}, S[m]? = some e → m < S.length := fun h => (List.getElem?_eq_some_iff.mp h).1
  refine wpAny_forIn_list _ (fun rest bs s' => bs = (none, ()) ∧ ∃ j h', rest = ((refsFrom b S.length).zipIdx).drop j ∧ j ≤ S.length ∧ s' = { s with heap := h' } ∧ IsZ h' (b + S.length + 2) (b + S.length) (b + S.length + 1) .ellipsis st ∧
    IsTup h' (b + S.length + 1) (row.take j ++ vs.drop j) ∧ IsTup h' (b + S.length) (refsFrom b S.length) ∧ (∀ (m : Nat) e, S[m]? = some e → ItAt h' (b + m) e (if m < j then k + 1 else k)) ∧
    (∀ (c : Nat) o, (c < b ∨ b + S.length + 2 < c) → s.heap.get? c = some o → h'.get? c = some o) ∧ h'.objs.size = s.heap.objs.size) _ ?_ ?_ _ _ ⟨rfl, 0, h₁, rfl, Nat.zero_le _, rfl, hz₁, ?_, ?_, ?_, ?_, ?_⟩
  · rintro x rest bs s' ⟨rfl, j, h', hd, hj, rfl, z', TO', TI', it', pr', sz'⟩
    have hjl : j < S.length := by
      rcases Nat.lt_or_ge j S.length with h | h
      · exact h
      · rw [List.drop_eq_nil_of_le (by rw [refs_len]; exact h)] at hd
        cases hd
    have hx : (refsFrom b S.length).zipIdx[j]? = some (.ref (b + j), j) := refs_at hjl
    rw [List.drop_eq_getElem_cons (by rw [refs_len]; exact hjl)] at hd
    have hx2 : (refsFrom b S.length).zipIdx[j]'(by rw [refs_len]; exact hjl) = (.ref (b + j), j) := by
      have := List.getElem?_eq_getElem (l := (refsFrom b S.length).zipIdx) (i := j) (by rw [refs_len]; exact hjl)
      rw [hx] at this
      exact (Option.some.inj this).symm
    rw [hx2] at hd
    cases hd
    have he : S[j]? = some S[j] := List.getElem?_eq_getElem hjl
    obtain ⟨v, hv⟩ : ∃ v, row[j]? = some v := ⟨_, List.getElem?_eq_getElem (by omega)⟩
    have hxv : S[j].xs[k]? = some v := by rw [hrow j _ he, hv]
    have hitj := it' j _ he
    rw [if_neg (Nat.lt_irrefl j)] at hitj
    obtain ⟨hs1, hs2⟩ := src _ (List.mem_of_getElem? he)
    have hsrc : SrcAt h' S[j] := hs1.at fun o q => pr' _ _ (.inl hs2) q
    have key : ∀ h₂, ItAt h₂ (b + j) S[j] (k + 1) → Heap.SameBut (b + j) h' h₂ → wpAny (model prog w) A (do
          let __x ← seqItems? (Value.ref (b + S.length + 1))
          match __x with
            | some kept => do
              updateSeq (b + S.length + 1) fun x_2 => x_2.setIfInBounds j v
              letGo [kept.getD j Value.none]
              pure (ForInStep.yield (none, ()))
            | x => do
              unsupported "internal:zip.__next__"
              pure (ForInStep.yield (none, ()))) (fun r s' => match r with | .yield b' => (b' = ((none, ()) : Option Fin × Unit) ∧ ∃ j' h', (refsFrom b S.length).zipIdx.drop (j + 1) = ((refsFrom b S.length).zipIdx).drop j' ∧ j' ≤ S.length ∧ s' = { s with heap := h' } ∧ IsZ h' (b + S.length + 2) (b + S.length) (b + S.length + 1) .ellipsis st ∧
    IsTup h' (b + S.length + 1) (row.take j' ++ vs.drop j') ∧ IsTup h' (b + S.length) (refsFrom b S.length) ∧ (∀ (m : Nat) e, S[m]? = some e → ItAt h' (b + m) e (if m < j' then k + 1 else k)) ∧
    (∀ (c : Nat) o, (c < b ∨ b + S.length + 2 < c) → s.heap.get? c = some o → h'.get? c = some o) ∧ h'.objs.size = s.heap.objs.size) | .done b' => False) E { s with heap := h₂ } := by
      intro h₂ it₂ sb₂
      have TO₂ : IsTup h₂ (b + S.length + 1) (row.take j ++ vs.drop j) := sb₂.extBut _ _ (n8 j hjl) TO'
      refine wpAny_bind (wpAny_seqItems TO₂ rfl ?_)
      refine wpAny_bind (updTup TO₂ (by rw [List.length_append, List.length_take, List.length_drop]; omega) fun h₃ TO₃ sb₃ => ?_)
      refine wpAny_bind (wpAny_letGo (wpAny_pure ⟨rfl, j + 1, h₃, rfl, hjl, rfl, ?_, ?_, ?_, fun m e hm => ?_, fun c o hc q => ?_, ?_⟩))
      · exact sb₃.extBut _ _ n2.symm (sb₂.extBut _ _ (n9 j hjl) z')
      · have e : (row.take j ++ vs.drop j).set j v = row.take (j + 1) ++ vs.drop (j + 1) := by
          have l1 : (row.take j).length = j := by rw [List.length_take]; omega
          rw [List.set_append_right _ _ (by omega), l1, Nat.sub_self, List.take_add_one, hv, List.drop_eq_getElem_cons (by omega : j < vs.length), List.set_cons_zero, List.append_assoc]
          rfl
        rw [← e]
        exact TO₃
      · exact sb₃.extBut _ _ n3 (sb₂.extBut _ _ (n7 j hjl) TI')
      · have hml := lt_of hm
        by_cases hmj : m = j
        · subst hmj
          rw [he] at hm
          cases hm
          rw [if_pos (Nat.lt_succ_self _)]
          exact it₂.at fun o q => sb₃.extBut _ _ (n5 m hml) q
        · have : (if m < j + 1 then k + 1 else k) = if m < j then k + 1 else k := by
            by_cases h : m < j
            · rw [if_pos h, if_pos (by omega)]
            · rw [if_neg h, if_neg (by omega)]
          rw [this]
          exact (it' m e hm).at fun o q => sb₃.extBut _ _ (n5 m hml) (sb₂.extBut _ _ (n10 m j hmj) q)
      · exact sb₃.extBut _ _ (n11 c hc) (sb₂.extBut _ _ (n12 c j hjl hc) (pr' c o hc q))
      · rw [sb₃.1, sb₂.1, sz']
    cases st with
    | true =>
      refine wpAny_bind (wpAny_onRaise ?_)
      show wpAny _ _ (Builtin.SmallTypes.nextOrEnd (.ref (b + j))) _ _ _
      refine orEnd_item hitj hsrc hxv fun h₂ it₂ sb₂ => wpAny_mono (key h₂ it₂ sb₂) (fun r s' q => ?_) fun _ _ y => y
      cases r with
      | done _ => exact q.elim
      | yield _ => exact q
    | false =>
      refine wpAny_bind (wpAny_onRaise ?_)
      show wpAny _ _ (Builtin.SmallTypes.nextOf (.ref (b + j)) >>= _) _ _ _
      refine wpAny_bind (next_item hitj hsrc hxv fun h₂ it₂ sb₂ => wpAny_pure (wpAny_mono (key h₂ it₂ sb₂) (fun r s' q => ?_) fun _ _ y => y))
      cases r with
      | done _ => exact q.elim
      | yield _ => exact q
  · rintro bs s' ⟨rfl, j, h', hd, hj, rfl, z', TO', TI', it', pr', sz'⟩
    have hjn : j = S.length := by
      rcases Nat.lt_or_ge j S.length with h | h
      · rw [List.drop_eq_getElem_cons (by rw [refs_len]; exact h)] at hd
        cases hd
      · omega
    subst hjn
    have e : row.take S.length ++ vs.drop S.length = row := by
      rw [← hr, List.take_length, hr, ← hvs, List.drop_length, List.append_nil]
    rw [e] at TO'
    refine wpAny_bind (wpAny_seqItems TO' rfl ?_)
    refine wpAny_bind (wpAny_newTuple ?_ (by rw [Array.length_toList, List.size_toArray, sizeLine_eq]; omega))
    have hzlt : b + S.length + 2 < h'.objs.size := Heap.lt_size z'
    show wpAny _ _ (Builtin.SmallTypes.ownedTupleHandOut (.ref _) (.ref h'.objs.size) >>= _) _ _ _
    refine wpAny_bind ?_
    unfold Builtin.SmallTypes.ownedTupleHandOut
    have hz₆ : IsZ (h'.push { cls := .type "tuple", data := .seq row.toArray }) _ _ _ .ellipsis st := Heap.get?_push_of_some _ z'
    refine wpAny_bind (wpAny_setField_rec hz₆ (by simp) fun h₇ hz₇ hs₇ => ?_)
    replace hz₇ : IsZ h₇ _ _ _ (rawInt h'.objs.size) st := hz₇
    refine wpAny_setField_rec hz₇ (by simp) fun h₈ hz₈ hs₈ => ?_
    replace hz₈ : IsZ h₈ _ _ _ (rawInt h'.objs.size) st := hz₈
    have up : ∀ c o, c ≠ b + S.length + 2 → h'.get? c = some o → h₈.get? c = some o := fun c o c1 q => hs₈.extBut _ _ c1 (hs₇.extBut _ _ c1 (Heap.get?_push_of_some _ q))
    have hT₈ : IsTup h₈ h'.objs.size row := hs₈.extBut _ _ (Nat.ne_of_gt hzlt) (hs₇.extBut _ _ (Nat.ne_of_gt hzlt) (Heap.get?_push_size _ rfl))
    have hz8 : h₈.objs.size = h'.objs.size + 1 := by rw [hs₈.1, hs₇.1, Heap.size_push]
    rw [sz'] at hz₈ hT₈ hz8
    refine wpAny_pure ⟨_, rfl, ?_⟩
    show Q (.ref h'.objs.size) _
    rw [sz']
    exact hQ h₈ ⟨hz₈, up _ _ n1 TI', ⟨row, hr, up _ _ n2 TO'⟩, fun m e hm => by
      have := it' m e hm
      rw [if_pos (lt_of hm)] at this
      exact this.at fun o q => up _ _ (n4 m (lt_of hm)) q⟩ hT₈ hz8 fun c o hc q => up c o (n13 c hc) (pr' c o hc q)
  · rw [List.take_zero, List.drop_zero, List.nil_append]
    exact hs₁.extBut _ _ n2 hTO
  · exact hs₁.extBut _ _ n1 hTI
  · intro m e hm
    rw [if_neg (Nat.not_lt_zero _)]
    exact (hit m e hm).at fun o q => hs₁.extBut _ _ (n4 m (lt_of hm)) q
  · exact fun c o hc q => hs₁.extBut _ _ (n13 c hc) q
  · exact hs₁.1
end
section
variable {prog : Program} {w : World} {A : Around} {E : Value → Shared → Prop} {s : Shared}
theorem zip_end {b : Nat} {S : List Sc} {st : Bool} {k : Nat} {Q : Fin → Shared → Prop} (hh : A.handled = none) (hS : S ≠ []) (Z : Zs s.heap b S st k .none) (src : ∀ e ∈ S, SrcAt s.heap e ∧ e.a < b) (hend : ∀ e ∈ S, e.xs[k]? = none)
    (hE : ∀ h' ex, (∀ (c : Nat) o, (c < b ∨ b + S.length + 2 < c) → s.heap.get? c = some o → h'.get? c = some o) → (∃ o, h'.get? ex = some o ∧ o.cls = .type "StopIteration") → E (.ref ex) { s with heap := h' }) :
    wpAny (model prog w) A (Builtin.«zip.__next__» ⟨[.ref (b + S.length + 2)], []⟩) Q E s := by
  obtain ⟨hz, hTI, ⟨vs, hvs, hTO⟩, hit⟩ := Z
  show wpAny _ _ (field (.ref _) 2 >>= _) _ _ _
  refine wpAny_bind (wpAny_field hz rfl (x := .bool st) rfl ?_)
  show wpAny _ _ (field (.ref _) 3 >>= _) _ _ _
  refine wpAny_bind (wpAny_field hz rfl (x := .ref (b + S.length)) rfl ?_)
  refine wpAny_bind (wpAny_seqItems hTI rfl ?_)
  have hne : (refsFrom b S.length).toArray.isEmpty = false := by
    cases S with
    | nil => exact absurd rfl hS
    | cons _ _ => simp [refsFrom]
  simp only [hne]
  show wpAny _ _ (Builtin.SmallTypes.ownedTupleIsFree (.ref _) >>= _) _ _ _
  refine wpAny_bind ?_
  unfold Builtin.SmallTypes.ownedTupleIsFree
  refine wpAny_bind (wpAny_field hz rfl (x := .none) rfl (wpAny_pure ?_))
  simp only [if_true]
  refine wpAny_bind (wpAny_rule ?_)
  refine wpAny_bind (wpAny_field hz rfl (x := .ref (b + S.length + 1)) rfl ?_)
  refine wpAny_bind (wpAny_setField_rec hz (by simp) fun h₁ hz₁ hs₁ => ?_)
  replace hz₁ : IsZ h₁ _ _ _ .ellipsis st := hz₁
  refine wpAny_bind ?_
  obtain ⟨e0, S', rfl⟩ : ∃ e0 S', S = e0 :: S' := by
    cases S with
    | nil => exact absurd rfl hS
    | cons a l => exact ⟨a, l, rfl⟩
  have hcons : (refsFrom b (e0 :: S').length).zipIdx = (.ref (b + 0), 0) :: (refsFrom b (e0 :: S').length).zipIdx.drop 1 := by
    have h1 : 0 < (refsFrom b (e0 :: S').length).zipIdx.length := by rw [refs_len]; exact Nat.succ_pos _
    have h2 := List.drop_eq_getElem_cons h1
    rw [List.drop_zero] at h2
    have h3 := List.getElem?_eq_getElem h1
    rw [refs_at (b := b) (n := (e0 :: S').length) (j := 0) (Nat.succ_pos _)] at h3
    rw [← Option.some.inj h3] at h2
    exact h2
  rw [hcons, List.forIn_cons]
  have n4 : ∀ m : Nat, m < (e0 :: S').length → b + m ≠ b + (e0 :: S').length + 2 := fun m hm => by omega
  have n9 : ∀ m : Nat, m < (e0 :: S').length → b + (e0 :: S').length + 2 ≠ b + m := fun m hm => by omega
  have n12 : ∀ c j : Nat, j < (e0 :: S').length → (c < b ∨ b + (e0 :: S').length + 2 < c) → c ≠ b + j := fun c j h h2 => by omega
  have n13 : ∀ c : Nat, (c < b ∨ b + (e0 :: S').length + 2 < c) → c ≠ b + (e0 :: S').length + 2 := fun c h => by omega
  have it0 : ItAt h₁ (b + 0) e0 k := (hit 0 e0 rfl).at fun o q => hs₁.extBut _ _ (n4 0 (Nat.succ_pos _)) q
  have s0 : SrcAt h₁ e0 := (src e0 List.mem_cons_self).1.at fun o q => hs₁.extBut _ _ (n13 _ (.inl (src e0 List.mem_cons_self).2)) q
  have x0 := hend e0 List.mem_cons_self
  refine wpAny_bind ?_
  cases st with
  | false =>
    refine wpAny_bind (wpAny_onRaise ?_)
    show wpAny _ _ (Builtin.SmallTypes.nextOf (.ref (b + 0)) >>= _) _ _ _
    refine wpAny_bind (next_end hh it0 s0 x0 fun h₂ ex sb₂ he => ?_)
    obtain ⟨oe, hoe, hce⟩ := he
    have hz₂ : IsZ h₂ _ _ _ .ellipsis false := sb₂ _ _ (n9 0 (Nat.succ_pos _)) hz₁
    have hez : ex ≠ b + (e0 :: S').length + 2 := fun x => by subst x; rw [hz₂] at hoe; cases hoe; simp at hce
    refine wpAny_setField_rec hz₂ (by simp) fun h₃ _ hs₃ => hE h₃ ex (fun c o hc x => hs₃.extBut _ _ (n13 c hc) (sb₂ _ _ (n12 c 0 (Nat.succ_pos _) hc) (hs₁.extBut _ _ (n13 c hc) x))) ⟨oe, hs₃.extBut _ _ hez hoe, hce⟩
  | true =>
    refine wpAny_bind (wpAny_onRaise ?_)
    show wpAny _ _ (Builtin.SmallTypes.nextOrEnd (.ref (b + 0))) _ _ _
    refine orEnd_end hh it0 s0 x0 fun h₂ sb₂ => ?_
    have hz₂ : IsZ h₂ _ _ _ .ellipsis true := sb₂ _ _ (n9 0 (Nat.succ_pos _)) hz₁
    refine wpAny_bind (wpAny_setField_rec hz₂ (by simp) fun h₃ _ hs₃ => ?_)
    refine wpAny_bind ?_
    refine wpAny_bind ?_
    have hl1 : ((List.drop 1 (refsFrom b (e0 :: S').length)).zipIdx 1).length = S'.length := by simp [refsFrom]
    have at1 : ∀ m, m < S'.length → ((List.drop 1 (refsFrom b (e0 :: S').length)).zipIdx 1)[m]? = some (Value.ref (b + (m + 1)), m + 1) := fun m hm => by
      have hm2 : 1 + m < S'.length + 1 := by omega
      rw [List.getElem?_zipIdx, List.getElem?_drop, refsFrom, List.getElem?_map, List.length_cons, List.getElem?_range hm2, Nat.add_comm 1 m]
      rfl
    have lt_of : ∀ {m : Nat} {e : Sc}, (e0 :: S')[m]? = some e → m < (e0 :: S').length := fun h => (List.getElem?_eq_some_iff.mp h).1
    have n10 : ∀ m j : Nat, m ≠ j → b + m ≠ b + j := fun m j h z => h (by omega)
    refine wpAny_forIn_list _ (fun rest bs s' => ∃ j h', rest = ((List.drop 1 (refsFrom b (e0 :: S').length)).zipIdx 1).drop j ∧ s' = { s with heap := h' } ∧ (∀ (m : Nat) e, j < m → (e0 :: S')[m]? = some e → ItAt h' (b + m) e k) ∧
      (∀ (c : Nat) o, (c < b ∨ b + (e0 :: S').length + 2 < c) → s.heap.get? c = some o → h'.get? c = some o)) _ ?_ ?_ _ _ ⟨0, h₃, rfl, rfl, fun m e hm h => ?_, fun c o hc q => ?_⟩
    · rintro x rest bs s' ⟨j, h', hd, rfl, it', pr'⟩
      have hj : j < S'.length := by
        rcases Nat.lt_or_ge j S'.length with h | h
        · exact h
        · rw [List.drop_eq_nil_of_le (by rw [hl1]; exact h)] at hd
          cases hd
      have h1 : j < ((List.drop 1 (refsFrom b (e0 :: S').length)).zipIdx 1).length := by rw [hl1]; exact hj
      rw [List.drop_eq_getElem_cons h1] at hd
      have h3 := List.getElem?_eq_getElem h1
      rw [at1 j hj] at h3
      rw [← Option.some.inj h3] at hd
      cases hd
      have he : (e0 :: S')[j + 1]? = some (S'[j]) := by rw [List.getElem?_cons_succ]; exact List.getElem?_eq_getElem hj
      have hmem : S'[j] ∈ e0 :: S' := List.mem_of_getElem? he
      refine wpAny_bind (orEnd_end hh (it' (j + 1) _ (Nat.lt_succ_self _) he) ((src _ hmem).1.at fun o q => pr' _ _ (.inl (src _ hmem).2) q) (hend _ hmem) fun h₄ sb₄ => ?_)
      rw [if_neg (by simp)]
      refine wpAny_pure ⟨j + 1, h₄, rfl, rfl, fun m e hm h => ?_, fun c o hc q => sb₄ _ _ (n12 c (j + 1) (lt_of he) hc) (pr' c o hc q)⟩
      exact (it' m e (by omega) h).at fun o q => sb₄ _ _ (n10 m (j + 1) (by omega)) q
    · rintro bs s' ⟨j, h', hd, rfl, it', pr'⟩
      refine wpAny_bind (wpAny_rule ?_)
      show wpAny _ _ (newExc (.type "StopIteration") [] >>= _) _ _ _
      refine wpAny_bind ?_
      simp only [newExc, newTuple]
      refine wpAny_bind (wpAny_newObj_type ?_ (by size_fits))
      refine wpAny_bind (m := firstArgMember _ _) (wpAny_of_eq (a := Value.none) (by first | rfl | (simp only [firstArgMember]; rfl)) ?_)
      refine wpAny_newObj_type ?_ (by size_fits)
      simp only [raiseNew]
      refine wpAny_bind (wpAny_handled ?_)
      first | rw [show A.in1.handled = none from hh] | rw [hh]
      refine wpAny_bind (wpAny_pure (wpAny_throw ?_))
      exact hE _ _ (fun c o hc q => Heap.get?_push_of_some _ (Heap.get?_push_of_some _ (pr' c o hc q))) ⟨_, Heap.get?_push_size _ rfl, rfl⟩
    · exact (hit m e h).at fun o q => hs₃.extBut _ _ (n4 m (lt_of h)) (sb₂ _ _ (n10 m 0 (by omega)) (hs₁.extBut _ _ (n4 m (lt_of h)) q))
    · exact hs₃.extBut _ _ (n13 c hc) (sb₂ _ _ (n12 c 0 (Nat.succ_pos _) hc) (hs₁.extBut _ _ (n13 c hc) q))
theorem next_zip_item {b : Nat} {S : List Sc} {st : Bool} {k : Nat} {row : List Value} {Q : Option Value → Shared → Prop} (hS : S ≠ []) (hl : S.length ≤ 1000) (Z : Zs s.heap b S st k .none) (src : ∀ e ∈ S, SrcAt s.heap e ∧ e.a < b)
    (hr : row.length = S.length) (hrow : ∀ (j : Nat) (e : Sc), S[j]? = some e → e.xs[k]? = row[j]?)
    (hQ : ∀ h', Zs h' b S st (k + 1) (rawInt s.heap.objs.size) → IsTup h' s.heap.objs.size row → h'.objs.size = s.heap.objs.size + 1 →
      (∀ (c : Nat) o, (c < b ∨ b + S.length + 2 < c) → s.heap.get? c = some o → h'.get? c = some o) → Q (some (.ref s.heap.objs.size)) { s with heap := h' }) :
    wpAny (model prog w) A (pyNext (.ref (b + S.length + 2))) Q E s := by
  have hT : s.TypeIs (.ref (b + S.length + 2)) "zip" := ⟨_, Z.z, rfl⟩
  unfold pyNext
  exact wpAny_bind (wpAny_attempt (wpAny_callSpecial?_slot (name := Str.ofString "__next__") hT F.slot_zip_next
    (wpAny_call_entry F.slot_zip_next hT F.entry_zip_next
      (zip_item hS hl Z src hr hrow fun h' a1 a2 a3 a4 => wpAny_pure (hQ h' a1 a2 a3 a4)) (F.args_zip_next_1 _))))
theorem next_zip_end {b : Nat} {S : List Sc} {st : Bool} {k : Nat} {Q : Option Value → Shared → Prop} (hh : A.handled = none) (hS : S ≠ []) (Z : Zs s.heap b S st k .none) (src : ∀ e ∈ S, SrcAt s.heap e ∧ e.a < b) (hend : ∀ e ∈ S, e.xs[k]? = none)
    (hQ : ∀ h', (∀ (c : Nat) o, (c < b ∨ b + S.length + 2 < c) → s.heap.get? c = some o → h'.get? c = some o) → Q none { s with heap := h' }) :
    wpAny (model prog w) A (pyNext (.ref (b + S.length + 2))) Q E s := by
  have hT : s.TypeIs (.ref (b + S.length + 2)) "zip" := ⟨_, Z.z, rfl⟩
  unfold pyNext
  refine wpAny_bind (wpAny_attempt (wpAny_callSpecial?_slot (name := Str.ofString "__next__") hT F.slot_zip_next
    (wpAny_call_entry F.slot_zip_next hT F.entry_zip_next (zip_end hh hS Z src hend fun h' e hk he => ?_) (F.args_zip_next_1 _))))
  obtain ⟨o, ho, hc⟩ := he
  refine wpAny_bind (wpAny_isInstance (T := "StopIteration") (b := true) ⟨o, ho, hc⟩ isSubtype_stop ?_)
  exact wpAny_pure (hQ _ hk)
theorem go_zip {elts : List Expr} {x1} {pos : Pos} {z TI TO T : Addr} {st : Bool} {Q : Unit → Shared → Prop} (hz : IsZ s.heap z TI TO (rawInt T) st)
    (hQ : ∀ h', IsZ h' z TI TO .none st → Heap.SameBut z s.heap h' → Q () { s with heap := h' }) :
    wpAny (model prog w) A (letOwnedTupleGo (.Tuple elts x1 pos) (.ref z) (.ref T)) Q E s := by
  unfold letOwnedTupleGo
  refine wpAny_bind (wpAny_load hz ?_)
  show wpAny _ _ (if (["enumerate", "zip", "dict_itemiterator", "dict_reverseitemiterator", "odict_iterator", "itertools.zip_longest", "itertools.pairwise"].contains "zip" &&
      (#[rawInt T, .bool false, .bool st, .ref TI, .ref TO] : Array Value)[0]? == some (rawInt T)) = true then _ else _) Q E s
  rw [if_pos (by simp)]
  refine wpAny_bind (wpAny_rule ?_)
  show wpAny _ _ (setField (.ref z) 0 .none) Q E s
  exact wpAny_setField_rec hz (by simp) fun h' hz' hs' => hQ h' hz' hs'
theorem iter_zip {z TI TO : Addr} {f0 : Value} {st : Bool} {Q : Value → Shared → Prop} (hz : IsZ s.heap z TI TO f0 st) (h : Q (.ref z) s) : wpAny (model prog w) A (pyIter (.ref z)) Q E s := by
  have hT : s.TypeIs (.ref z) "zip" := ⟨_, hz, rfl⟩
  refine wpAny_pyIter_slot hT F.slot_zip_iter (wpAny_call_entry F.slot_zip_iter hT F.entry_zip_iter ?_ (F.args_zip_iter_1 _))
  show wpAny _ _ (ret (.ref z)) _ _ s
  exact wpAny_pure ⟨_, rfl, "zip", _, hT, F.slot_zip_next.lookup, h⟩
end
end Hz

set_option Elab.async false
set_option linter.all false
set_option maxRecDepth 100000
set_option maxHeartbeats 2000000
/-! HvZ2: zip(..) made, with or without strict=True. -/
namespace Hz
open PySem
open PySem.Sem (wp)
section
variable {prog : Program} {w : World} {A : Around} {E : Value → Shared → Prop} {s : Shared}
theorem iter_src {e : Sc} {Q : Value → Shared → Prop} (hs : SrcAt s.heap e) (hQ : ∀ h', ItAt h' s.heap.objs.size e 0 → h'.objs.size = s.heap.objs.size + 1 → (∀ c o, s.heap.get? c = some o → h'.get? c = some o) → Q (.ref s.heap.objs.size) { s with heap := h' }) :
    wpAny (model prog w) A (pyIter (.ref e.a)) Q E s := by
  obtain ⟨a, tup, xs⟩ := e
  cases tup with
  | true => exact wpAny_pyIter_tuple (show s.heap.IsTuple a xs.toArray from hs) (hQ _ ⟨_, Heap.get?_push_size _ rfl, rfl, rfl⟩ (Heap.size_push ..) fun _ _ => Heap.get?_push_of_some _)
  | false => exact wpAny_pyIter_list (show s.heap.IsList a xs.toArray from hs) (hQ _ ⟨_, Heap.get?_push_size _ rfl, rfl, rfl⟩ (Heap.size_push ..) fun _ _ => Heap.get?_push_of_some _)
theorem iterAll_ok {S : List Sc} {Q : List Value → Shared → Prop} (src : ∀ e ∈ S, SrcAt s.heap e) (hQ : ∀ h', (∀ (m : Nat) e, S[m]? = some e → ItAt h' (s.heap.objs.size + m) e 0) → h'.objs.size = s.heap.objs.size + S.length → (∀ c o, s.heap.get? c = some o → h'.get? c = some o) →
      Q (refsFrom s.heap.objs.size S.length) { s with heap := h' }) : wpAny (model prog w) A (Builtin.SmallTypes.iterAll (S.map fun e => .ref e.a)) Q E s := by
  unfold Builtin.SmallTypes.iterAll
  refine wpAny_bind ?_
  refine wpAny_forIn_list _ (fun rest its s' => ∃ j h', rest = (S.map fun e => Value.ref e.a).drop j ∧ j ≤ S.length ∧ its = (refsFrom s.heap.objs.size j).toArray ∧ s' = { s with heap := h' } ∧ h'.objs.size = s.heap.objs.size + j ∧
    (∀ (m : Nat) e, m < j → S[m]? = some e → ItAt h' (s.heap.objs.size + m) e 0) ∧ (∀ c o, s.heap.get? c = some o → h'.get? c = some o)) _ ?_ ?_ _ _ ⟨0, s.heap, rfl, Nat.zero_le _, rfl, rfl, rfl, fun m e hm => absurd hm (Nat.not_lt_zero _), fun _ _ h => h⟩
  · rintro x rest its s' ⟨j, h', hd, hj, rfl, rfl, sz', it', pr'⟩
    have hjl : j < S.length := by
      rcases Nat.lt_or_ge j S.length with h | h
      · exact h
      · rw [List.drop_eq_nil_of_le (by rw [List.length_map]; exact h)] at hd
        cases hd
    rw [List.drop_eq_getElem_cons (by rw [List.length_map]; exact hjl), List.getElem_map] at hd
    cases hd
    have he : S[j]? = some S[j] := List.getElem?_eq_getElem hjl
    refine wpAny_bind (wpAny_holding (iter_src ((src _ (List.mem_of_getElem? he)).at fun o q => pr' _ _ q) fun h₂ it₂ sz₂ k₂ => wpAny_pure ⟨j + 1, h₂, rfl, hjl, ?_, rfl, ?_, fun m e hm hme => ?_, fun c o q => k₂ _ _ (pr' c o q)⟩))
    · show ((refsFrom s.heap.objs.size j).toArray).push (Value.ref h'.objs.size) = _
      rw [sz', refsFrom, refsFrom, List.range_succ, List.map_append]
      simp
    · show h₂.objs.size = _
      rw [sz₂]
      show h'.objs.size + 1 = _
      rw [sz']
      omega
    · by_cases hmj : m = j
      · subst hmj
        rw [he] at hme
        cases hme
        have it₂ : ItAt h₂ h'.objs.size S[m] 0 := it₂
        rw [sz'] at it₂
        exact it₂
      · exact (it' m e (by omega) hme).at fun o q => k₂ _ _ q
  · rintro its s' ⟨j, h', hd, hj, rfl, rfl, sz', it', pr'⟩
    have hjn : j = S.length := by
      rcases Nat.lt_or_ge j S.length with h | h
      · rw [List.drop_eq_getElem_cons (by rw [List.length_map]; exact h)] at hd
        cases hd
      · omega
    subst hjn
    refine wpAny_pure ?_
    exact hQ h' (fun m e h => it' m e (List.getElem?_eq_some_iff.mp h).1 h) sz' pr'
def kwOf (st : Bool) : List (Str × Value) := if st = true then [("strict", .bool true)] else []
theorem zip_new {S : List Sc} {st : Bool} {Q : Value → Shared → Prop} (hl : S.length ≤ 1000) (src : ∀ e ∈ S, SrcAt s.heap e) (hQ : ∀ h', Zs h' s.heap.objs.size S st 0 .none → (∀ c o, s.heap.get? c = some o → h'.get? c = some o) → Q (.ref (s.heap.objs.size + S.length + 2)) { s with heap := h' }) :
    wpAny (model prog w) A (Builtin.«zip.__new__» ⟨.type "zip" :: (S.map fun e => .ref e.a), kwOf st⟩) (fun fin s' => ∃ v, fin = .done (.ret v) ∧ Q v s') E s := by
  have hsub := sub_zip
  unfold Builtin.«zip.__new__»
  have hnc : ∀ kw, Builtin.SmallTypes.newClass "zip" ⟨.type "zip" :: (S.map fun e => .ref e.a), kw⟩ = pure (.type "zip", S.map fun e => .ref e.a) := by
    intro kw
    unfold Builtin.SmallTypes.newClass
    simp only [isType, hsub, pure_bind]
    rfl
  rw [hnc]
  have fin : ∀ s0 : Shared, s0 = s → wpAny (model prog w) A (do
      let its ← Builtin.SmallTypes.iterAll (S.map fun e => .ref e.a)
      ret (← Builtin.SmallTypes.newRecord (.type "zip") (Builtin.SmallTypes.ownedTupleFields ++ [.bool st, ← newTuple its, ← newTuple (its.map fun _ => .none)]))) (fun fin s' => ∃ v, fin = .done (.ret v) ∧ Q v s') E s0 := by
    rintro s0 rfl
    refine wpAny_bind (iterAll_ok src fun h' it' sz' pr' => ?_)
    have hlr : (refsFrom s0.heap.objs.size S.length).length = S.length := by simp [refsFrom]
    refine wpAny_bind (wpAny_newTuple ?_ (by rw [hlr, sizeLine_eq]; omega))
    refine wpAny_bind (wpAny_newTuple ?_ (by rw [List.length_map, hlr, sizeLine_eq]; omega))
    refine wpAny_bind ?_
    simp only [Builtin.SmallTypes.newRecord]
    refine wpAny_newObj_type (wpAny_pure ⟨_, rfl, ?_⟩) (by first | trivial | exact True.intro | simp [sizeOk, Builtin.SmallTypes.ownedTupleFields, sizeLine_eq])
    have s1 : (h'.push { cls := .type "tuple", data := .seq (refsFrom s0.heap.objs.size S.length).toArray }).objs.size = s0.heap.objs.size + S.length + 1 := by rw [Heap.size_push, sz']
    have s2 : ((h'.push { cls := .type "tuple", data := .seq (refsFrom s0.heap.objs.size S.length).toArray }).push { cls := .type "tuple", data := .seq ((refsFrom s0.heap.objs.size S.length).map fun _ => Value.none).toArray }).objs.size = s0.heap.objs.size + S.length + 2 := by rw [Heap.size_push, s1]
    have key := hQ (((h'.push { cls := .type "tuple", data := .seq (refsFrom s0.heap.objs.size S.length).toArray }).push { cls := .type "tuple", data := .seq ((refsFrom s0.heap.objs.size S.length).map fun _ => Value.none).toArray }).push { cls := .type "zip", dict := none, data := .fields #[.none, .bool false, .bool st, .ref (s0.heap.objs.size + S.length), .ref (s0.heap.objs.size + S.length + 1)], slots := #[] })
      ⟨by have := Heap.get?_push_size ((h'.push { cls := .type "tuple", data := .seq (refsFrom s0.heap.objs.size S.length).toArray }).push { cls := .type "tuple", data := .seq ((refsFrom s0.heap.objs.size S.length).map fun _ => Value.none).toArray }) (o := { cls := .type "zip", dict := none, data := .fields #[.none, .bool false, .bool st, .ref (s0.heap.objs.size + S.length), .ref (s0.heap.objs.size + S.length + 1)], slots := #[] }) rfl
          rw [s2] at this
          exact this,
        by have := Heap.get?_push_size h' (o := { cls := .type "tuple", data := .seq (refsFrom s0.heap.objs.size S.length).toArray }) rfl
           rw [sz'] at this
           exact Heap.get?_push_of_some _ (Heap.get?_push_of_some _ this),
        ⟨(refsFrom s0.heap.objs.size S.length).map fun _ => Value.none, by rw [List.length_map, hlr], by
          have := Heap.get?_push_size (h'.push { cls := .type "tuple", data := .seq (refsFrom s0.heap.objs.size S.length).toArray }) (o := { cls := .type "tuple", data := .seq ((refsFrom s0.heap.objs.size S.length).map fun _ => Value.none).toArray }) rfl
          rw [s1] at this
          exact Heap.get?_push_of_some _ this⟩,
        fun j e h => (it' j e h).at fun o q => Heap.get?_push_of_some _ (Heap.get?_push_of_some _ (Heap.get?_push_of_some _ q))⟩
      (fun c o q => Heap.get?_push_of_some _ (Heap.get?_push_of_some _ (Heap.get?_push_of_some _ (pr' c o q))))
    rw [← s2, ← s1, ← sz'] at key
    exact key
  cases st with
  | false => exact fin s rfl
  | true => 
    simp only [kwOf, if_true]
    exact fin s rfl
theorem obj_init_kw {self : Value} {rest : List Value} {kw : List (Str × Value)} {T newId : String} (hl : typeLookup (.type T) "__init__" = pure (some (.builtin "object.__init__")))
    (hm : Bind.madeBy (.type T) = pure (some newId)) (hne : (some newId != some "object.__new__") = true) :
    Meets (Builtin.«object.__init__» ⟨self :: rest, kw⟩) (fun _ R s => s.TypeIs self T ∧ R (.ok (.ret .none)) s) := by
  refine Meets.of_wp fun prog w A R s hs => ?_
  obtain ⟨hT, hq⟩ := hs
  cases rest with
  | nil =>
    cases kw with
    | nil => exact wpAny_pure ⟨_, rfl, hq⟩
    | cons a r =>
      repeat (any_goals (first | assumption | wp_step))
      exact ⟨_, rfl, hq⟩
  | cons a rest =>
    repeat (any_goals (first | assumption | wp_step))
    exact ⟨_, rfl, hq⟩
theorem callType_kw {T newId initId : String} {Bn Bi : Builtin} {args : List Value} {kw : List (Str × Value)} {S : Spec} {Q Q₁ : Value → Shared → Prop} (ft : TypeCalled T newId initId)
    (hct : checkTypeCall T ⟨args, kw⟩ = pure ()) (hcn : checkBuiltinCall newId ⟨.type T :: args, kw⟩ = pure ())
    (entryN : entryFor table newId = some Bn) (entryI : entryFor table initId = some Bi) (g : Meets (Bn ⟨.type T :: args, kw⟩) S)
    (h : S A.in1 (wants Q₁ E) s)
    (hnext : ∀ obj s₁, Q₁ obj s₁ → s₁.TypeIs obj T ∧ argsOk initId ⟨obj :: args, kw⟩ ∧ ∃ Si, Meets (Bi ⟨obj :: args, kw⟩) Si ∧ Si A.in1 (wants (fun r s₂ => r = .none ∧ Q obj s₂) E) s₁) :
    wpAny (model prog w) A (call (.type T) args kw) Q E s := by
  obtain ⟨c, tl, hmro⟩ := ft.mro
  have hmade := ft.made
  have hsub := ft.sub
  refine wpAny_call (codeAny_of_tree ?_)
  show wpAny _ _ (callAny (.type T) _) _ _ _
  refine wpAny_pure ⟨Code.quiet_builtin _ (by decide +kernel), codeAny_builtin F.entry_type_call ?_⟩
  rw [Around.under_plain (weight_type_call_type T args kw) (units_type_call_type T args kw)]
  have h1 := ft.notType
  have h2 := ft.canCreate
  repeat (any_goals (first | assumption | wp_step))
  refine codeAny_mono (codeAny_call_builtin ft.plain entryN (wpAny_of_eq hcn (g prog w A.in1 _ s h))) fun r s₁ hr => ?_
  cases r with
  | error e => exact hr
  | ok fl =>
    cases fl with
    | ret obj =>
      obtain ⟨hT, hok, Si, gi, hsi⟩ := hnext _ _ hr
      have hli := ft.init.lookup
      have hbi := ft.init.bind obj
      repeat (any_goals (first | assumption | wp_step))
      refine codeAny_mono (codeAny_call_builtin ft.init.plain entryI (ft.init.check _ _ _ _ _ _ _ _ hT hok (gi prog w A.in1 _ s₁ hsi))) fun r₂ s₂ hr₂ => ?_
      cases r₂ with
      | error e => exact hr₂
      | ok fl₂ =>
        cases fl₂ with
        | ret r =>
          obtain ⟨rfl, hq⟩ := hr₂
          repeat (any_goals (first | assumption | wp_step))
        | _ => exact hr₂.elim
    | _ => exact hr.elim
theorem tc (kw : List (Str × Value)) (hk : kw = kwOf true ∨ kw = kwOf false) (as : List Value) (ha : as.length = 2 ∨ as.length = 3 ∨ as.length = 4) : checkTypeCall "zip" ⟨as, kw⟩ = pure () ∧ checkBuiltinCall "zip.__new__" ⟨.type "zip" :: as, kw⟩ = pure () ∧ ∀ o, argsOk "object.__init__" ⟨o :: as, kw⟩ := by
  have h : ∀ {n : Nat}, as.length = n → True := fun _ => trivial
  have key : ∀ o a b, argsOk "object.__init__" ⟨[o, a, b], kwOf true⟩ ∧ argsOk "object.__init__" ⟨[o, a, b], kwOf false⟩ := fun o a b => by
    constructor <;> (unfold argsOk; rw [signature?_of (id := "object.__init__") (n := ['_', '_', 't', 'i', 'n', 'i', '_', '_']) (o := ['t', 'c', 'e', 'j', 'b', 'o']) (by kernel_rfl) F.owner_object]; kernel_rfl)
  have key3 : ∀ o a b c, argsOk "object.__init__" ⟨[o, a, b, c], kwOf true⟩ ∧ argsOk "object.__init__" ⟨[o, a, b, c], kwOf false⟩ := fun o a b c => by
    constructor <;> (unfold argsOk; rw [signature?_of (id := "object.__init__") (n := ['_', '_', 't', 'i', 'n', 'i', '_', '_']) (o := ['t', 'c', 'e', 'j', 'b', 'o']) (by kernel_rfl) F.owner_object]; kernel_rfl)
  have key4 : ∀ o a b c d, argsOk "object.__init__" ⟨[o, a, b, c, d], kwOf true⟩ ∧ argsOk "object.__init__" ⟨[o, a, b, c, d], kwOf false⟩ := fun o a b c d => by
    constructor <;> (unfold argsOk; rw [signature?_of (id := "object.__init__") (n := ['_', '_', 't', 'i', 'n', 'i', '_', '_']) (o := ['t', 'c', 'e', 'j', 'b', 'o']) (by kernel_rfl) F.owner_object]; kernel_rfl)
  have t2 : ∀ a b, (checkTypeCall "zip" ⟨[a, b], kwOf true⟩ = pure () ∧ checkBuiltinCall "zip.__new__" ⟨[.type "zip", a, b], kwOf true⟩ = pure ()) ∧ (checkTypeCall "zip" ⟨[a, b], kwOf false⟩ = pure () ∧ checkBuiltinCall "zip.__new__" ⟨[.type "zip", a, b], kwOf false⟩ = pure ()) := fun a b => ⟨⟨by kernel_rfl, by kernel_rfl⟩, ⟨by kernel_rfl, by kernel_rfl⟩⟩
  have t3 : ∀ a b c, (checkTypeCall "zip" ⟨[a, b, c], kwOf true⟩ = pure () ∧ checkBuiltinCall "zip.__new__" ⟨[.type "zip", a, b, c], kwOf true⟩ = pure ()) ∧ (checkTypeCall "zip" ⟨[a, b, c], kwOf false⟩ = pure () ∧ checkBuiltinCall "zip.__new__" ⟨[.type "zip", a, b, c], kwOf false⟩ = pure ()) := fun a b c => ⟨⟨by kernel_rfl, by kernel_rfl⟩, ⟨by kernel_rfl, by kernel_rfl⟩⟩
  have t4 : ∀ a b c d, (checkTypeCall "zip" ⟨[a, b, c, d], kwOf true⟩ = pure () ∧ checkBuiltinCall "zip.__new__" ⟨[.type "zip", a, b, c, d], kwOf true⟩ = pure ()) ∧ (checkTypeCall "zip" ⟨[a, b, c, d], kwOf false⟩ = pure () ∧ checkBuiltinCall "zip.__new__" ⟨[.type "zip", a, b, c, d], kwOf false⟩ = pure ()) := fun a b c d => ⟨⟨by kernel_rfl, by kernel_rfl⟩, ⟨by kernel_rfl, by kernel_rfl⟩⟩
  rcases hk with rfl | rfl
  · rcases ha with ha | ha | ha
    · match as, ha with | [a, b], _ => exact ⟨(t2 a b).1.1, (t2 a b).1.2, fun o => (key o a b).1⟩
    · match as, ha with | [a, b, c], _ => exact ⟨(t3 a b c).1.1, (t3 a b c).1.2, fun o => (key3 o a b c).1⟩
    · match as, ha with | [a, b, c, d], _ => exact ⟨(t4 a b c d).1.1, (t4 a b c d).1.2, fun o => (key4 o a b c d).1⟩
  · rcases ha with ha | ha | ha
    · match as, ha with | [a, b], _ => exact ⟨(t2 a b).2.1, (t2 a b).2.2, fun o => (key o a b).2⟩
    · match as, ha with | [a, b, c], _ => exact ⟨(t3 a b c).2.1, (t3 a b c).2.2, fun o => (key3 o a b c).2⟩
    · match as, ha with | [a, b, c, d], _ => exact ⟨(t4 a b c d).2.1, (t4 a b c d).2.2, fun o => (key4 o a b c d).2⟩
theorem call_zipS {S : List Sc} {st : Bool} {Q : Value → Shared → Prop} (hl : S.length = 2 ∨ S.length = 3 ∨ S.length = 4) (src : ∀ e ∈ S, SrcAt s.heap e) (hQ : ∀ h', Zs h' s.heap.objs.size S st 0 .none → (∀ c o, s.heap.get? c = some o → h'.get? c = some o) → Q (.ref (s.heap.objs.size + S.length + 2)) { s with heap := h' }) :
    wpAny (model prog w) A (call (.type "zip") (S.map fun e => .ref e.a) (kwOf st)) Q E s := by
  obtain ⟨t1, t2, t3⟩ := tc (kwOf st) (by cases st <;> simp) (S.map fun e => .ref e.a) (by simpa using hl)
  have g : Meets (Builtin.«zip.__new__» ⟨.type "zip" :: (S.map fun e => .ref e.a), kwOf st⟩) (fun A R s => (∀ e ∈ S, SrcAt s.heap e) ∧ ∀ h', Zs h' s.heap.objs.size S st 0 .none → (∀ c o, s.heap.get? c = some o → h'.get? c = some o) → R (.ok (.ret (.ref (s.heap.objs.size + S.length + 2)))) { s with heap := h' }) :=
    .of_wp fun prog w A R s hs => zip_new (by omega) hs.1 hs.2
  refine callType_kw (Q₁ := fun obj s₁ => s₁.TypeIs obj "zip" ∧ Q obj s₁) F.called_zip t1 t2 F.entry_zip_new F.entry_object_init g ⟨src, fun h' Z k => ⟨⟨_, Z.z, rfl⟩, hQ h' Z k⟩⟩ fun obj s₁ hq => ⟨hq.1, t3 obj, _, obj_init_kw F.called_zip.init.lookup F.called_zip.made (by decide), hq.1, rfl, hq.2⟩
end
end Hz

set_option Elab.async false
set_option linter.all false
set_option maxRecDepth 100000
set_option maxHeartbeats 4000000
/-! HvW: for .. in zip(..). -/
namespace Hz
open PySem PySem.Spec PyProof.Rows L2
def SrcV (K : PySem.W.Frag) (H : Hp) (p : Addr × Bool) (xs : List V) : Prop := match p.2 with
  | true => SqT K H p.1 xs
  | false => SqL K H p.1 xs
/-- the lists and tuples as they stand at each turn, the items in a new tuple -/
def ItzN (K : PySem.W.Frag) (as : List (Addr × Bool)) : It :=
  ⟨fun i H => ∀ p ∈ as, ∃ (xs : List V) (x : V), SrcV K H p xs ∧ xs[i]? = some x,
    fun i H v H' => ∃ T vs, v = .ref T ∧ H T = none ∧ H' = upd H T (.tup vs) ∧ vs.length = as.length ∧ ∀ (j : Nat) p, as[j]? = some p → ∀ xs, SrcV K H p xs → xs[i]? = vs[j]?,
    fun i H => ∀ p ∈ as, ∃ xs : List V, SrcV K H p xs ∧ xs.length ≤ i⟩
def bare (as : List (Addr × Bool)) : List Sc := as.map fun p => ⟨p.1, p.2, []⟩
section
variable {X : Cx} {pins : List (Addr × Obj)} {σ : L2.St} {H : Hp} {s : Shared}
theorem SrcV.src (I : Inv X pins σ H s) {p : Addr × Bool} {xs : List V} (h : SrcV X.K H p xs) : ∃ its, Vals xs its ∧ SrcAt s.heap ⟨p.1, p.2, its⟩ ∧ xs.length ≤ sizeLine := by
  obtain ⟨a, t⟩ := p
  cases t with
  | true =>
    obtain ⟨its, rv, pl, hz⟩ := I.tuple (show SqT X.K H a xs from h)
    exact ⟨its, rv, pl, hz⟩
  | false =>
    obtain ⟨its, rv, pl, hz⟩ := I.list (show SqL X.K H a xs from h)
    exact ⟨its, rv, pl.isList, hz⟩
theorem SrcV.inj (I : Inv X pins σ H s) {p : Addr × Bool} {xs ys : List V} (h : SrcV X.K H p xs) (h' : SrcV X.K H p ys) : xs = ys := by
  obtain ⟨a, t⟩ := p
  cases t with
  | true => exact I.tuple_inj (show SqT X.K H a xs from h) h'
  | false => exact I.list_inj (show SqL X.K H a xs from h) h'
theorem build (I : Inv X pins σ H s) (i : Nat) : ∀ (as : List (Addr × Bool)), (∀ p ∈ as, ∃ (xs : List V) (x : V), SrcV X.K H p xs ∧ xs[i]? = some x) →
    ∃ (S : List Sc) (row : List Value) (vs : List V), S.map (fun e => (e.a, e.tup)) = as ∧ (∀ e ∈ S, SrcAt s.heap e) ∧ row.length = S.length ∧ Vals vs row ∧ (∀ (j : Nat) (e : Sc), S[j]? = some e → e.xs[i]? = row[j]?) ∧ ∀ (j : Nat) p, as[j]? = some p → ∀ xs, SrcV X.K H p xs → xs[i]? = vs[j]?
  | [], _ => ⟨[], [], [], rfl, fun e h => (by cases h), rfl, .nil, fun j e h => by simp at h, fun j p h => by simp at h⟩
  | p :: as, h => by
    obtain ⟨S, row, vs, h1, h2, h3, h4, h5, h6⟩ := build I i as fun q hq => h q (List.mem_cons_of_mem _ hq)
    obtain ⟨xs, x, hs, hx⟩ := h p List.mem_cons_self
    obtain ⟨its, rv, hsrc, hz⟩ := hs.src I
    obtain ⟨u, hu, ru⟩ := rv.get hx
    refine ⟨⟨p.1, p.2, its⟩ :: S, u :: row, x :: vs, by rw [List.map_cons, h1], fun e he => ?_, by rw [List.length_cons, List.length_cons, h3], .cons ru h4, fun j e he => ?_, fun j q hq ys hy => ?_⟩
    · rcases List.mem_cons.mp he with rfl | he
      · exact hsrc
      · exact h2 e he
    · cases j with
      | zero => cases he; exact hu
      | succ j => exact h5 j e he
    · cases j with
      | zero =>
        cases hq
        rw [hs.inj I hy] at hx
        exact hx
      | succ j => exact h6 j q hq ys hy
theorem build_end (I : Inv X pins σ H s) (i : Nat) : ∀ (as : List (Addr × Bool)), (∀ p ∈ as, ∃ xs : List V, SrcV X.K H p xs ∧ xs.length ≤ i) →
    ∃ S : List Sc, S.map (fun e => (e.a, e.tup)) = as ∧ (∀ e ∈ S, SrcAt s.heap e) ∧ ∀ e ∈ S, e.xs[i]? = none
  | [], _ => ⟨[], rfl, fun e h => (by cases h), fun e h => (by cases h)⟩
  | p :: as, h => by
    obtain ⟨S, h1, h2, h3⟩ := build_end I i as fun q hq => h q (List.mem_cons_of_mem _ hq)
    obtain ⟨xs, hs, hx⟩ := h p List.mem_cons_self
    obtain ⟨its, rv, hsrc, hz⟩ := hs.src I
    refine ⟨⟨p.1, p.2, its⟩ :: S, by rw [List.map_cons, h1], fun e he => ?_, fun e he => ?_⟩
    · rcases List.mem_cons.mp he with rfl | he
      · exact hsrc
      · exact h2 e he
    · rcases List.mem_cons.mp he with rfl | he
      · exact List.getElem?_eq_none (by rw [← rv.length]; exact hx)
      · exact h3 e he
end
theorem Zs.as {h : Heap} {b : Nat} {S S' : List Sc} {st : Bool} {k : Nat} {f0 : Value} (Z : Zs h b S st k f0) (e : S'.map (fun e => (e.a, e.tup)) = S.map (fun e => (e.a, e.tup))) : Zs h b S' st k f0 := by
  have hl : S'.length = S.length := by simpa using congrArg List.length e
  refine ⟨by rw [hl]; exact Z.z, by rw [hl]; exact Z.TI, by rw [hl]; exact Z.TO, fun j x hx => ?_⟩
  have h1 : (S'.map fun e => (e.a, e.tup))[j]? = some (x.a, x.tup) := by rw [List.getElem?_map, hx]; rfl
  rw [e, List.getElem?_map] at h1
  cases hy : S[j]? with
  | none => rw [hy] at h1; cases h1
  | some y =>
    rw [hy] at h1
    have h2 : (y.a, y.tup) = (x.a, x.tup) := Option.some.inj h1
    have := Z.it j y hy
    obtain ⟨ya, yt, yx⟩ := y
    obtain ⟨xa, xt, xx⟩ := x
    cases h2
    exact this
theorem bare_map (as : List (Addr × Bool)) : (bare as).map (fun e => (e.a, e.tup)) = as := by
  induction as with
  | nil => rfl
  | cons p as ih => exact congrArg (p :: ·) ih
theorem Zs.keep {h h' : Heap} {b : Nat} {S : List Sc} {st : Bool} {k : Nat} {f0 : Value} (Z : Zs h b S st k f0) (q : ∀ c : Nat, b ≤ c → c ≤ b + S.length + 2 → ∀ o, h.get? c = some o → h'.get? c = some o) : Zs h' b S st k f0 := by
  obtain ⟨z, TI, ⟨vs, hv, TO⟩, it⟩ := Z
  exact ⟨q _ (by omega) (by omega) _ z, q _ (by omega) (by omega) _ TI, ⟨vs, hv, q _ (by omega) (by omega) _ TO⟩, fun j e he => (it j e he).at fun o x => q _ (by omega) (by have := (List.getElem?_eq_some_iff.mp he).1; omega) o x⟩
def fps (b n : Nat) : List Addr := (List.range (n + 3)).map fun j => b + j
theorem mem_fps {b n c : Nat} : c ∈ fps b n ↔ b ≤ c ∧ c ≤ b + n + 2 := by
  unfold fps
  simp only [List.mem_map, List.mem_range]
  constructor
  · rintro ⟨j, hj, rfl⟩; omega
  · rintro ⟨h1, h2⟩; exact ⟨c - b, by omega, by omega⟩
theorem Zs.objs {h : Heap} {b : Nat} {S : List Sc} {st : Bool} {k : Nat} {f0 : Value} (Z : Zs h b S st k f0) {c : Nat} (h1 : b ≤ c) (h2 : c ≤ b + S.length + 2) : ∃ o, h.get? c = some o ∧ ∀ v, o.data ≠ .cell v := by
  obtain ⟨z, TI, ⟨vs, hv, TO⟩, it⟩ := Z
  by_cases e1 : c = b + S.length + 2
  · subst e1; exact ⟨_, z, fun v q => nomatch q⟩
  · by_cases e2 : c = b + S.length + 1
    · subst e2; exact ⟨_, TO, fun v q => nomatch q⟩
    · by_cases e3 : c = b + S.length
      · subst e3; exact ⟨_, TI, fun v q => nomatch q⟩
      · have hj : c - b < S.length := by omega
        obtain ⟨o, ws, ho, hd⟩ := (it (c - b) _ (List.getElem?_eq_getElem hj)).obj
        rw [show b + (c - b) = c by omega] at ho
        exact ⟨o, ho, fun v q => by rw [hd] at q; cases q⟩
theorem turn_zipN {P : Program} {w : World} {K : PySem.W.Frag} {elts : List Expr} {kk : Nat} {tpos : Pos} {b : Nat} {as : List (Addr × Bool)} {st : Bool} (hS : as ≠ []) (hl : as.length ≤ 1000) (hb : ∀ p ∈ as, p.1 < b) :
    Turn P w K (.Tuple elts kk tpos) (ItzN K as) (fps b as.length) (b + as.length + 2) (fun i h => Zs h b (bare as) st i .none) where
  mem := mem_fps.mpr ⟨by omega, Nat.le_refl _⟩
  obj := fun i h Z c hc => by
    have := mem_fps.mp hc
    exact Z.objs this.1 (by simpa [bare] using this.2)
  keep := fun i h h' Z q => Z.keep fun c h1 h2 o x => q c (mem_fps.mpr ⟨h1, by simpa [bare] using h2⟩) o x
  item := by
    intro X hP hw hK hc i pins s σ H E I hf Z hg
    subst hP hw hK
    obtain ⟨S, row, vs, e1, e2, e3, e4, e5, e6⟩ := build I i as hg
    have hlS : S.length = as.length := by rw [← e1, List.length_map]
    have Z' := Z.as (S' := S) (by rw [e1, bare_map])
    have hSS : S ≠ [] := fun z => by rw [z] at e1; exact hS e1.symm
    have hbS : ∀ e ∈ S, e.a < b := fun e he => hb (e.a, e.tup) (by rw [← e1]; exact List.mem_map_of_mem (f := fun e : Sc => (e.a, e.tup)) he)
    rw [← hlS]
    have hzl : b + S.length + 2 < s.heap.objs.size := Heap.lt_size Z'.z
    refine next_zip_item hSS (by omega) Z' (fun e he => ⟨e2 e he, hbS e he⟩) e3 e5 fun h' Z2 hT hsz hk => ?_
    refine ⟨_, rfl, go_zip (s := { s with heap := h' }) Z2.z fun h'' z'' sb => ?_⟩
    have hT2 : h''.get? s.heap.objs.size = some { cls := .type "tuple", data := .seq row.toArray } := (sb.2 _ (Nat.ne_of_gt hzl)).trans hT
    have hvl : vs.length = row.length := e4.length
    have new : ObjOk X.prog X.w (upd H s.heap.objs.size (.tup vs)) h'' s.heap.objs.size (.tup vs) :=
      ⟨by rw [hvl, sizeLine_eq]; omega, row, e4, ⟨_, hT2, rfl, _, rfl⟩⟩
    have nin : ∀ c : Nat, c ∉ fps b as.length → c < b ∨ b + S.length + 2 < c := fun c hc => by
      rw [mem_fps] at hc
      omega
    have nz : ∀ c : Nat, c ∉ fps b as.length → c ≠ b + S.length + 2 := fun c hc => by have := nin c hc; omega
    have I1 : Inv X pins σ (upd H s.heap.objs.size (.tup vs)) { s with heap := h'' } :=
      I.turnedNew (t' := s.toks) (ch := fps b as.length) (fun c o hb q => (sb.2 c (nz c hb)).trans (hk c o (nin c hb) q)) hf (Nat.le_refl _) new
    refine ⟨.ref s.heap.objs.size, _, I1, rfl, ⟨_, vs, rfl, I.hok.fresh (Nat.le_refl _), rfl, by rw [hvl, e3, hlS], e6⟩, ?_, fun c hcm => ?_⟩
    · refine Zs.as (S := S) ⟨z'', ?_, ?_, fun j e he => ?_⟩ (by rw [e1, bare_map])
      · exact (sb.2 _ (show b + S.length ≠ b + S.length + 2 by omega)).trans Z2.TI
      · obtain ⟨ws, hw, TO⟩ := Z2.TO
        exact ⟨ws, hw, (sb.2 _ (show b + S.length + 1 ≠ b + S.length + 2 by omega)).trans TO⟩
      · have hj := (List.getElem?_eq_some_iff.mp he).1
        exact (Z2.it j e he).at fun o q => (sb.2 _ (show b + j ≠ b + S.length + 2 by omega)).trans q
    · have hlt : c < s.heap.objs.size := Nat.lt_of_le_of_lt (mem_fps.mp hcm).2 hzl
      rw [upd_ne (Nat.ne_of_lt hlt)]
      exact (hf c (by rw [← hlS]; exact hcm)).1
  done := by
    intro X hP hw hK hc i pins s σ H E I hf Z hg
    subst hP hw hK
    obtain ⟨S, e1, e2, e3⟩ := build_end I i as hg
    have hlS : S.length = as.length := by rw [← e1, List.length_map]
    have Z' := Z.as (S' := S) (by rw [e1, bare_map])
    have hSS : S ≠ [] := fun z => by rw [z] at e1; exact hS e1.symm
    have hbS : ∀ e ∈ S, e.a < b := fun e he => hb (e.a, e.tup) (by rw [← e1]; exact List.mem_map_of_mem (f := fun e : Sc => (e.a, e.tup)) he)
    have nin : ∀ c : Nat, c ∉ fps b as.length → c < b ∨ b + S.length + 2 < c := fun c hc => by
      rw [mem_fps] at hc
      omega
    rw [← hlS]
    exact next_zip_end (I.ok.hd hc) hSS Z' (fun e he => ⟨e2 e he, hbS e he⟩) e3 fun h' hk => ⟨rfl, I.turnedL (t' := s.toks) (ch := fps b as.length) (fun c o hb q => hk c o (nin c hb) q) hf⟩
  self := fun A i s Q E Z h => iter_zip (by have := Z.z; simpa [bare] using this) h
/-! ### zip(..) as it is written -/
section
variable {M : Model} {A : Around} {E : Value → Shared → Prop} {s : Shared} {env : Env}
theorem callWith_typeKw {pos : Pos} {T : String} {e : Expr} {rest : List Expr} {kws : List Keyword} {Q : Value → Shared → Prop}
    (h : wpAny M A (spliced (backTo pos (starEach (e :: rest) env))) (fun vs s₁ => wpAny M A (evalAll ((backToKw pos (keywordEach kws env)).map (·.2)))
      (fun kvs s₂ => wpAny M A (call (.type T) vs (((backToKw pos (keywordEach kws env)).filterMap (·.1)).zip kvs)) Q E s₂) E s₁) E s)
    (he : backTo pos (starEach (e :: rest) env) = (false, eval e env) :: backTo pos (starEach rest env))
    (hplain : (backTo pos (starEach (e :: rest) env)).any (·.1) = false)
    (hall : (backToKw pos (keywordEach kws env)).all (·.1.isSome) = true)
    (hkw : (backToKw pos (keywordEach kws env)).any (·.1.isNone) = false) :
    wpAny M A (callWith pos (.type T) [] (backTo pos (starEach (e :: rest) env)) (backToKw pos (keywordEach kws env))) Q E s := by
  have h2 : wpAny M A (evalArgs (.type T) true (backTo pos (starEach (e :: rest) env)) (backToKw pos (keywordEach kws env))) (fun a s₁ => wpAny M A (call (.type T) ([] ++ a.pos) a.kw) Q E s₁) E s := by
    rw [he] at h ⊢
    exact evalArgs_kwB hall h
  unfold callWith
  refine wpAny_bind (wpAny_holding (wpAny_mono h2 (fun a s₁ h₁ => wpAny_bind (wpAny_standAt ?_)) fun _ _ x => x))
  simp only [hplain, hkw, Bool.or_false]
  refine wpAny_bind (wpAny_pure ?_)
  exact wpAny_bind (wpAny_mono h₁ (fun r s₂ hr => wpAny_bind (wpAny_holding (wpAny_point (wpAny_pure hr)))) fun _ _ x => x)
end
end Hz
namespace Hv
open PySem PySem.Spec PyProof.Rows L2 Hz
section
variable {K : PySem.W.Frag} {mg : Str → Option Value} {ω : Wd}
def SrcD (K : PySem.W.Frag) (mg : Str → Option Value) (ω : Wd) (p : Addr × Bool) (xs : List D) : Prop := ∃ vs, SrcV K ω.F p vs ∧ Rs K mg ω xs vs
theorem srcV_ext {H H' : Hp} {p : Addr × Bool} {xs : List V} (e : ∀ x o, H x = some o → H' x = some o) (h : SrcV K H p xs) : SrcV K H' p xs := by
  unfold SrcV at h ⊢
  split at h
  · exact sq_t e h
  · exact sq_l e h
theorem seqs_src : ∀ {ds : List D} {vs : List V} {xss : List (List D)}, Rs K mg ω ds vs → seqsD ds = some xss → ∃ as : List (Addr × Bool), vs = as.map (fun p => V.ref p.1) ∧ as.length = xss.length ∧ ∀ (j : Nat) p xs, as[j]? = some p → xss[j]? = some xs → SrcD K mg ω p xs
  | [], _, _, .nil, e => by cases e; exact ⟨[], rfl, rfl, fun j p xs h => by simp at h⟩
  | d :: ds, _, xss, .cons h t, e => by
    have go : ∀ {xs : List D} {p : Addr × Bool} {v : V}, v = V.ref p.1 → SrcD K mg ω p xs → (seqsD ds).map (xs :: ·) = some xss → ∃ as : List (Addr × Bool), v :: _ = as.map (fun p => V.ref p.1) ∧ as.length = xss.length ∧ ∀ (j : Nat) p xs, as[j]? = some p → xss[j]? = some xs → SrcD K mg ω p xs := fun {xs p v} hv hs he => by
      cases e2 : seqsD ds with
      | none => rw [e2] at he; cases he
      | some yss =>
        rw [e2] at he
        cases he
        obtain ⟨as, h1, h2, h3⟩ := seqs_src t e2
        refine ⟨p :: as, by rw [List.map_cons, ← h1, hv], by rw [List.length_cons, List.length_cons, h2], fun j q ys h4 h5 => ?_⟩
        cases j with
        | zero => cases h4; cases h5; exact hs
        | succ j => exact h3 j q ys h4 h5
    cases d with
    | lst xs =>
      cases h with
      | lst h r => exact go (p := (_, false)) rfl ⟨_, .inl (.inl h), r⟩ e
    | tup xs =>
      cases h with
      | tup h r => exact go (p := (_, true)) rfl ⟨_, h.sq, r⟩ e
    | scr _ => cases e
    | ref _ => cases e
    | non => cases e
    | bl _ => cases e
    | int _ => cases e
    | str _ => cases e
    | ty _ => cases e
    | ins _ _ => cases e
    | dct _ => cases e
    | glo _ => cases e
theorem rows_get {n : Nat} {xss : List (List D)} {i : Nat} {d : D} (h : (rowsD n xss)[i]? = some d) : i < n ∧ d = .tup (xss.map fun xs => xs.getD i .non) := by
  unfold rowsD at h
  rw [List.getElem?_map] at h
  by_cases hi : i < n
  · rw [List.getElem?_range hi] at h
    cases h
    exact ⟨hi, rfl⟩
  · rw [List.getElem?_eq_none (by simpa using hi)] at h
    cases h
theorem rows_len {n : Nat} {xss : List (List D)} : (rowsD n xss).length = n := by simp [rowsD]
theorem rs_rows {i : Nat} : ∀ {as : List (Addr × Bool)} {xss : List (List D)} {vs : List V}, as.length = xss.length → vs.length = as.length → (∀ (j : Nat) p xs, as[j]? = some p → xss[j]? = some xs → SrcD K mg ω p xs) → (∀ (j : Nat) p, as[j]? = some p → ∀ xs, SrcV K ω.F p xs → xs[i]? = vs[j]?) →
    (∀ xs ∈ xss, i < xs.length) → Rs K mg ω (xss.map fun xs => xs.getD i .non) vs
  | [], [], [], _, _, _, _, _ => .nil
  | p :: as, xs :: xss, v :: vs, h1, h2, h3, h4, h5 => by
    obtain ⟨ws, hs, hr⟩ := h3 0 p xs rfl rfl
    have e := h4 0 p rfl ws hs
    have hi := h5 xs List.mem_cons_self
    obtain ⟨u, hu, ru⟩ := hr.get (List.getElem?_eq_getElem hi)
    have e : ws[i]? = some v := e
    rw [hu] at e
    cases e
    refine .cons ?_ (rs_rows (by simpa using h1) (by simpa using h2) (fun j p xs a b => h3 (j + 1) p xs a b) (fun j p a => h4 (j + 1) p a) fun xs hx => h5 xs (List.mem_cons_of_mem _ hx))
    show R K mg ω (xs.getD i .non) v
    rw [show xs.getD i .non = xs[i] by simp [List.getD, hi]]
    exact ru
  | [], _ :: _, _, h, _, _, _, _ => by cases h
  | _ :: _, [], _, h, _, _, _, _ => by cases h
  | _ :: _, _ :: _, [], _, h, _, _, _ => by cases h
  | [], [], _ :: _, _, h, _, _, _ => by cases h
theorem walks_zip {as : List (Addr × Bool)} {xss : List (List D)} {n : Nat} (h1 : as.length = xss.length) (h2 : ∀ (j : Nat) p xs, as[j]? = some p → xss[j]? = some xs → SrcD K mg ω p xs) (h3 : ∀ xs ∈ xss, xs.length = n) : Walks K mg ω (ItzN K as) (rowsD n xss) where
  go := fun i ω' c H l rel hi p hp => by
    rw [rows_len] at hi
    obtain ⟨j, hj, rfl⟩ := List.getElem_of_mem hp
    have hx : xss[j]? = some (xss[j]'(by omega)) := List.getElem?_eq_getElem _
    obtain ⟨vs, hs, hr⟩ := h2 j _ _ (List.getElem?_eq_getElem hj) hx
    have hl := h3 _ (List.mem_of_getElem? hx)
    obtain ⟨v, hv, _⟩ := hr.get (i := i) (List.getElem?_eq_getElem (by omega))
    exact ⟨vs, v, srcV_ext rel.ext (srcV_ext l.f hs), hv⟩
  yld := fun i ω' c H x H' d l rel hd y => by
    obtain ⟨T, vs, rfl, hT, rfl, hl, hy⟩ := y
    obtain ⟨hi, rfl⟩ := rows_get hd
    obtain ⟨l2, rel2⟩ := rel.frozen hT (.tup vs)
    refine ⟨_, l2, rel2, .tup (.inl upd_same) (Rs.mono l2.toLo (rs_rows (ω := ω') h1 hl (fun j p xs a b => ?_) (fun j p a xs hs => hy j p a xs (srcV_ext rel.ext hs)) fun xs hx => by rw [h3 xs hx]; exact hi))⟩
    obtain ⟨ws, q1, q2⟩ := h2 j p xs a b
    exact ⟨ws, srcV_ext l.f q1, q2.mono l⟩
  stop := fun ω' c H l rel p hp => by
    obtain ⟨j, hj, rfl⟩ := List.getElem_of_mem hp
    have hx : xss[j]? = some (xss[j]'(by omega)) := List.getElem?_eq_getElem _
    obtain ⟨vs, hs, hr⟩ := h2 j _ _ (List.getElem?_eq_getElem hj) hx
    exact ⟨vs, srcV_ext rel.ext (srcV_ext l.f hs), by rw [rows_len, ← hr.length, h3 _ (List.mem_of_getElem? hx)]; exact Nat.le_refl _⟩
end
section
variable {G : GE} {call : CallF} {k : Nat} {X : Cx} {Γ : SE} {W : WX} {pos : Pos}
theorem strict_kws {st : Bool} {kws : List Keyword} (h : strictB st kws = true) : (st = false ∧ kws = []) ∨ (st = true ∧ ∃ a b p, kws = [⟨some "strict", .Constant (.bool true) a b, p⟩]) := by
  unfold strictB at h
  split at h
  · left
    exact ⟨by simpa using h, rfl⟩
  · right
    simp only [Bool.and_eq_true, decide_eq_true_eq] at h
    obtain ⟨h1, rfl⟩ := h
    exact ⟨h1, _, _, _, rfl⟩
  · cases h
theorem snd_zip (E : EOk G call k X Γ W) {elts : List Expr} {kk : Nat} {tpos : Pos} {x : Str} {p0 : Pos} {st : Bool} {xs : List Expr} {kws : List Keyword} {fr : Sl → Ct → Res (List D)} (h0 : x = "zip") (h1 : kindB Γ.sc x .globalImplicit = true) (hst : strictB st kws = true) (hn : xs.all notStarB = true) (hl2 : 2 ≤ xs.length)
    (hr : PA X xs (liftA X.K X.mg W fr)) : PI X (.Tuple elts kk tpos) (.Call (.Name x p0) xs kws pos) (liftI X.K X.mg W fun sl c => bnd (fr sl c) zipK) := by
  have hg : Gl X x := by
    show X.env.scope.names.lookup x = _
    rw [E.sc]
    exact kindB_iff.mp h1
  subst h0
  refine ⟨fun pins s σ H Rr I ⟨ω, sl, c, sr, rel, p⟩ => ?_⟩
  cases xs with
  | nil => simp at hl2
  | cons e es =>
    have hn' := hn
    rw [List.all_cons, Bool.and_eq_true] at hn'
    have hfin : ∀ (s1 : Shared) (us : List Value) (vs : List V) (H1 : Hp) (ω1 : Wd) (c1 : Ct) (ds : List D), Inv X pins σ H1 s1 → Vals vs us → Rel X.K X.mg ω1 c1 H1 → Rs X.K X.mg ω1 ds vs → Post X.K X.mg (fun ω ds J => Walks X.K X.mg ω J ds) ω1 W σ (zipK ds c1) Rr →
        wpAny (model X.prog X.w) X.A (PySem.call (.type "zip") us (kwOf st)) (fun v s1 => wpAny (model X.prog X.w) X.A (pyIter v) (PIE X pins σ (.Tuple elts kk tpos) Rr) X.xe s1) X.xe s1 := by
      intro s1 us vs H1 ω1 c1 ds I1 rv rel1 rs p1
      unfold zipK at p1
      split at p1
      · rename_i ys r hseq
        split at p1
        · rename_i hc
          obtain ⟨hall, hne, hr4⟩ := hc
          obtain ⟨as, e1, e2, e3⟩ := seqs_src rs hseq
          subst e1
          have hus : us = as.map fun p => Value.ref p.1 := by
            clear e2 e3 hseq p1 rs
            induction as generalizing us with
            | nil => cases rv; rfl
            | cons a as ih => cases rv with | cons h t => cases h; rw [List.map_cons, ih _ t]
          subst hus
          have hlen3 : as.length = 2 ∨ as.length = 3 ∨ as.length = 4 := by
            have h5 : 1 ≤ r.length := List.length_pos_iff.mpr hne
            have h6 : as.length = r.length + 1 := e2
            omega
          have hn3 : ∀ zs ∈ (ys :: r), zs.length = ys.length := fun zs hz => by
            rcases List.mem_cons.mp hz with rfl | hz
            · rfl
            · simpa using List.all_eq_true.mp hall zs hz
          have src0 : ∀ q ∈ as, ∃ its, SrcAt s1.heap ⟨q.1, q.2, its⟩ := fun q hq => by
            obtain ⟨j, hj, rfl⟩ := List.getElem_of_mem hq
            have hx : (ys :: r)[j]? = some ((ys :: r)[j]'(by omega)) := List.getElem?_eq_getElem _
            obtain ⟨ws, q1, q2⟩ := e3 j _ _ (List.getElem?_eq_getElem hj) hx
            obtain ⟨its, _, h3, _⟩ := (srcV_ext rel1.ext q1).src I1
            exact ⟨its, h3⟩
          have lt0 : ∀ q ∈ as, q.1 < s1.heap.objs.size := fun q hq => by
            obtain ⟨its, h3⟩ := src0 q hq
            unfold SrcAt at h3
            split at h3
            · obtain ⟨o, ho, _⟩ := h3; exact Heap.lt_size ho
            · obtain ⟨o, ho, _⟩ := h3; exact Heap.lt_size ho
          obtain ⟨S, hS1, hS2⟩ : ∃ S : List Sc, S.map (fun e => (e.a, e.tup)) = as ∧ ∀ e ∈ S, SrcAt s1.heap e := by
            clear hlen3 e2 e3 hseq p1 rs rv lt0
            induction as with
            | nil => exact ⟨[], rfl, fun e h => (by cases h)⟩
            | cons q as ih =>
              obtain ⟨S, h1, h2⟩ := ih fun q' hq => src0 q' (List.mem_cons_of_mem _ hq)
              obtain ⟨its, h3⟩ := src0 q List.mem_cons_self
              refine ⟨⟨q.1, q.2, its⟩ :: S, by rw [List.map_cons, h1], fun e he => ?_⟩
              rcases List.mem_cons.mp he with rfl | he
              · exact h3
              · exact h2 e he
          have hSl : S.length = as.length := by rw [← hS1, List.length_map]
          have hmap : (as.map fun p => Value.ref p.1) = S.map fun e => Value.ref e.a := by rw [← hS1, List.map_map]; rfl
          rw [hmap]
          refine call_zipS (by rw [hSl]; exact hlen3) hS2 fun h' Z hk => iter_zip Z.z ?_
          have I2 : Inv X pins σ H1 { s1 with heap := h' } := I1.kept (t' := s1.toks) hk
          have hne' : as ≠ [] := fun z => by rw [z] at hlen3; simp at hlen3
          have Z2 : Zs h' s1.heap.objs.size (bare as) st 0 .none := Z.as (by rw [hS1, bare_map])
          refine ⟨s1.heap.objs.size + as.length + 2, fps s1.heap.objs.size as.length, _, _, H1, by rw [hSl], I2, turn_zipN (b := s1.heap.objs.size) (st := st) hne' (by omega) lt0, Z2, fun c hc => ?_, p1.ok_of rel1 (walks_zip e2 e3 hn3)⟩
          have hle := (mem_fps.mp hc).1
          exact I1.fpOk hle (I1.hok.fresh hle)
        · exact p1.elim
      · exact p1.elim
    refine wpAny_Call_Name_kw (ld_blt I hg E.g.zip PyProof.Rows.boot_zip ?_)
    rcases strict_kws hst with ⟨rfl, rfl⟩ | ⟨rfl, a, b, pp, rfl⟩
    · refine callWith_typeKw (thn (hr.run pos pins s σ H _ I (post_bind sr rel p)) fun us s1 ⟨vs, H1, I1, r1, ω1, c1, ds, l1, sr1, rel1, rs, p1⟩ => ?_) (by rw [star_ns hn'.1]; rfl) (back_ns hn) rfl rfl
      exact kws_nil (hfin s1 us vs H1 ω1 c1 ds I1 r1 rel1 rs p1)
    · refine callWith_typeKw (thn (hr.run pos pins s σ H _ I (post_bind sr rel p)) fun us s1 ⟨vs, H1, I1, r1, ω1, c1, ds, l1, sr1, rel1, rs, p1⟩ => ?_) (by rw [star_ns hn'.1]; rfl) (back_ns hn) rfl rfl
      refine kws_cons ((pe_bl (X := X)).run pins s1 σ H1 (fun v H => v = .bl true ∧ H = H1) I1 ⟨rfl, rfl⟩ |> thn <| fun v s2 ⟨y, H2, I2, r2, e1, e2⟩ => ?_)
      subst e1 e2
      cases r2
      exact kws_nil (hfin s2 us vs _ ω1 c1 ds I2 r1 rel1 rs p1)
end
end Hv

set_option Elab.async false
set_option linter.all false
set_option maxRecDepth 100000
set_option maxHeartbeats 4000000
/-! HvG1: soundness of expressions. -/
namespace Hv
open PySem PySem.Spec PyProof.Rows L2

section
variable {X : Cx} {W : WX} {ea eb ec : Expr} {pos : Pos} {fa fb fc : Sl → Ct → Res D}
theorem sl_D : SlR X (fun x lo hi H Q => ∃ ω dx c W σ, Rel X.K X.mg ω c H ∧ R X.K X.mg ω dx x ∧ Post X.K X.mg (R X.K X.mg) ω W σ (slcD dx lo hi c) Q) := by
  intro pins s σ H x v vl vu lo hi sl Q I rx hs pl pu ⟨ω, dx, c, W, σ', rel, r, p⟩
  unfold slcD at p
  split at p
  · split at p
    · rename_i h
      cases r
      exact sl_str pins s σ H _ v vl vu lo hi sl Q I rx hs pl pu ⟨_, rfl, Nat.le_trans h (by rw [sizeLine_eq]; decide), p.ok_of rel (.str _)⟩
    · exact p.elim
  · cases e3 : itsD dx c with
    | none => rw [e3] at p; exact p.elim
    | some xs =>
      rw [e3] at p
      simp only at p
      by_cases hl : isL dx = true
      · rw [if_pos hl] at p
        obtain ⟨a, vs, rfl, rs, hq⟩ := its_of rel r e3
        rcases hq with ⟨_, hq⟩ | ⟨z, _⟩
        · exact sl_list pins s σ H _ v vl vu lo hi sl Q I rx hs pl pu ⟨a, vs, rfl, hq, new_lst rel (cut_rs rs lo hi) p⟩
        · rw [hl] at z; cases z
      · rw [if_neg hl] at p
        exact p.elim
theorem snd_bin {mu : Bool} {o : BOp} (ha : PE X ea (liftE X.K X.mg W fa)) (hb : PE X eb (liftE X.K X.mg W fb)) : PE X (.BinOp ea (opOf o) eb pos) (liftE X.K X.mg W fun sl c => bnd (fa sl c) fun x c => bnd (fb sl c) fun y c => binD mu o x y c) :=
  (pe_op (op_bin mu o) ha hb).weak fun σ H Q ⟨ω, sl, c, sr, rel, p⟩ => (post_bind sr rel p).mono fun x H1 ⟨ω1, c1, dx, l1, sr1, rel1, rx, p1⟩ => (post_bind sr1 rel1 p1).mono fun y H2 ⟨ω2, c2, dy, l2, sr2, rel2, ry, p2⟩ =>
    ⟨ω2, dx, dy, c2, W, σ, rel2, rx.mono l2.toLo, ry, p2⟩
theorem set_ns {op : CmpOp} {b : Expr} (h : isSetB b = false) : behindInMarks op b = false := by
  cases b <;> first | rfl | cases h
theorem snd_cmp {o : COp} (hu : X.A.units + 65 < cLine) (hs : isSetB eb = false) (ha : PE X ea (liftE X.K X.mg W fa)) (hb : PE X eb (liftE X.K X.mg W fb)) : PE X (.Compare ea [copOf o] [eb] pos) (liftE X.K X.mg W fun sl c => bnd (fa sl c) fun x c => bnd (fb sl c) fun y c => cmpD o x y c) :=
  (pe_cmpR (op_cmp hu o) ha hb (set_ns hs)).weak fun σ H Q ⟨ω, sl, c, sr, rel, p⟩ => (post_bind sr rel p).mono fun x H1 ⟨ω1, c1, dx, l1, sr1, rel1, rx, p1⟩ => (post_bind sr1 rel1 p1).mono fun y H2 ⟨ω2, c2, dy, l2, sr2, rel2, ry, p2⟩ =>
    ⟨ω2, dx, dy, c2, W, σ, rel2, rx.mono l2.toLo, ry, p2⟩
/-- a comparison gives a truth value, and changes nothing -/
theorem cmpD_bl {o : COp} {x y d : D} {c c' : Ct} (h : cmpD o x y c = .ok d c') : c' = c ∧ ∃ b, d = .bl b := by
  unfold cmpD bO at h
  split at h
  · cases h; exact ⟨rfl, _, rfl⟩
  · cases h
theorem cmpD_ne {o : COp} {x y : D} {c c' : Ct} {e : XD} (h : cmpD o x y c = .exc e c') : False := by
  unfold cmpD bO at h
  split at h <;> cases h
theorem snd_cmpT {o : COp} (hu : X.A.units + 65 < cLine) (hs : isSetB eb = false) (ha : PE X ea (liftE X.K X.mg W fa)) (hb : PE X eb (liftE X.K X.mg W fb)) : PT X (.Compare ea [copOf o] [eb] pos) (liftT X.K X.mg W fun sl c => bnd (bnd (fa sl c) fun x c => bnd (fb sl c) fun y c => cmpD o x y c) truD) :=
  (pt_cmpR (op_cmp hu o) ha hb (set_ns hs)).weak fun σ H Q ⟨ω, sl, c, sr, rel, p⟩ => by
    have e : bnd (bnd (fa sl c) fun x c => bnd (fb sl c) fun y c => cmpD o x y c) truD = bnd (fa sl c) fun x c => bnd (fb sl c) fun y c => bnd (cmpD o x y c) truD := by
      cases fa sl c with
      | ok a c => show bnd (bnd (fb sl c) _) _ = bnd (fb sl c) _; cases fb sl c <;> rfl
      | exc x c => rfl
      | stuck => rfl
    dsimp only at p
    rw [e] at p
    refine (post_bind sr rel p).mono fun x H1 ⟨ω1, c1, dx, l1, sr1, rel1, rx, p1⟩ => (post_bind sr1 rel1 p1).mono fun y H2 ⟨ω2, c2, dy, l2, sr2, rel2, ry, p2⟩ => ?_
    refine ⟨ω2, dx, dy, c2, W, σ, rel2, rx.mono l2.toLo, ry, ?_⟩
    cases h : cmpD o dx dy c2 with
    | stuck => rw [h] at p2; exact p2
    | exc x c => exact (cmpD_ne h).elim
    | ok d c3 =>
      rw [h] at p2
      obtain ⟨rfl, b, rfl⟩ := cmpD_bl h
      intro ω3 v H3 l3 rel3 r3
      cases r3
      exact ⟨b, rfl, p2 ω3 b H3 l3 rel3 rfl⟩
theorem snd_chn {o o' : COp} (hu : X.A.units + 65 < cLine) (hs : isSetB eb = false) (hs' : isSetB ec = false) (ha : PE X ea (liftE X.K X.mg W fa)) (hb : PE X eb (liftE X.K X.mg W fb)) (hc : PE X ec (liftE X.K X.mg W fc)) :
    PE X (.Compare ea [copOf o, copOf o'] [eb, ec] pos) (liftE X.K X.mg W fun sl c => bnd (fa sl c) fun x c => bnd (fb sl c) fun y c => chnK o o' x y (fc sl) c) := by
  refine PE.weak (pe_chain (op_cmp hu o) (op_cmp hu o') ha hb hc (set_ns hs')) fun σ H Q ⟨ω, sl, c, sr, rel, p⟩ => (post_bind sr rel p).mono fun x H1 ⟨ω1, c1, dx, l1, sr1, rel1, rx, p1⟩ => (post_bind sr1 rel1 p1).mono fun y H2 ⟨ω2, c2, dy, l2, sr2, rel2, ry, p2⟩ => ?_
  refine ⟨ω2, dx, dy, c2, W, σ, rel2, rx.mono l2.toLo, ry, ?_⟩
  unfold chnK at p2
  cases h : cmpD o dx dy c2 with
  | stuck => rw [h] at p2; exact p2
  | exc x c => exact (cmpD_ne h).elim
  | ok d c3 =>
    rw [h] at p2
    obtain ⟨rfl, b, rfl⟩ := cmpD_bl h
    intro ω3 v H3 l3 rel3 r3
    cases r3
    refine ⟨b, rfl, ?_⟩
    cases b with
    | false =>
      rw [if_neg (by decide)]
      exact p2 ω3 _ H3 l3 rel3 (.bl _)
    | true =>
      rw [if_pos rfl]
      have p3 : Post X.K X.mg (R X.K X.mg) ω3 W σ (bnd (fc sl c3) fun z c => cmpD o' dy z c) Q := Post.le p2 l3
      exact (post_bind (sr2.mono l3.toLo) rel3 p3).mono fun z H4 ⟨ω4, c4, dz, l4, sr4, rel4, rz, p4⟩ => ⟨ω4, dy, dz, c4, W, σ, rel4, (ry.mono l3.toLo).mono l4.toLo, rz, p4⟩
theorem snd_chnT {o o' : COp} (hu : X.A.units + 65 < cLine) (hs' : isSetB ec = false) (ha : PE X ea (liftE X.K X.mg W fa)) (hb : PE X eb (liftE X.K X.mg W fb)) (hc : PE X ec (liftE X.K X.mg W fc)) :
    PT X (.Compare ea [copOf o, copOf o'] [eb, ec] pos) (liftT X.K X.mg W fun sl c => bnd (bnd (fa sl c) fun x c => bnd (fb sl c) fun y c => chnK o o' x y (fc sl) c) truD) := by
  refine PT.weak (pt_chain (op_cmp hu o) (op_cmp hu o') ha hb hc (set_ns hs')) fun σ H Q ⟨ω, sl, c, sr, rel, p⟩ => ?_
  have e : bnd (bnd (fa sl c) fun x c => bnd (fb sl c) fun y c => chnK o o' x y (fc sl) c) truD = bnd (fa sl c) fun x c => bnd (fb sl c) fun y c => bnd (chnK o o' x y (fc sl) c) truD := by
    cases fa sl c with
    | ok a c => show bnd (bnd (fb sl c) _) _ = bnd (fb sl c) _; cases fb sl c <;> rfl
    | exc x c => rfl
    | stuck => rfl
  dsimp only at p
  rw [e] at p
  refine (post_bind sr rel p).mono fun x H1 ⟨ω1, c1, dx, l1, sr1, rel1, rx, p1⟩ => (post_bind sr1 rel1 p1).mono fun y H2 ⟨ω2, c2, dy, l2, sr2, rel2, ry, p2⟩ => ?_
  refine ⟨ω2, dx, dy, c2, W, σ, rel2, rx.mono l2.toLo, ry, ?_⟩
  unfold chnK at p2
  cases h : cmpD o dx dy c2 with
  | stuck => rw [h] at p2; exact p2
  | exc x c => exact (cmpD_ne h).elim
  | ok d c3 =>
    rw [h] at p2
    obtain ⟨rfl, b, rfl⟩ := cmpD_bl h
    intro ω3 v H3 l3 rel3 r3
    cases r3
    refine ⟨b, rfl, ?_⟩
    cases b with
    | false =>
      rw [if_neg (by decide)]
      exact ⟨false, rfl, p2 ω3 _ H3 l3 rel3 rfl⟩
    | true =>
      rw [if_pos rfl]
      have e4 : bnd (bnd (fc sl c3) fun z c => cmpD o' dy z c) truD = bnd (fc sl c3) fun z c => bnd (cmpD o' dy z c) truD := by cases fc sl c3 <;> rfl
      have p3 : Post X.K X.mg (fun _ a b => a = b) ω3 W σ (bnd (fc sl c3) fun z c => bnd (cmpD o' dy z c) truD) Q := by rw [← e4]; exact Post.le p2 l3
      refine (post_bind (sr2.mono l3.toLo) rel3 p3).mono fun z H4 ⟨ω4, c4, dz, l4, sr4, rel4, rz, p4⟩ => ⟨ω4, dy, dz, c4, W, σ, rel4, (ry.mono l3.toLo).mono l4.toLo, rz, ?_⟩
      cases h5 : cmpD o' dy dz c4 with
      | stuck => rw [h5] at p4; exact p4
      | exc x c => exact (cmpD_ne h5).elim
      | ok d5 c5 =>
        rw [h5] at p4
        obtain ⟨rfl, b5, rfl⟩ := cmpD_bl h5
        intro ω6 v6 H6 l6 rel6 r6
        cases r6
        exact ⟨b5, rfl, p4 ω6 b5 H6 l6 rel6 rfl⟩
/-! ### and, or, not, if -/
theorem snd_and {rest : List Expr} (ha : PE X ea (liftE X.K X.mg W fa)) (hb : PE X (.BoolOp .And (eb :: rest) pos) (liftE X.K X.mg W fb)) : PE X (.BoolOp .And (ea :: eb :: rest) pos) (liftE X.K X.mg W fun sl c => bnd (fa sl c) fun x c => andK x (fb sl) c) :=
  (pe_and ha hb).weak fun σ H Q ⟨ω, sl, c, sr, rel, p⟩ => (post_bind sr rel p).mono fun x H1 ⟨ω1, c1, dx, l1, sr1, rel1, rx, p1⟩ => by
    unfold andK at p1
    split at p1
    · cases rx
      exact ⟨true, rfl, by rw [if_pos rfl]; exact ⟨ω1, sl, c1, sr1, rel1, p1⟩⟩
    · cases rx
      exact ⟨false, rfl, by rw [if_neg (by decide)]; exact p1.ok_of rel1 (.bl _)⟩
    · exact p1.elim
theorem snd_or {rest : List Expr} (ha : PE X ea (liftE X.K X.mg W fa)) (hb : PE X (.BoolOp .Or (eb :: rest) pos) (liftE X.K X.mg W fb)) : PE X (.BoolOp .Or (ea :: eb :: rest) pos) (liftE X.K X.mg W fun sl c => bnd (fa sl c) fun x c => orK x (fb sl) c) :=
  (pe_or ha hb).weak fun σ H Q ⟨ω, sl, c, sr, rel, p⟩ => (post_bind sr rel p).mono fun x H1 ⟨ω1, c1, dx, l1, sr1, rel1, rx, p1⟩ => by
    unfold orK at p1
    split at p1
    · cases rx
      exact ⟨false, rfl, by rw [if_neg (by decide)]; exact ⟨ω1, sl, c1, sr1, rel1, p1⟩⟩
    · cases rx
      exact ⟨true, rfl, by rw [if_pos rfl]; exact p1.ok_of rel1 (.bl _)⟩
    · exact p1.elim
theorem snd_not (ha : PE X ea (liftE X.K X.mg W fa)) : PE X (.UnaryOp .Not ea pos) (liftE X.K X.mg W fun sl c => bnd (fa sl c) notK) :=
  (pe_not ha).weak fun σ H Q ⟨ω, sl, c, sr, rel, p⟩ => (post_bind sr rel p).mono fun x H1 ⟨ω1, c1, dx, l1, sr1, rel1, rx, p1⟩ => by
    unfold notK at p1
    split at p1
    · cases rx
      exact ⟨_, rfl, p1.ok_of rel1 (.bl _)⟩
    · exact p1.elim
theorem snd_ifx {ft : Sl → Ct → Res Bool} (ht : PT X ec (liftT X.K X.mg W ft)) (ha : PE X ea (liftE X.K X.mg W fa)) (hb : PE X eb (liftE X.K X.mg W fb)) : PE X (.IfExp ec ea eb pos) (liftE X.K X.mg W fun sl c => bnd (ft sl c) fun k c => ifK k (fa sl) (fb sl) c) :=
  (pe_ifExp ht ha hb).weak fun σ H Q ⟨ω, sl, c, sr, rel, p⟩ => (post_bind sr rel p).mono fun x H1 ⟨ω1, c1, dx, l1, sr1, rel1, rx, p1⟩ => by
    subst rx
    unfold ifK at p1
    cases dx with
    | true => rw [if_pos rfl] at p1 ⊢; exact ⟨ω1, sl, c1, sr1, rel1, p1⟩
    | false => rw [if_neg (by decide)] at p1 ⊢; exact ⟨ω1, sl, c1, sr1, rel1, p1⟩
/-! ### tests -/
theorem tru_of {ω : Wd} {c : Ct} {H : Hp} {d : D} {x : V} {b : Bool} {c' : Ct} {K : PySem.W.Frag} {mg : Str → Option Value} (rel : Rel K mg ω c H) (r : R K mg ω d x) (e : truD d c = .ok b c') : c' = c ∧ TruV K x H b := by
  have emp : ∀ {xs : List D} {vs : List V}, Rs K mg ω xs vs → (!xs.isEmpty) = !vs.isEmpty := fun h => by cases h <;> rfl
  have go : ∀ {xs : List D}, itsD d c = some xs → TruV K x H (!xs.isEmpty) := fun {xs} hx => by
    obtain ⟨a, vs, rfl, rs, h⟩ := its_of rel r hx
    rw [emp rs]
    rcases h with ⟨_, h⟩ | ⟨_, h, _⟩
    · exact .inl ⟨vs, h, rfl⟩
    · exact .inr (.inl ⟨vs, h, rfl⟩)
  cases d with
  | non => cases e; cases r; exact ⟨rfl, rfl⟩
  | bl k => cases e; cases r; exact ⟨rfl, rfl⟩
  | int k => cases e; cases r; exact ⟨rfl, rfl⟩
  | lst xs => cases e; exact ⟨rfl, go rfl⟩
  | scr xs => cases e; exact ⟨rfl, go rfl⟩
  | tup xs => cases e; exact ⟨rfl, go rfl⟩
  | ref n =>
    dsimp only [truD] at e
    cases hc : c[n]? with
    | none => rw [hc] at e; cases e
    | some u =>
      rw [hc] at e
      cases u with
      | lst xs => cases e; exact ⟨rfl, go (by dsimp only [itsD]; rw [hc])⟩
      | dead => cases e
      | ins _ _ => cases e
      | dct _ => cases e
  | str _ => cases e
  | ty _ => cases e
  | ins _ _ => cases e
  | dct _ => cases e
  | glo _ => cases e
theorem pt_tru (ha : PE X ea (liftE X.K X.mg W fa)) (hp : plainT ea = true) : PT X ea (liftT X.K X.mg W fun sl c => bnd (fa sl c) truD) := by
  have he : ∀ whole, isTrue ea X.env whole = (do let v ← whole; standAt ea.pos; holding [v] (truthy v)) := fun whole => by
    cases ea <;> first | rfl | (cases hp; done) | (rename_i op _ _; cases op <;> first | rfl | cases hp)
  refine (pt_truth ha he).weak fun σ H Q ⟨ω, sl, c, sr, rel, p⟩ => (post_bind sr rel p).mono fun x H1 ⟨ω1, c1, dx, l1, sr1, rel1, rx, p1⟩ => ?_
  cases h : truD dx c1 with
  | stuck => rw [h] at p1; exact p1.elim
  | exc x c =>
    exfalso
    unfold truD at h
    split at h <;> first | (cases h; done) | (split at h <;> cases h)
  | ok b c2 =>
    rw [h] at p1
    obtain ⟨rfl, t⟩ := tru_of rel1 rx h
    exact ⟨b, t, p1.ok_of rel1 rfl⟩
theorem snd_andT {rest : List Expr} {ft fu : Sl → Ct → Res Bool} (ha : PT X ea (liftT X.K X.mg W ft)) (hb : PW X (.BoolOp .And (eb :: rest) pos) (liftT X.K X.mg W fu)) : PW X (.BoolOp .And (ea :: eb :: rest) pos) (liftT X.K X.mg W fun sl c => bnd (ft sl c) fun k c => if k = true then fu sl c else .ok false c) :=
  ⟨fun wh pins s σ H Q I ⟨ω, sl, c, sr, rel, p⟩ => (pw_and ha hb).run wh pins s σ H Q I ((post_bind sr rel p).mono fun x H1 ⟨ω1, c1, dx, l1, sr1, rel1, rx, p1⟩ => by
    subst rx
    cases dx with
    | true => rw [if_pos rfl] at p1 ⊢; exact ⟨ω1, sl, c1, sr1, rel1, p1⟩
    | false => rw [if_neg (by decide)] at p1 ⊢; exact p1.ok_of rel1 rfl)⟩
theorem snd_orT {rest : List Expr} {ft fu : Sl → Ct → Res Bool} (ha : PT X ea (liftT X.K X.mg W ft)) (hb : PW X (.BoolOp .Or (eb :: rest) pos) (liftT X.K X.mg W fu)) : PW X (.BoolOp .Or (ea :: eb :: rest) pos) (liftT X.K X.mg W fun sl c => bnd (ft sl c) fun k c => if k = true then .ok true c else fu sl c) :=
  ⟨fun wh pins s σ H Q I ⟨ω, sl, c, sr, rel, p⟩ => (pw_or ha hb).run wh pins s σ H Q I ((post_bind sr rel p).mono fun x H1 ⟨ω1, c1, dx, l1, sr1, rel1, rx, p1⟩ => by
    subst rx
    cases dx with
    | true => rw [if_pos rfl] at p1 ⊢; exact p1.ok_of rel1 rfl
    | false => rw [if_neg (by decide)] at p1 ⊢; exact ⟨ω1, sl, c1, sr1, rel1, p1⟩)⟩
theorem snd_notT {ft : Sl → Ct → Res Bool} (ha : PT X ea (liftT X.K X.mg W ft)) : PT X (.UnaryOp .Not ea pos) (liftT X.K X.mg W fun sl c => bnd (ft sl c) fun k c => .ok (!k) c) :=
  (pt_not ha).weak fun σ H Q ⟨ω, sl, c, sr, rel, p⟩ => (post_bind sr rel p).mono fun x H1 ⟨ω1, c1, dx, l1, sr1, rel1, rx, p1⟩ => by
    subst rx
    exact p1.ok_of rel1 rfl
/-! ### lists of arguments, displays -/
theorem snd_nil : PA X [] (liftA X.K X.mg W fun _ c => .ok [] c) := pa_nil.weak fun σ H Q ⟨ω, sl, c, sr, rel, p⟩ => p.ok_of rel .nil
theorem snd_cons {es : List Expr} {fr : Sl → Ct → Res (List D)} (hn : notStarB ea = true) (ha : PE X ea (liftE X.K X.mg W fa)) (hr : PA X es (liftA X.K X.mg W fr)) : PA X (ea :: es) (liftA X.K X.mg W fun sl c => bnd (fa sl c) fun x c => bnd (fr sl c) fun xs c => .ok (x :: xs) c) :=
  (pa_cons ha hr (star_ns hn _ _)).weak fun σ H Q ⟨ω, sl, c, sr, rel, p⟩ => (post_bind sr rel p).mono fun x H1 ⟨ω1, c1, dx, l1, sr1, rel1, rx, p1⟩ => (post_bind sr1 rel1 p1).mono fun xs H2 ⟨ω2, c2, ds, l2, sr2, rel2, rs, p2⟩ => p2.ok_of rel2 (.cons (rx.mono l2.toLo) rs)
theorem _root_.L2.PK.weak {kws : List Keyword} {t t' : TA} (h : PK X kws t) (k : ∀ σ H Q, t' σ H Q → t σ H Q) : PK X kws t' := ⟨fun pos pins s σ H Q I q => h.run pos pins s σ H Q I (k _ _ _ q)⟩
theorem snd_knil : PK X [] (liftA X.K X.mg W fun _ c => .ok [] c) := PK.weak pk_nil fun σ H Q ⟨ω, sl, c, sr, rel, p⟩ => p.ok_of rel .nil
theorem snd_kcons {nm : Option Str} {kpos : Pos} {kws : List Keyword} {fr : Sl → Ct → Res (List D)} (ha : PE X ea (liftE X.K X.mg W fa)) (hr : PK X kws (liftA X.K X.mg W fr)) : PK X (⟨nm, ea, kpos⟩ :: kws) (liftA X.K X.mg W fun sl c => bnd (fa sl c) fun x c => bnd (fr sl c) fun xs c => .ok (x :: xs) c) :=
  PK.weak (pk_cons ha hr) fun σ H Q ⟨ω, sl, c, sr, rel, p⟩ => (post_bind sr rel p).mono fun x H1 ⟨ω1, c1, dx, l1, sr1, rel1, rx, p1⟩ => (post_bind sr1 rel1 p1).mono fun xs H2 ⟨ω2, c2, ds, l2, sr2, rel2, rs, p2⟩ => p2.ok_of rel2 (.cons (rx.mono l2.toLo) rs)
theorem snd_tup {x1 : Nat} {es : List Expr} {fr : Sl → Ct → Res (List D)} (hr : PA X es (liftA X.K X.mg W fr)) : PE X (.Tuple es x1 pos) (liftE X.K X.mg W fun sl c => bnd (fr sl c) tupK) :=
  (pe_tup hr).weak fun σ H Q ⟨ω, sl, c, sr, rel, p⟩ => (post_bind sr rel p).mono fun xs H1 ⟨ω1, c1, ds, l1, sr1, rel1, rs, p1⟩ => by
    unfold tupK at p1
    by_cases hz : ds.length ≤ 1000
    · rw [if_pos hz] at p1
      exact ⟨by rw [← rs.length]; exact Nat.le_trans hz (by decide), new_tup rel1 rs p1⟩
    · rw [if_neg hz] at p1; exact p1.elim
theorem snd_lst {mu : Bool} {es : List Expr} {fr : Sl → Ct → Res (List D)} (hr : PA X es (liftA X.K X.mg W fr)) : PE X (.List es pos) (liftE X.K X.mg W fun sl c => bnd (fr sl c) (lstK mu)) :=
  (pe_lst hr).weak fun σ H Q ⟨ω, sl, c, sr, rel, p⟩ => (post_bind sr rel p).mono fun xs H1 ⟨ω1, c1, ds, l1, sr1, rel1, rs, p1⟩ => by
    unfold lstK at p1
    by_cases hz : ds.length ≤ 1000
    · rw [if_pos hz] at p1
      exact ⟨by rw [← rs.length]; exact Nat.le_trans hz (by decide), new_l rel1 rs p1⟩
    · rw [if_neg hz] at p1; exact p1.elim
theorem plain_ix {b : Expr} (h : isSliceB b = false) : PlainIx b := fun _ _ => by
  cases b <;> first | rfl | cases h
theorem snd_idx (hu : X.A.units + 1 < cLine) (hs : isSliceB eb = false) (ha : PE X ea (liftE X.K X.mg W fa)) (hb : PE X eb (liftE X.K X.mg W fb)) : PE X (.Subscript ea eb pos) (liftE X.K X.mg W fun sl c => bnd (fa sl c) fun x c => bnd (fb sl c) fun y c => idxD x y c) :=
  (pe_ix (ix_D hu) ha hb (plain_ix hs)).weak fun σ H Q ⟨ω, sl, c, sr, rel, p⟩ => (post_bind sr rel p).mono fun x H1 ⟨ω1, c1, dx, l1, sr1, rel1, rx, p1⟩ => (post_bind sr1 rel1 p1).mono fun y H2 ⟨ω2, c2, dy, l2, sr2, rel2, ry, p2⟩ =>
    ⟨ω2, dx, dy, c2, W, σ, rel2, rx.mono l2.toLo, ry, p2⟩
theorem snd_frz {k : Nat} (ha : PE X ea (liftE X.K X.mg W fa)) : PE X ea (liftE X.K X.mg W fun sl c => bnd (fa sl c) (frzK k)) :=
  ha.weak fun σ H Q ⟨ω, sl, c, sr, rel, p⟩ => (post_bind sr rel p).mono fun x H1 ⟨ω1, c1, dx, l1, sr1, rel1, rx, p1⟩ => by
    unfold frzK at p1
    cases h : frzD k dx c1 with
    | none => rw [h] at p1; exact p1.elim
    | some q =>
      obtain ⟨y, c2⟩ := q
      rw [h] at p1
      obtain ⟨ω2, l2, rel2, r2⟩ := frz_ok k dx c1 y c2 h ω1 H1 x rel1 rx
      exact p1.ok_le l2 rel2 r2
end

/-! ### names, constants, built-ins, calls, walks -/
section
variable {G : GE} {call : CallF} {k : Nat} {X : Cx} {Γ : SE} {W : WX} {pos : Pos}
theorem okName_d {x : Str} (h : okName x = true) : (x == ("__debug__" : Str)) = false ∧ (x == ("__classdict__" : Str)) = false ∧ x ≠ "__name__" := by
  unfold okName at h
  simp only [Bool.and_eq_true, Bool.not_eq_true', decide_eq_false_iff_not] at h
  exact ⟨h.1.1, h.1.2, h.2⟩
theorem snd_var (E : EOk G call k X Γ W) {i : Nat} {x : Str} (h1 : Γ.N[i]? = some x) (h2 : visB Γ.sc x = true) (h3 : okName x = true) : PE X (.Name x pos) (liftE X.K X.mg W fun sl c => varK sl[i]? c) := by
  obtain ⟨e1, e2, e3⟩ := okName_d h3
  have hv : Vis X.env.scope x := by
    rw [E.sc]
    unfold visB at h2
    simp only [Bool.or_eq_true, kindB_iff] at h2
    rcases h2 with (h | h) | h
    · exact .inl h
    · exact .inr (.inl h)
    · exact .inr (.inr h)
  refine (pe_var (i := i) (by rw [E.N]; exact h1) hv e1 e2).weak fun σ H Q ⟨ω, sl, c, sr, rel, p⟩ => ?_
  dsimp only at p
  unfold varK at p
  cases h : sl[i]? with
  | none => rw [h] at p; exact p.elim
  | some o =>
    cases o with
    | none => rw [h] at p; exact p.elim
    | some d =>
      rw [h] at p
      obtain ⟨v, hv, r⟩ := sr.get i d h
      exact ⟨v, hv, p.ok_of rel r⟩
theorem snd_cst {q : Cst} {v : Const} {j : Nat} (h : cstB q v = true) : PE X (.Constant v j pos) (liftE X.K X.mg W fun _ c => .ok q.d c) := by
  unfold cstB at h
  split at h
  · exact pe_non.weak fun σ H Q ⟨ω, sl, c, sr, rel, p⟩ => p.ok_of rel .non
  · simp only [beq_iff_eq] at h
    subst h
    exact pe_bl.weak fun σ H Q ⟨ω, sl, c, sr, rel, p⟩ => p.ok_of rel (.bl _)
  · simp only [decide_eq_true_eq] at h
    subst h
    exact pe_int.weak fun σ H Q ⟨ω, sl, c, sr, rel, p⟩ => p.ok_of rel (.int _)
  · simp only [decide_eq_true_eq] at h
    subst h
    exact pe_str.weak fun σ H Q ⟨ω, sl, c, sr, rel, p⟩ => p.ok_of rel (.str _)
  · cases h
theorem snd_neg {n m : Int} {j : Nat} {pos' : Pos} (h : n = -m) : PE X (.UnaryOp .USub (.Constant (.int m) j pos') pos) (liftE X.K X.mg W fun _ c => .ok (.int n) c) :=
  (pe_un un_neg pe_int).weak fun σ H Q ⟨ω, sl, c, sr, rel, p⟩ => ⟨m, rfl, by show Q (.int (-m)) H; rw [← h]; exact p.ok_of rel (.int _)⟩
theorem boot_ty : ∀ n ∈ tyNames, bootBuiltins (Str.ofString n) = some (.type n) := by decide +kernel
theorem snd_typ (E : EOk G call k X Γ W) {n : String} {x : Str} (h0 : x = Str.ofString n) (h1 : n ∈ tyNames) (h2 : kindB Γ.sc x .globalImplicit = true) (h3 : okName x = true) : PE X (.Name x pos) (liftE X.K X.mg W fun _ c => .ok (.ty n) c) := by
  obtain ⟨e1, e2, e3⟩ := okName_d h3
  have hg : Gl X x := by
    show X.env.scope.names.lookup x = _
    rw [E.sc]
    exact kindB_iff.mp h2
  subst h0
  exact (pe_bltn (v := .ty n) hg (E.g.ty n h1) (boot_ty n h1) rfl e3 e1).weak fun σ H Q ⟨ω, sl, c, sr, rel, p⟩ => p.ok_of rel (.ty n)
theorem boot_blt (f : Blt) : bootBuiltins (bltName f) = some (bltVal f) := by
  cases f <;> decide +kernel
theorem snd_blt (E : EOk G call k X Γ W) {f : Blt} {x : Str} {p0 : Pos} {xs : List Expr} {fr : Sl → Ct → Res (List D)} (h0 : x = bltName f) (h1 : kindB Γ.sc x .globalImplicit = true) (hne : xs.isEmpty = false) (hns : xs.all notStarB = true) (hr : PA X xs (liftA X.K X.mg W fr)) :
    PE X (.Call (.Name x p0) xs [] pos) (liftE X.K X.mg W fun sl c => bnd (fr sl c) fun ds c => bltD f ds c) := by
  have hg : Gl X x := by
    show X.env.scope.names.lookup x = _
    rw [E.sc]
    exact kindB_iff.mp h1
  subst h0
  cases xs with
  | nil => cases hne
  | cons e es =>
    rw [List.all_cons, Bool.and_eq_true] at hns
    have hm := E.g.blt f
    have hv := boot_blt f
    have hn : bltName f ≠ "__name__" := by cases f <;> decide
    have hd : (bltName f == ("__debug__" : Str)) = false := by cases f <;> decide
    have hc := blt_call (X := X) E.calm f
    have fin : ∀ σ H Q, liftE X.K X.mg W (fun sl c => bnd (fr sl c) fun ds c => bltD f ds c) σ H Q → tCB (rAr X.K X.mg (bltD f)) (liftA X.K X.mg W fr) σ H Q := fun σ H Q ⟨ω, sl, c, sr, rel, p⟩ =>
      (post_bind sr rel p).mono fun xs H1 ⟨ω1, c1, ds, l1, sr1, rel1, rs, p1⟩ => ⟨ω1, ds, c1, W, σ, rel1, rs, p1⟩
    cases hf : bltVal f with
    | builtin id =>
      rw [hf] at hv hc
      exact (pe_callB hc hg hm hv hr hn hd (star_ns hns.1 _ _) (back_ns hns.2)).weak fin
    | type T =>
      rw [hf] at hv hc
      exact (pe_callTy hc hg hm hv hr hn hd (star_ns hns.1 _ _) (back_ns hns.2)).weak fin
    | _ => cases f <;> cases hf
theorem chkA_all : ∀ {es : IEs} {xs : List Expr}, chkA G Γ es xs = true → xs.all notStarB = true
  | .nil, [], _ => rfl
  | .nil, _ :: _, h => by cases h
  | .cons _ _, [], h => by cases h
  | .cons e es, x :: xs, h => by
    rw [chkA] at h
    simp only [Bool.and_eq_true] at h
    rw [List.all_cons, h.1.1, chkA_all h.2]; rfl
theorem chkA_len : ∀ {es : IEs} {xs : List Expr}, chkA G Γ es xs = true → ∀ {sl : Sl} {c c' : Ct} {ds : List D}, evA call es sl c = .ok ds c' → ds.length = xs.length
  | .nil, [], _, sl, c, c', ds, e => by rw [evA] at e; cases e; rfl
  | .nil, _ :: _, h, _, _, _, _, _ => by cases h
  | .cons _ _, [], h, _, _, _, _, _ => by cases h
  | .cons e es, x :: xs, h, sl, c, c', ds, q => by
    rw [chkA] at h
    simp only [Bool.and_eq_true] at h
    rw [evA] at q
    cases e1 : evM call false e sl c with
    | stuck => rw [e1] at q; cases q
    | exc _ _ => rw [e1] at q; cases q
    | ok d c1 =>
      rw [e1] at q
      simp only [bnd_ok] at q
      cases e2 : evA call es sl c1 with
      | stuck => rw [e2] at q; cases q
      | exc _ _ => rw [e2] at q; cases q
      | ok r c2 =>
        rw [e2] at q
        cases q
        simp [chkA_len h.2 e2]
theorem chkK_len : ∀ {es : IEs} {ks : List Str} {xs : List Keyword}, chkK G Γ es ks xs = true → ∀ {sl : Sl} {c c' : Ct} {ds : List D}, evA call es sl c = .ok ds c' → ds.length = ks.length
  | .nil, ks, xs, h, sl, c, c', ds, e => by
    rw [evA] at e
    cases e
    cases ks with
    | nil => rfl
    | cons _ _ => cases h
  | .cons _ _, [], _, h, _, _, _, _, _ => by cases h
  | .cons _ _, _ :: _, [], h, _, _, _, _, _ => by cases h
  | .cons e es, k :: ks, ⟨nm, x, _⟩ :: xs, h, sl, c, c', ds, q => by
    rw [chkK] at h
    simp only [Bool.and_eq_true] at h
    rw [evA] at q
    cases e1 : evM call false e sl c with
    | stuck => rw [e1] at q; cases q
    | exc _ _ => rw [e1] at q; cases q
    | ok d c1 =>
      rw [e1] at q
      simp only [bnd_ok] at q
      cases e2 : evA call es sl c1 with
      | stuck => rw [e2] at q; cases q
      | exc _ _ => rw [e2] at q; cases q
      | ok r c2 =>
        rw [e2] at q
        cases q
        simp [chkK_len h.2 e2]
theorem post_frz {K : PySem.W.Frag} {mg : Str → Option Value} {ω : Wd} {σ : L2.St} {n : Nat} {r : Res D} {Q : VK} (p : Post K mg (R K mg) ω W σ (bnd r (frzK n)) Q) : Post K mg (R K mg) ω W σ r Q := by
  cases r with
  | stuck => exact p
  | exc x c => exact p
  | ok d c =>
    have p : Post K mg (R K mg) ω W σ (frzK n d c) Q := p
    intro ω' b H' l rel' rd
    unfold frzK at p
    cases h : frzD n d c with
    | none => rw [h] at p; exact p.elim
    | some q =>
      obtain ⟨y, c2⟩ := q
      rw [h] at p
      obtain ⟨ω2, l2, rel2, r2⟩ := frz_ok n d c y c2 h ω' H' b rel' rd
      exact p ω2 b H' (l.trans l2) rel2 r2
theorem post_fz {K : PySem.W.Frag} {mg : Str → Option Value} {ω : Wd} {σ : L2.St} {fz : Bool} {d : D} {c : Ct} {Q : VK} (p : Post K mg (R K mg) ω W σ (fzK fz d c) Q) : Post K mg (R K mg) ω W σ (.ok d c) Q := by
  unfold fzK at p
  cases fz with
  | false => rw [if_neg (by decide)] at p; exact p
  | true => rw [if_pos rfl] at p; exact post_frz (r := .ok d c) p
theorem post_ret {K : PySem.W.Frag} {mg : Str → Option Value} {ω : Wd} {σ : L2.St} {fz : Bool} {c : Ct} {H : Hp} {r : Res D} {Q : VK} (rel : Rel K mg ω c H) (p : Post K mg (R K mg) ω W σ (retK fz c r) Q) : Post K mg (R K mg) ω W σ r Q := by
  unfold retK at p
  cases fz with
  | false => rw [if_neg (by decide)] at p; exact p
  | true => rw [if_pos rfl] at p; exact post_frz (Post.gc rel p)
theorem snd_call (E : EOk G call k X Γ W) {fz : Bool} {f : Nat} {x : Str} {ks : List Str} {src : List Src} {p0 : Pos} {xs : List Expr} {kws : List Keyword} {es kes : IEs} (h0 : G.names.lookup f = some x) (h1 : kindB Γ.sc x .globalImplicit = true) (h2 : okName x = true) (h3 : (f, xs.length, ks, src) ∈ G.shapes)
    (h4 : chkA G Γ es xs = true) (h5 : chkK G Γ kes ks kws = true) (ha : PA X xs (liftA X.K X.mg W (evA call es))) (hk : PK X kws (liftA X.K X.mg W (evA call kes))) :
    PE X (.Call (.Name x p0) xs kws pos) (liftE X.K X.mg W fun sl c => bnd (evA call es sl c) fun ds c => bnd (evA call kes sl c) fun zs c => callK fz call f src ds zs c) := by
  obtain ⟨e1, e2, e3⟩ := okName_d h2
  have hg : Gl X x := by
    show X.env.scope.names.lookup x = _
    rw [E.sc]
    exact kindB_iff.mp h1
  obtain ⟨x', a, fd, ps, q0, q1, q2, q3, q4⟩ := E.g.fn _ _ _ _ h3
  rw [h0] at q0
  cases q0
  have hns := chkA_all h4
  have hkw := kw_all (env := X.env) (pos := pos) h5
  have fin : ∀ σ H Q, liftE X.K X.mg W (fun sl c => bnd (evA call es sl c) fun ds c => bnd (evA call kes sl c) fun zs c => callK fz call f src ds zs c) σ H Q → tCallG (spC X.K X.mg call f ps.length) xs.length ks.length src W (liftA X.K X.mg W (evA call es)) (liftA X.K X.mg W (evA call kes)) σ H Q := fun σ H Q ⟨ω, sl, c, sr, rel, p⟩ => by
    refine ⟨ω, sl, c, sr, rel, ?_⟩
    dsimp only at p
    cases v1 : evA call es sl c with
    | stuck => rw [v1] at p; exact p.elim
    | exc _ _ => rw [v1] at p; exact p
    | ok ds c1 =>
      rw [v1] at p
      simp only [bnd_ok] at p
      intro ω1 vs H1 l1 rel1 rs1
      refine ⟨ω1, sl, c1, sr.mono l1.toLo, rel1, ?_⟩
      cases v2 : evA call kes sl c1 with
      | stuck => rw [v2] at p; exact p.elim
      | exc _ _ => rw [v2] at p; exact Post.le p l1
      | ok zs c2 =>
        rw [v2] at p
        simp only [bnd_ok] at p
        intro ω2 us H2 l2 rel2 rs2
        unfold callK at p
        cases v3 : arrD Cst.d (ds ++ zs) src with
        | none => rw [v3] at p; exact p.elim
        | some as =>
          rw [v3] at p
          obtain ⟨ys, e4, r4⟩ := arr_rs (Rs.append (rs1.mono l2.toLo) rs2) v3
          refine ⟨ys, by rw [← rs1.length]; exact chkA_len h4 v1, by rw [← rs2.length]; exact chkK_len h5 v2, e4, ?_, ω2, c2, as, rel2, r4, ?_⟩
          · rw [arr_len e4, q4.len]
          · have p : Post X.K X.mg (R X.K X.mg) ω2 W σ (call f as c2) Q := post_ret rel2 (Post.le p (l1.trans l2))
            cases v4 : call f as c2 with
            | stuck => rw [v4] at p; exact p.elim
            | exc _ _ => rw [v4] at p; exact p
            | ok _ _ => rw [v4] at p; exact p
  cases xs with
  | cons e es' => exact (pe_callG q3 (E.room.mono (Nat.le_succ _)) hg q1 q2 q4 E.takes ha hk hns hkw e1).weak fin
  | nil =>
    refine (pe_callG0 q3 (E.room.mono (Nat.le_succ _)) hg q1 q2 q4 E.takes hk hkw e1).weak fun σ H Q hh => ?_
    have hh := fin σ H Q hh
    obtain ⟨ω, sl, c, sr, rel, p⟩ := hh
    have hz : evA call es sl c = .ok [] c := by
      cases es with
      | nil => rw [evA]
      | cons _ _ => cases h4
    rw [hz] at p
    exact p.ok_of rel .nil
abbrev liftO (K : PySem.W.Frag) (mg : Str → Option Value) (W : WX) (f : Sl → Ct → Res (Option Int)) : TO := lift K mg (fun _ a o => a = o) W f
theorem snd_slc {ea : Expr} {lo hi : Option Expr} {p2 : Pos} {fa : Sl → Ct → Res D} {fl fh : Sl → Ct → Res (Option Int)} (ha : PE X ea (liftE X.K X.mg W fa)) (hl : PO X lo (liftO X.K X.mg W fl)) (hh : PO X hi (liftO X.K X.mg W fh)) :
    PE X (.Subscript ea (.Slice lo hi none p2) pos) (liftE X.K X.mg W fun sl c => bnd (fa sl c) fun x c => bnd (fl sl c) fun l c => bnd (fh sl c) fun h c => slcD x l h c) :=
  (pe_slice sl_D ha hl hh).weak fun σ H Q ⟨ω, sl, c, sr, rel, p⟩ => (post_bind sr rel p).mono fun x H1 ⟨ω1, c1, dx, l1, sr1, rel1, rx, p1⟩ =>
    (post_bind (ρ := fun _ a o => a = o) sr1 rel1 p1).mono fun lo H2 ⟨ω2, c2, dl, l2, sr2, rel2, rl, p2⟩ => (post_bind (ρ := fun _ a o => a = o) sr2 rel2 p2).mono fun hi H3 ⟨ω3, c3, dh, l3, sr3, rel3, rh, p3⟩ => by
      subst rl rh
      exact ⟨ω3, dx, c3, W, σ, rel3, rx.mono (l2.toLo.trans l3.toLo), p3⟩
theorem po_lift {e : Expr} {fa : Sl → Ct → Res D} (ha : PE X e (liftE X.K X.mg W fa)) : PO X (some e) (liftO X.K X.mg W fun sl c => bnd (fa sl c) intO) :=
  ⟨fun pins s σ H Q I ⟨ω, sl, c, sr, rel, p⟩ => (po_some ha).run pins s σ H Q I ((post_bind sr rel p).mono fun x H1 ⟨ω1, c1, dx, l1, sr1, rel1, rx, p1⟩ => by
    unfold intO at p1
    split at p1
    · cases rx; exact ⟨_, rfl, p1.ok_of rel1 rfl⟩
    · exact p1.elim)⟩
theorem po_hole : PO X none (liftO X.K X.mg W fun _ c => .ok none c) := ⟨fun pins s σ H Q I ⟨ω, sl, c, sr, rel, p⟩ => po_none.run pins s σ H Q I (p.ok_of rel rfl)⟩

end
end Hv

set_option Elab.async false
set_option linter.all false
set_option maxRecDepth 100000
set_option maxHeartbeats 4000000
/-! HvG2: attributes, own methods, instances, methods of lists, displays of dicts: soundness. -/
namespace Hv
open PySem PySem.Spec PyProof.Rows L2
section
variable {K : PySem.W.Frag} {mg : Str → Option Value} {ω : Wd} {c : Ct} {H : Hp}
theorem ins_of {d : D} {x : V} {C : Str} {fs : List (Str × D)} (rel : Rel K mg ω c H) (r : R K mg ω d x) (e : insD d c = some (C, fs)) : ∃ a cc dx gs, x = .ref a ∧ H a = some (.ins cc dx gs) ∧ mg C = some (.ref cc) ∧ Rf K mg ω fs gs := by
  unfold insD at e
  split at e
  · cases e
    cases r with
    | ins hc h r => exact ⟨_, _, _, _, rfl, rel.ext _ _ h, hc, r⟩
  · split at e
    · rename_i n C' fs' hc
      cases e
      cases r with
      | ref h =>
        obtain ⟨k1, k2⟩ := rel.live _ _ _ h hc (by intro z; cases z)
        unfold COk at k2
        split at k2
        · rename_i z; cases z
        · rename_i z _; cases z
        · rename_i C2 fs2 cc dx gs z1 z2
          cases z1
          exact ⟨_, _, _, _, rfl, z2, k2.1, k2.2⟩
        · rename_i z _; cases z
        · rename_i z _; cases z
        · exact k2.elim
    · cases e
  · cases e
theorem rf_get {f : Str} : ∀ {fs : List (Str × D)} {gs : List (Str × V)} {d : D}, Rf K mg ω fs gs → fs.lookup f = some d → ∃ v, gs.lookup f = some v ∧ R K mg ω d v
  | _, _, d, .nil, e => by cases e
  | _, _, d, .cons (f := g) (d := d0) (v := v0) h t, e => by
    rw [List.lookup_cons] at e ⊢
    cases hb : f == g with
    | true => rw [hb] at e; cases e; exact ⟨v0, rfl, h⟩
    | false => rw [hb] at e; exact rf_get t e
theorem rf_none {f : Str} : ∀ {fs : List (Str × D)} {gs : List (Str × V)}, Rf K mg ω fs gs → fs.lookup f = none → gs.lookup f = none
  | _, _, .nil, e => rfl
  | _, _, .cons (f := g) h t, e => by
    rw [List.lookup_cons] at e ⊢
    cases hb : f == g with
    | true => rw [hb] at e; cases e
    | false => rw [hb] at e; exact rf_none t e
end
section
variable {G : GE} {call : CallF} {k : Nat} {X : Cx} {Γ : SE} {W : WX} {pos : Pos}
theorem EOk.hu (E : EOk G call k X Γ W) : X.A.units + 65 < cLine := by have := E.room.un; omega
theorem snd_con {q : Cst} {x : Str} (E : EOk G call k X Γ W) (h : (x, q) ∈ G.consts) (h1 : kindB Γ.sc x .globalImplicit = true) (h2 : okName x = true) : PE X (.Name x pos) (liftE X.K X.mg W fun _ c => .ok q.d c) := by
  obtain ⟨u, hu, r⟩ := E.g.con x q h
  obtain ⟨e1, _, _⟩ := okName_d h2
  have hg : Gl X x := by
    show X.env.scope.names.lookup x = _
    rw [E.sc]
    exact kindB_iff.mp h1
  exact (pe_glob hg hu r e1).weak fun σ H Q ⟨ω, sl, c, sr, rel, p⟩ => p.ok_of rel q.r
theorem snd_fld (E : EOk G call k X Γ W) {C f : Str} {x : Expr} {fa : Sl → Ct → Res D} (hb : baseB x = true) (hm : (C, f) ∈ G.flds) (ha : PE X x (liftE X.K X.mg W fa)) : PE X (.Attribute x f pos) (liftE X.K X.mg W fun sl c => bnd (fa sl c) (fldD C f)) := by
  obtain ⟨cc, h1, h2, h3⟩ := E.g.fld C f hm
  refine (pe_fld ha (base_ok hb)).weak fun σ H Q ⟨ω, sl, c, sr, rel, p⟩ => (post_bind sr rel p).mono fun v H1 ⟨ω1, c1, dx, l1, sr1, rel1, rx, p1⟩ => ?_
  unfold fldD at p1
  split at p1
  · rename_i C' fs hi
    split at p1
    · rename_i hC
      subst hC
      cases hl : fs.lookup f with
      | none => rw [hl] at p1; exact p1.elim
      | some d =>
        rw [hl] at p1
        obtain ⟨a, cc', dd, gs, rfl, ha, hcc, hf⟩ := ins_of rel1 rx hi
        rw [h1] at hcc
        cases hcc
        obtain ⟨u, hu, ru⟩ := rf_get hf hl
        exact ⟨a, cc, dd, gs, u, rfl, ha, h2, h3, hu, p1.ok_of rel1 ru⟩
    · exact p1.elim
  · exact p1.elim
theorem evA_nil {es : IEs} (h : chkA G Γ es [] = true) (sl : Sl) (c : Ct) : evA call es sl c = .ok [] c := by
  cases es with
  | nil => rw [evA]
  | cons _ _ => cases h
theorem snd_mth (E : EOk G call k X Γ W) {fz : Bool} {C m : Str} {f : Nat} {ks : List Str} {src : List Src} {x : Expr} {apos : Pos} {xs : List Expr} {kws : List Keyword} {es kes : IEs} {fa : Sl → Ct → Res D} (hb : baseB x = true) (hl : lineB apos pos (xs.length + kws.length) = true) (hm : (C, m, f, xs.length + 1, ks, src) ∈ G.meths)
    (h4 : chkA G Γ es xs = true) (h5 : chkK G Γ kes ks kws = true) (hx : PE X x (liftE X.K X.mg W fa)) (ha : PA X xs (liftA X.K X.mg W (evA call es))) (hk : PK X kws (liftA X.K X.mg W (evA call kes))) :
    PE X (.Call (.Attribute x m apos) xs kws pos) (liftE X.K X.mg W fun sl c => bnd (fa sl c) fun x c => okInsD C m x c (bnd (evA call es sl c) fun ds c => bnd (evA call kes sl c) fun zs c => mthK fz call f src x ds zs c)) := by
  obtain ⟨cc, a, fd, ps, q0, q1, q2, q3, q4⟩ := E.g.mth _ _ _ _ _ _ hm
  refine (pe_methG q3 (E.room.mono (Nat.le_succ _)) hx q1 q2 q4 E.takes ha hk (chkA_all h4) (kw_all h5) (fun z σ H Q ⟨ω, sl, c, sr, rel, p⟩ => ?_) hb hl).weak fun σ H Q ⟨ω, sl, c, sr, rel, p⟩ => (post_bind sr rel p).mono fun v H1 ⟨ω1, c1, dx, l1, sr1, rel1, rx, p1⟩ => ?_
  · subst z
    rw [evA_nil h4] at p
    exact p.ok_of rel .nil
  · unfold okInsD at p1
    split at p1
    · rename_i C' fs hi
      split at p1
      · rename_i hC
        obtain ⟨rfl, hno⟩ := hC
        obtain ⟨b, cc', dd, gs, rfl, hH, hcc, hf⟩ := ins_of rel1 rx hi
        rw [q0] at hcc
        cases hcc
        refine ⟨b, dd, gs, rfl, hH, rf_none hf hno, ω1, sl, c1, sr1, rel1, ?_⟩
        cases v1 : evA call es sl c1 with
        | stuck => rw [v1] at p1; exact p1.elim
        | exc _ _ => rw [v1] at p1; exact p1
        | ok ds c2 =>
          rw [v1] at p1
          simp only [bnd_ok] at p1
          intro ω2 vs H2 l2 rel2 rs2
          refine ⟨ω2, sl, c2, sr1.mono l2.toLo, rel2, ?_⟩
          cases v2 : evA call kes sl c2 with
          | stuck => rw [v2] at p1; exact p1.elim
          | exc _ _ => rw [v2] at p1; exact Post.le p1 l2
          | ok zs c3 =>
            rw [v2] at p1
            simp only [bnd_ok] at p1
            intro ω3 us H3 l3 rel3 rs3
            unfold mthK at p1
            cases v3 : arrD Cst.d (dx :: (ds ++ zs)) src with
            | none => rw [v3] at p1; exact p1.elim
            | some as =>
              rw [v3] at p1
              obtain ⟨ys, e4, r4⟩ := arr_rs (Rs.cons (rx.mono (l2.toLo.trans l3.toLo)) (Rs.append (rs2.mono l3.toLo) rs3)) v3
              refine ⟨ys, by rw [← rs2.length, chkA_len h4 v1], by rw [← rs3.length]; exact chkK_len h5 v2, e4, ?_, ω3, c3, as, rel3, r4, ?_⟩
              · rw [arr_len e4, q4.len]
              · have p : Post X.K X.mg (R X.K X.mg) ω3 W σ (call f as c3) Q := post_ret rel3 (Post.le p1 (l2.trans l3))
                cases v4 : call f as c3 with
                | stuck => rw [v4] at p; exact p.elim
                | exc _ _ => rw [v4] at p; exact p
                | ok _ _ => rw [v4] at p; exact p
      · exact p1.elim
    · exact p1.elim
theorem snd_mk (E : EOk G call k X Γ W) {fz : Bool} {C x : Str} {f : Nat} {ks : List Str} {src : List Src} {p0 : Pos} {xs : List Expr} {kws : List Keyword} {es kes : IEs} (h0 : x = C) (h1 : kindB Γ.sc x .globalImplicit = true) (h2 : okName x = true) (hm : (C, f, xs.length + 1, ks, src) ∈ G.mks)
    (h4 : chkA G Γ es xs = true) (h5 : chkK G Γ kes ks kws = true) (ha : PA X xs (liftA X.K X.mg W (evA call es))) (hk : PK X kws (liftA X.K X.mg W (evA call kes))) :
    PE X (.Call (.Name x p0) xs kws pos) (liftE X.K X.mg W fun sl c => bnd (evA call es sl c) fun ds c => bnd (evA call kes sl c) fun zs c => mkK fz call C f src ds zs c) := by
  subst h0
  obtain ⟨cc, a, fd, ps, q0, q1, q3, q4⟩ := E.g.mks _ _ _ _ _ hm
  obtain ⟨e1, _, _⟩ := okName_d h2
  have hg : Gl X x := by
    show X.env.scope.names.lookup x = _
    rw [E.sc]
    exact kindB_iff.mp h1
  refine (pe_makeG q1 q3 E.room hg q0 q4 E.takes ha hk (chkA_all h4) (kw_all h5) (fun z σ H Q ⟨ω, sl, c, sr, rel, p⟩ => ?_) e1).weak fun σ H Q ⟨ω, sl, c, sr, rel, p⟩ => ?_
  · subst z
    rw [evA_nil h4] at p
    exact p.ok_of rel .nil
  · refine ⟨ω, sl, c, sr, rel, ?_⟩
    dsimp only at p
    cases v1 : evA call es sl c with
    | stuck => rw [v1] at p; exact p.elim
    | exc _ _ => rw [v1] at p; exact p
    | ok ds c1 =>
      rw [v1] at p
      simp only [bnd_ok] at p
      intro ω1 vs H1 l1 rel1 rs1
      refine ⟨ω1, sl, c1, sr.mono l1.toLo, rel1, ?_⟩
      cases v2 : evA call kes sl c1 with
      | stuck => rw [v2] at p; exact p.elim
      | exc _ _ => rw [v2] at p; exact Post.le p l1
      | ok zs c2 =>
        rw [v2] at p
        simp only [bnd_ok] at p
        intro ω2 us H2 l2 rel2 rs2
        refine ⟨by rw [← rs1.length, chkA_len h4 v1], by rw [← rs2.length]; exact chkK_len h5 v2, fun z dz hz hdz hne => ?_⟩
        unfold mkK at p
        cases v3 : arrD Cst.d (.ref c2.length :: (ds ++ zs)) src with
        | none => rw [v3] at p; exact p.elim
        | some as =>
          rw [v3] at p
          have p : Post X.K X.mg (R X.K X.mg) ω2 W σ _ Q := Post.gc rel2 (Post.le p (l1.trans l2))
          obtain ⟨l3, rel3⟩ := rel2.frozen hdz (.own z)
          have hz' : upd H2 dz (.own z) z = none := by rw [upd_ne (Ne.symm hne)]; exact hz
          obtain ⟨l4, hmz, rel4⟩ := rel3.cell hz' (o := .ins cc dz []) (u := .ins x []) ⟨q0, .nil⟩
          have l34 := l3.trans l4
          obtain ⟨ys, e4, r4⟩ := arr_rs (Rs.cons (R.ref hmz) (Rs.append ((rs1.mono l2.toLo).mono l34.toLo) (rs2.mono l34.toLo))) v3
          refine ⟨ys, e4, ?_, _, _, as, rel4, r4, ?_⟩
          · rw [arr_len e4, q4.len]
          · cases v4 : call f as (c2 ++ [.ins x []]) with
            | stuck => rw [v4] at p; exact p.elim
            | exc _ _ => rw [v4] at p; exact fun ω' H' cls dd l rel' rx => p ω' H' cls dd (l34.trans l) rel' rx
            | ok v c3 =>
              rw [v4] at p
              simp only [bnd_ok] at p
              intro ω5 b H5 l5 rel5 r5
              cases v with
              | non =>
                cases r5
                exact ⟨rfl, post_fz p ω5 (.ref z) H5 (l34.trans l5) rel5 (.ref (l5.m _ _ hmz))⟩
              | _ => exact p.elim
/-! ### methods of lists -/
theorem few_ok {xs : List Expr} {apos : Pos} (hns : xs.all notStarB = true) (hl : lineB apos pos xs.length = true) {env : Env} :
    ((backTo pos (starEach xs env)).all (fun x => !x.1) && (backToKw pos (keywordEach [] env)).all (fun x => x.1.isSome) && decide (xs.length + ([] : List Keyword).length + (if ([] : List Keyword).isEmpty then 0 else 1) < 30)) = true := by
  unfold lineB at hl
  rw [Bool.and_eq_true, decide_eq_true_eq] at hl
  rw [form_ns hns]
  show (true && true && decide (xs.length + 0 + 0 < 30)) = true
  simp only [Bool.and_self, Bool.true_and, decide_eq_true_eq]
  omega
theorem pe_bmD (E : EOk G call k X Γ W) {m : Mth} {o : Expr} {apos : Pos} {xs : List Expr} {fa : Sl → Ct → Res D} {t : TA} (hb : baseB o = true) (hl : lineB apos pos xs.length = true) (hns : xs.all notStarB = true) (ho : PE X o (liftE X.K X.mg W fa)) (ha : PA X xs t) (hz : xs = [] → ∀ σ H Q, t σ H Q → Q [] H) :
    PE X (.Call (.Attribute o (mthNm m) apos) xs [] pos) (tBM X.K "list" (fun x xs H Q => ∃ ω dx ds c W σ, Rel X.K X.mg ω c H ∧ R X.K X.mg ω dx x ∧ Rs X.K X.mg ω ds xs ∧ Post X.K X.mg (R X.K X.mg) ω W σ (mthD m dx ds c) Q) (liftE X.K X.mg W fa) t) := by
  have hline : (apos.endLine == pos.line) = true := by
    unfold lineB at hl
    rw [Bool.and_eq_true] at hl
    exact hl.1
  have go : ∀ {name : Str} {id : String}, mthNm m = name → mthId m = id → Slot "list" name id → typeOf (.builtin id) = pure (.type "method_descriptor") → PE X (.Call (.Attribute o (mthNm m) apos) xs [] pos) (tBM X.K "list" (fun x xs H Q => ∃ ω dx ds c W σ, Rel X.K X.mg ω c H ∧ R X.K X.mg ω dx x ∧ Rs X.K X.mg ω ds xs ∧ Post X.K X.mg (R X.K X.mg) ω W σ (mthD m dx ds c) Q) (liftE X.K X.mg W fa) t) := by
    intro name id e1 e2 slot hty
    have hm := mth_ok (X := X) E.hu m
    rw [e2] at hm
    rw [e1]
    cases xs with
    | nil => exact PE.weak (pe_bm0 PySem.F.plainAttrs_list slot hty hm ho (base_ok hb) hline) fun σ H Q h => lift.mono h fun v H' q => ⟨q.1, hz rfl _ _ _ q.2⟩
    | cons e es =>
      have hns' := hns
      rw [List.all_cons, Bool.and_eq_true] at hns'
      exact pe_bm PySem.F.plainAttrs_list slot hty hm ho ha (base_ok hb) (few_ok hns hl) hline (star_ns hns'.1 _ _) (back_ns hns'.2)
  cases m with
  | append => exact go rfl rfl PySem.F.slot_list_append PySem.F.type_list_append
  | extend => exact go rfl rfl PySem.F.slot_list_extend PySem.F.type_list_extend
  | insert => exact go rfl rfl PySem.F.slot_list_insert PySem.F.type_list_insert
  | clear => exact go rfl rfl PySem.F.slot_list_clear PySem.F.type_list_clear
  | reverse => exact go rfl rfl PySem.F.slot_list_reverse PySem.F.type_list_reverse
  | index => exact go rfl rfl PySem.F.slot_list_index PySem.F.type_list_index
  | count => exact go rfl rfl PySem.F.slot_list_count PySem.F.type_list_count
theorem snd_bm (E : EOk G call k X Γ W) {m : Mth} {o : Expr} {apos : Pos} {xs : List Expr} {es : IEs} {fa : Sl → Ct → Res D} (hb : baseB o = true) (hl : lineB apos pos xs.length = true) (h4 : chkA G Γ es xs = true) (ho : PE X o (liftE X.K X.mg W fa)) (ha : PA X xs (liftA X.K X.mg W (evA call es))) :
    PE X (.Call (.Attribute o (mthNm m) apos) xs [] pos) (liftE X.K X.mg W fun sl c => bnd (fa sl c) fun x c => okLstD x c (bnd (evA call es sl c) fun ds c => mthD m x ds c)) := by
  refine (pe_bmD E hb hl (chkA_all h4) ho ha fun z σ H Q ⟨ω, sl, c, sr, rel, p⟩ => ?_).weak fun σ H Q ⟨ω, sl, c, sr, rel, p⟩ => (post_bind sr rel p).mono fun v H1 ⟨ω1, c1, dx, l1, sr1, rel1, rx, p1⟩ => ?_
  · subst z
    rw [evA_nil h4] at p
    exact p.ok_of rel .nil
  · unfold okLstD at p1
    split at p1
    · rename_i hs
      cases hx : lstD dx c1 with
      | none => rw [hx] at hs; cases hs
      | some ys =>
        obtain ⟨a, vs, rfl, rs, hH⟩ := lst_of rel1 rx hx
        refine ⟨.inl ⟨rfl, vs, .inl (.inl hH)⟩, (post_bind sr1 rel1 p1).mono fun us H2 ⟨ω2, c2, ds, l2, sr2, rel2, rs2, p2⟩ => ⟨ω2, dx, ds, c2, W, σ, rel2, rx.mono l2.toLo, rs2, p2⟩⟩
    · exact p1.elim
/-! ### list(range(..)) -/
theorem rs_rng {K : PySem.W.Frag} {mg : Str → Option Value} {ω : Wd} (a b : Int) : Rs K mg ω (rngD a (b - a).toNat) (rgV a b) := by
  unfold rngD rgV
  generalize (b - a).toNat = n
  have : ∀ l : List Nat, Rs K mg ω (l.map fun (i : Nat) => D.int (a + (i : Int))) (l.map fun i => V.int (a + (i : Nat))) := fun l => by
    induction l with
    | nil => exact .nil
    | cons i l ih => exact .cons (.int _) ih
  exact this _
theorem snd_lrng1 (E : EOk G call k X Γ W) {mu : Bool} {x y : Str} {z : Expr} {p0 p1 p2 : Pos} {fa : Sl → Ct → Res D} (h0 : x = "list") (h1 : y = "range") (h2 : kindB Γ.sc x .globalImplicit = true) (h3 : kindB Γ.sc y .globalImplicit = true) (hn : notStarB z = true) (ha : PE X z (liftE X.K X.mg W fa)) :
    PE X (.Call (.Name x p0) [.Call (.Name y p1) [z] [] p2] [] pos) (liftE X.K X.mg W fun sl c => bnd (fa sl c) fun x c => lrngK mu [x] c) := by
  subst h0 h1
  have hg : ∀ {q : Str}, kindB Γ.sc q .globalImplicit = true → Gl X q := fun {q} h => by
    show X.env.scope.names.lookup q = _
    rw [E.sc]
    exact kindB_iff.mp h
  refine (pe_listRg E.calm (hg h2) (E.g.blt .list) (prg_1 (hg h3) E.g.rng ha (star_ns hn _ _)) rfl).weak fun σ H Q ⟨ω, sl, c, sr, rel, p⟩ => (post_bind sr rel p).mono fun v H1 ⟨ω1, c1, dx, l1, sr1, rel1, rx, p1⟩ => ?_
  cases dx with
  | int j =>
    cases rx
    dsimp only [lrngK] at p1
    by_cases hs : j ≤ 10000 ∧ -10000 ≤ j
    · rw [if_pos hs] at p1
      refine ⟨j, rfl, ⟨by omega, by omega, by omega, by omega, by omega⟩, new_l rel1 ?_ p1⟩
      have := rs_rng (K := X.K) (mg := X.mg) (ω := ω1) 0 j
      rw [Int.sub_zero] at this
      exact this
    · rw [if_neg hs] at p1; exact p1.elim
  | _ => exact p1.elim
theorem snd_lrng2 (E : EOk G call k X Γ W) {mu : Bool} {x y : Str} {z u : Expr} {p0 p1 p2 : Pos} {fa fb : Sl → Ct → Res D} (h0 : x = "list") (h1 : y = "range") (h2 : kindB Γ.sc x .globalImplicit = true) (h3 : kindB Γ.sc y .globalImplicit = true) (hn : notStarB z = true) (hn' : notStarB u = true) (ha : PE X z (liftE X.K X.mg W fa)) (hb : PE X u (liftE X.K X.mg W fb)) :
    PE X (.Call (.Name x p0) [.Call (.Name y p1) [z, u] [] p2] [] pos) (liftE X.K X.mg W fun sl c => bnd (fa sl c) fun x c => bnd (fb sl c) fun y c => lrngK mu [x, y] c) := by
  subst h0 h1
  have hg : ∀ {q : Str}, kindB Γ.sc q .globalImplicit = true → Gl X q := fun {q} h => by
    show X.env.scope.names.lookup q = _
    rw [E.sc]
    exact kindB_iff.mp h
  refine (pe_listRg E.calm (hg h2) (E.g.blt .list) (prg_2 (hg h3) E.g.rng ha hb (star_ns hn _ _) (star_ns hn' _ _) (by rw [star_ns hn']; rfl)) rfl).weak fun σ H Q ⟨ω, sl, c, sr, rel, p⟩ => (post_bind sr rel p).mono fun v H1 ⟨ω1, c1, dx, l1, sr1, rel1, rx, p1⟩ => (post_bind sr1 rel1 p1).mono fun v2 H2 ⟨ω2, c2, dy, l2, sr2, rel2, ry, p2⟩ => ?_
  cases dx with
  | int i =>
    cases dy with
    | int j =>
      cases rx
      cases ry
      dsimp only [lrngK] at p2
      by_cases hs : j ≤ 10000 ∧ -10000 ≤ j ∧ -10000 ≤ i ∧ i ≤ 10000
      · rw [if_pos hs] at p2
        exact ⟨i, j, rfl, rfl, ⟨by omega, by omega, by omega, by omega, by omega⟩, new_l rel2 (rs_rng i j) p2⟩
      · rw [if_neg hs] at p2; exact p2.elim
    | _ => exact p2.elim
  | _ => exact p2.elim
/-! ### displays of dicts -/
def trsOf (K : PySem.W.Frag) (mg : Str → Option Value) (W : WX) (call : CallF) : List Str → IEs → List (TE × TE)
  | q :: ks, .cons e es => (tC (.str q), liftE K mg W (evM call false e)) :: trsOf K mg W call ks es
  | _, _ => []
theorem kx_len : ∀ {ks : List Str} {kx : List (Option Expr)}, chkKx ks kx = true → ks.length = kx.length ∧ kx.all (·.isSome) = true
  | [], [], _ => ⟨rfl, rfl⟩
  | [], _ :: _, h => by cases h
  | q :: ks, [], h => by cases h
  | q :: ks, none :: xs, h => by cases h
  | q :: ks, some e :: xs, h => by
    cases e with
    | Constant v _ _ =>
      cases v with
      | str s =>
        simp only [chkKx, Bool.and_eq_true] at h
        obtain ⟨h1, h2⟩ := kx_len h.2
        exact ⟨by simp [h1], by simp [h2]⟩
      | _ => cases h
    | _ => cases h
inductive PDs (X : Cx) (W : WX) (call : CallF) : IEs → List Expr → Prop
  | nil : PDs X W call .nil []
  | cons {e : IE} {es : IEs} {x : Expr} {xs : List Expr} (h : PE X x (liftE X.K X.mg W (evM call false e))) (t : PDs X W call es xs) : PDs X W call (.cons e es) (x :: xs)
theorem pps_D {ks : List Str} : ∀ {kx : List (Option Expr)} {es : IEs} {vx : List Expr}, chkKx ks kx = true → PDs X W call es vx → kx.length = vx.length → PPs X pos kx vx (trsOf X.K X.mg W call ks es) := by
  induction ks with
  | nil =>
    intro kx es vx h1 h2 h3
    cases kx with
    | cons _ _ => cases h1
    | nil =>
      cases vx with
      | cons _ _ => cases h3
      | nil => cases es <;> exact pps_nil
  | cons q ks ih =>
    intro kx es vx h1 h2 h3
    cases kx with
    | nil => cases h1
    | cons o xs =>
      cases o with
      | none => cases h1
      | some e =>
        cases e with
        | Constant v _ _ =>
          cases v with
          | str s =>
            simp only [chkKx, Bool.and_eq_true, decide_eq_true_eq] at h1
            obtain ⟨rfl, h1⟩ := h1
            cases vx with
            | nil => cases h3
            | cons x vx =>
              cases h2 with
              | cons h t => exact pps_cons pe_str h (ih h1 t (by simpa using h3))
          | _ => cases h1
        | _ => cases h1
def lenIEs : IEs → Nat
  | .nil => 0
  | .cons _ es => lenIEs es + 1
theorem chkA_lenI : ∀ {es : IEs} {xs : List Expr}, chkA G Γ es xs = true → lenIEs es = xs.length
  | .nil, [], _ => rfl
  | .nil, _ :: _, h => by cases h
  | .cons _ _, [], h => by cases h
  | .cons e es, x :: xs, h => by
    simp only [chkA, Bool.and_eq_true] at h
    show lenIEs es + 1 = xs.length + 1
    rw [chkA_lenI h.2]
/-- the values of a display, one after another -/
theorem pairs_D {K : PySem.W.Frag} {mg : Str → Option Value} {σ : L2.St} : ∀ {ks : List Str} {es : IEs} {ω : Wd} {sl : Sl} {c : Ct} {H : Hp} {Q : List (V × V) → Hp → Prop}, SR K mg ω sl σ → Rel K mg ω c H → ks.length = lenIEs es →
    Post K mg (fun ω ds ps => ∃ vs, Rs K mg ω ds vs ∧ ps = (ks.map V.str).zip vs ∧ vs.length = ks.length) ω W σ (evA call es sl c) Q → tPairs (trsOf K mg W call ks es) σ H Q
  | [], .nil, ω, sl, c, H, Q, sr, rel, hl, p => by
    rw [evA] at p
    exact p ω [] H .rfl rel ⟨[], .nil, rfl, rfl⟩
  | [], .cons e es, ω, sl, c, H, Q, sr, rel, hl, p => by cases hl
  | q :: ks, .nil, ω, sl, c, H, Q, sr, rel, hl, p => by cases hl
  | q :: ks, .cons e es, ω, sl, c, H, Q, sr, rel, hl, p => by
    rw [evA] at p
    refine ⟨ω, sl, c, sr, rel, ?_⟩
    cases v1 : evM call false e sl c with
    | stuck => rw [v1] at p; exact p.elim
    | exc _ _ => rw [v1] at p; exact p
    | ok d c1 =>
      rw [v1] at p
      simp only [bnd_ok] at p
      intro ω1 v H1 l1 rel1 r1
      refine pairs_D (ks := ks) (es := es) (sr.mono l1.toLo) rel1 (by simpa [lenIEs] using hl) ?_
      cases v2 : evA call es sl c1 with
      | stuck => rw [v2] at p; exact p.elim
      | exc _ _ => rw [v2] at p; exact Post.le p l1
      | ok ds c2 =>
        rw [v2] at p
        rintro ω2 ps H2 l2 rel2 ⟨vs, r2, rfl, hvl⟩
        exact p ω2 _ H2 (l1.trans l2) rel2 ⟨v :: vs, .cons (r1.mono l2.toLo) r2, rfl, by simp [hvl]⟩
theorem putK_new {kvs : List (Key × V)} {k : Key} {v : V} (h : ∀ p ∈ kvs, p.1 ≠ k) : putK kvs k v = kvs ++ [(k, v)] := by
  unfold putK
  rw [if_neg]
  simp only [List.any_eq_true, decide_eq_true_eq]
  rintro ⟨p, hp, e⟩
  exact h p hp e
theorem merge_new : ∀ {more kvs : List (Key × V)}, (more.map (·.1)).Nodup → (∀ p ∈ kvs, ∀ q ∈ more, p.1 ≠ q.1) → mergeK kvs more = kvs ++ more
  | [], kvs, _, _ => by simp [mergeK]
  | q :: more, kvs, hn, hd => by
    rw [List.map_cons, List.nodup_cons] at hn
    show mergeK (putK kvs q.1 q.2) more = _
    rw [putK_new fun p hp => hd p hp q List.mem_cons_self]
    rw [merge_new hn.2]
    · simp
    · intro p hp r hr
      rcases List.mem_append.mp hp with hp | hp
      · exact hd p hp r (List.mem_cons_of_mem _ hr)
      · rw [List.mem_singleton.mp hp]
        intro z
        exact hn.1 (by rw [show q.1 = r.1 from z]; exact List.mem_map_of_mem hr)
theorem rk_zip {K : PySem.W.Frag} {mg : Str → Option Value} {ω : Wd} : ∀ {ks : List Str} {ds : List D} {vs : List V}, Rs K mg ω ds vs → ks.length = ds.length → Rk K mg ω ((ks.map D.str).zip ds) ((ks.map (Sum.inr : Str → Key)).zip vs)
  | [], [], _, .nil, _ => .nil
  | [], _ :: _, _, _, h => by cases h
  | _ :: _, [], _, _, h => by cases h
  | q :: ks, d :: ds, _, .cons r t, h => Rk.cons (k := (Sum.inr q : Key)) r (rk_zip t (by simpa using h))
theorem zip_kV : ∀ (ks : List Str) (vs : List V), ((ks.map V.str).zip vs) = ((ks.map (Sum.inr : Str → Key)).zip vs).map (fun kv => (kV kv.1, kv.2))
  | [], _ => rfl
  | _ :: _, [] => rfl
  | q :: ks, v :: vs => congrArg ((V.str q, v) :: ·) (zip_kV ks vs)
theorem snd_dsp (E : EOk G call k X Γ W) {ks : List Str} {es : IEs} {kx : List (Option Expr)} {vx : List Expr} (h0 : kx.isEmpty = false) (h1 : kx.length ≤ 15) (h2 : kx.length = vx.length) (h3 : chkKx ks kx = true) (h4 : chkA G Γ es vx = true) (hE : PDs X W call es vx) :
    PE X (.Dict kx vx pos) (liftE X.K X.mg W fun sl c => bnd (evA call es sl c) (dspK ks)) := by
  obtain ⟨k1, k2⟩ := kx_len h3
  refine (pe_disp (pps_D (ks := ks) h3 hE h2) k2 h2 (fun z => by rw [z] at h0; cases h0) h1).weak fun σ H Q ⟨ω, sl, c, sr, rel, p⟩ => ?_
  intro a ha
  obtain ⟨la, ra⟩ := rel.aside ha (.dK [])
  have hrx : ∀ q u, (q, u) ∈ ω.x → q ≠ a := fun q u hq => ne_of_none (rel.xs q u hq).1 ha
  refine pairs_D (K := X.K) (mg := X.mg) (ks := ks) (es := es) (sr.mono la) ra (by rw [k1, h2, chkA_lenI h4]) ?_
  dsimp only at p
  cases v1 : evA call es sl c with
  | stuck => rw [v1] at p; exact p.elim
  | exc x c1 =>
    rw [v1] at p
    intro ω1 H1 cls dd l1 rel1 rx
    have x1 : ω1.x = (a, .dK []) :: ω.x := l1.x
    obtain ⟨l2, rel2⟩ := rel1.asideF x1 hrx
    obtain ⟨aa, d, gs, z1, z2, z3, z4, z5⟩ := rx
    exact p _ H1 cls dd ⟨⟨(la.trans (l1.toLo.trans l2)).f, (la.trans (l1.toLo.trans l2)).m⟩, rfl⟩ rel2 ⟨aa, d, gs, z1, z2, z3, l2.f _ _ z4, z5.mono l2⟩
  | ok ds c1 =>
    rw [v1] at p
    have p : Post X.K X.mg (R X.K X.mg) ω W σ (dspK ks ds c1) Q := p
    rintro ω1 ps H1 l1 rel1 ⟨vs, rs, rfl, hvl⟩
    have x1 : ω1.x = (a, .dK []) :: ω.x := l1.x
    unfold dspK at p
    by_cases hd : ks.length = ds.length ∧ ks.length ≤ 15 ∧ ks.Nodup
    · rw [if_pos hd] at p
      have hH := (rel1.xs a (.dK []) (by rw [x1]; exact List.mem_cons_self)).1
      have hz := zip_kV ks vs
      have hn : (((ks.map (Sum.inr : Str → Key)).zip vs).map (·.1)).Nodup := by
        rw [List.map_fst_zip (by rw [List.length_map, hvl]; exact Nat.le_refl _)]
        exact List.Pairwise.map _ (fun a b hab z => hab (Sum.inr.inj z)) hd.2.2
      refine ⟨hH, (ks.map (Sum.inr : Str → Key)).zip vs, hz, by rw [List.length_zip, List.length_map]; omega, ?_⟩
      rw [merge_new hn (fun p hp => by cases hp), List.nil_append]
      obtain ⟨l2, rel2⟩ := rel1.asideSet x1 (o' := .dK ((ks.map (Sum.inr : Str → Key)).zip vs)) hrx
      obtain ⟨l3, rel3⟩ := rel2.asideF rfl hrx
      exact p _ (.ref a) _ ⟨⟨((la.trans l1.toLo).trans (l2.trans l3)).f, ((la.trans l1.toLo).trans (l2.trans l3)).m⟩, rfl⟩ rel3 (.dctK upd_same ((rk_zip rs hd.1).mono (l2.trans l3)))
    · rw [if_neg hd] at p; exact p.elim
/-! ### len of an own instance -/
theorem call_lenI (E : EOk G call k X Γ W) {C : Str} {f : Nat} (hm : (C, f) ∈ G.lens) : CallR X (.builtin "len") (fun xs H Q => ∃ x ω d c W σ, xs = [x] ∧ Rel X.K X.mg ω c H ∧ R X.K X.mg ω d x ∧ Post X.K X.mg (R X.K X.mg) ω W σ (len1K call C f d c) Q) := by
  obtain ⟨cc, a, fd, ps, q0, q1, q2, q3, q4⟩ := E.g.lens _ _ hm
  intro pins s σ H xs us Q I rv hx
  obtain ⟨x, ω, d, c, W', σ', e1, rel, r, p⟩ := hx
  subst e1
  unfold len1K at p
  split at p
  · rename_i C' fs hi
    split at p
    · rename_i hC
      subst hC
      obtain ⟨b, cc', dd, gs, rfl, hH, hcc, hf⟩ := ins_of rel r hi
      rw [q0] at hcc
      cases hcc
      cases rv with
      | cons ru rt =>
      cases rt
      cases ru
      obtain ⟨mA, J, _⟩ := ins_get I.hok hH
      obtain ⟨od, J, _⟩ := J.look
      obtain ⟨m, hF⟩ := I.fr
      have hroom : Room k X.A.in1 := E.room.in1
      refine PySem.W.len_K hF I.ok.mod.kin J q2.at_ q2.fn ?_
      cases v4 : call f [d] c with
      | stuck => rw [v4] at p; exact p.elim
      | exc _ _ => rw [v4] at p; exact p.elim
      | ok v c3 =>
        rw [v4] at p
        cases v with
        | int i =>
          simp only at p
          by_cases hz : 0 ≤ i ∧ i < 2 ^ 62
          · rw [if_pos hz] at p
            have e0 : Env0 X.prog X.w X.K X.mg X.base X.A.in1 X.stack s H := by
              have e := I.env0
              exact ⟨e.frames, e.mod, e.bs, e.bsz, e.funs, e.frf, e.hok, e.bare⟩
            obtain ⟨ys, hb, hs⟩ := q4.run s [.ref b] [] I.kIn rfl rfl
            have hy : ys = [.ref b] := by
              obtain ⟨z, t, rfl, h1, h2⟩ := hs
              cases h2
              cases h1
              rfl
            subst hy
            have hsp : spC X.K X.mg call f ps.length [.ref b] H (fun v H' => ∃ i : Int, v = .int i ∧ (0 ≤ i ∧ i < 2 ^ 62) ∧ Q (.int i) H') (fun _ _ _ => False) := by
              refine ⟨by rw [← q4.len]; rfl, ω, c, [d], rel, .cons r .nil, ?_⟩
              rw [v4]
              intro ω' u H' l rel' ru
              cases ru
              exact ⟨i, rfl, hz, p ω' _ H' l rel' (.int _)⟩
            refine wpAny_call (codeAny_mono (q3.run X.A.in1 X.stack s H ⟨[.ref b], []⟩ [.ref b] [.ref b] _ _ hroom e0 hb (.cons rfl .nil) hsp) fun r s' hq => ?_)
            cases r with
            | error e => exact (passes_call E.takes (E := fun _ _ _ => False) (fun _ _ _ _ z => z.elim)) pins σ H s e s' I hq
            | ok fl =>
              cases fl with
              | ret w =>
                obtain ⟨z, H', I', rz, i, ez, hi2, hQ⟩ := I.after hq
                subst ez
                obtain ⟨t, rfl⟩ := rz
                exact ⟨⟨hi2.1, by omega⟩, .int i, H', I'.tok _, ⟨_, rfl⟩, hQ⟩
              | next => exact False.elim hq
              | brk => exact False.elim hq
              | cont => exact False.elim hq
          · rw [if_neg hz] at p; exact p.elim
        | _ => exact p.elim
    · exact p.elim
  · exact p.elim
theorem snd_len1 (E : EOk G call k X Γ W) {C x : Str} {f : Nat} {y : Expr} {p0 : Pos} {fa : Sl → Ct → Res D} (h0 : x = "len") (h1 : kindB Γ.sc x .globalImplicit = true) (hn : notStarB y = true) (hm : (C, f) ∈ G.lens) (ha : PE X y (liftE X.K X.mg W fa)) : PE X (.Call (.Name x p0) [y] [] pos) (liftE X.K X.mg W fun sl c => bnd (fa sl c) (len1K call C f)) := by
  have hg : Gl X x := by
    show X.env.scope.names.lookup x = _
    rw [E.sc]
    exact kindB_iff.mp h1
  subst h0
  exact (pe_callB (call_lenI E hm) hg (E.g.blt .len) (boot_blt .len) (snd_cons hn ha snd_nil) (by decide) (by decide) (star_ns hn _ _) rfl).weak fun σ H Q ⟨ω, sl, c, sr, rel, p⟩ => by
    refine ⟨ω, sl, c, sr, rel, ?_⟩
    dsimp only at p ⊢
    cases v : fa sl c with
    | stuck => rw [v] at p; exact p.elim
    | exc _ _ => rw [v] at p; exact p
    | ok d c1 =>
      rw [v] at p
      rintro ω1 vs H1 l1 rel1 rs
      cases rs with
      | cons r t =>
      cases t
      exact ⟨_, ω1, d, c1, W, σ, rfl, rel1, r, Post.le p l1⟩
/-! ### enumerate -/
theorem snd_enum (E : EOk G call k X Γ W) {elts : List Expr} {kk : Nat} {tpos : Pos} {x : Str} {y : Expr} {p0 : Pos} {fa : Sl → Ct → Res D} (h0 : x = "enumerate") (h1 : kindB Γ.sc x .globalImplicit = true) (hn : notStarB y = true) (ha : PE X y (liftE X.K X.mg W fa)) : PI X (.Tuple elts kk tpos) (.Call (.Name x p0) [y] [] pos) (liftI X.K X.mg W fun sl c => bnd (fa sl c) enumK) := by
  have hg : Gl X x := by
    show X.env.scope.names.lookup x = _
    rw [E.sc]
    exact kindB_iff.mp h1
  subst h0
  refine (pi_enum hg E.g.enm (pa_cons ha pa_nil (star_ns hn _ _)) (star_ns hn _ _)).weak fun σ H Q ⟨ω, sl, c, sr, rel, p⟩ => (post_bind sr rel p).mono fun v H1 ⟨ω1, c1, dx, l1, sr1, rel1, rx, p1⟩ => ?_
  cases dx with
  | lst xs =>
    cases rx with
    | lst h r =>
    have hq : SqL X.K ω1.F _ _ := .inl (.inl h)
    exact ⟨_, _, rfl, sq_l rel1.ext hq, p1.ok_of rel1 (walks_enum hq r)⟩
  | _ => exact p1.elim
end
end Hv

set_option Elab.async false
set_option linter.all false
set_option maxRecDepth 100000
set_option maxHeartbeats 4000000
/-! HvG3: soundness of expressions, all together. -/
namespace Hv
open PySem PySem.Spec PyProof.Rows L2
section
variable {G : GE} {call : CallF} {k : Nat} {X : Cx} {Γ : SE} {W : WX} {pos : Pos}
/-! ### all together -/
theorem lift.conv {α β : Type} {K : PySem.W.Frag} {mg : Str → Option Value} {ρ : Wd → α → β → Prop} {f g : Sl → Ct → Res α} {σ : L2.St} {H : Hp} {Q : β → Hp → Prop} (e : ∀ sl c, g sl c = f sl c) (h : lift K mg ρ W g σ H Q) : lift K mg ρ W f σ H Q := by
  obtain ⟨ω, sl, c, sr, rel, p⟩ := h
  exact ⟨ω, sl, c, sr, rel, by rw [← e]; exact p⟩
theorem PEc {e : Expr} {f g : Sl → Ct → Res D} (h : PE X e (liftE X.K X.mg W f)) (q : ∀ sl c, g sl c = f sl c) : PE X e (liftE X.K X.mg W g) := h.weak fun _ _ _ => lift.conv q
theorem PTc {e : Expr} {f g : Sl → Ct → Res Bool} (h : PT X e (liftT X.K X.mg W f)) (q : ∀ sl c, g sl c = f sl c) : PT X e (liftT X.K X.mg W g) := h.weak fun _ _ _ => lift.conv q
theorem PWc {e : Expr} {f g : Sl → Ct → Res Bool} (h : PW X e (liftT X.K X.mg W f)) (q : ∀ sl c, g sl c = f sl c) : PW X e (liftT X.K X.mg W g) := ⟨fun wh pins s σ H Q I hw => h.run wh pins s σ H Q I (lift.conv q hw)⟩
theorem PAc {e : List Expr} {f g : Sl → Ct → Res (List D)} (h : PA X e (liftA X.K X.mg W f)) (q : ∀ sl c, g sl c = f sl c) : PA X e (liftA X.K X.mg W g) := h.weak fun _ _ _ => lift.conv q
theorem PKc {e : List Keyword} {f g : Sl → Ct → Res (List D)} (h : PK X e (liftA X.K X.mg W f)) (q : ∀ sl c, g sl c = f sl c) : PK X e (liftA X.K X.mg W g) := PK.weak h fun _ _ _ => lift.conv q
theorem PIc {tg e : Expr} {f g : Sl → Ct → Res (List D)} (h : PI X tg e (liftI X.K X.mg W f)) (q : ∀ sl c, g sl c = f sl c) : PI X tg e (liftI X.K X.mg W g) := h.weak fun _ _ _ => lift.conv q
theorem fold_ns {e : Expr} (h : isSetB e = false) (env : Env) (x : Value) : foldedSetIterable e env x = pure x := by
  cases e <;> first | rfl | cases h
theorem EOk.blk (E : EOk G call k X Γ W) {s : Shared} {H : Hp} {scope : Scope} (hk : scope.kind = .function) {C : Addr} {cl : List (Str × Addr)} {fp : List Addr} : EOk G call k (X.blk s H scope (compEnvC scope cl C X.env) fp) (Γ.blk scope) noW where
  g := E.g
  N := E.N
  nd := E.nd
  sc := by
    show relS scope X.env.scope = relS scope Γ.sc
    rw [E.sc]
  calm := E.calm
  two := E.two
  kind := hk
  fn := fun x h => h
  room := E.room
  takes := takes0
  own := PassesOwn.never
theorem pw_single {o : BoolOp} {e : Expr} {t : TT} (h : PT X e t) : PW X (.BoolOp o [e] pos) t := by
  cases o
  · exact pw_and1 h
  · exact pw_or1 h
theorem snd_rng1 (E : EOk G call k X Γ W) {tg y : Expr} {x : Str} {p0 : Pos} {fa : Sl → Ct → Res D} (h0 : x = "range") (h1 : kindB Γ.sc x .globalImplicit = true) (hn : notStarB y = true) (ha : PE X y (liftE X.K X.mg W fa)) : PI X tg (.Call (.Name x p0) [y] [] pos) (liftI X.K X.mg W fun sl c => bnd (fa sl c) rng1K) := by
  have hg : Gl X x := by
    show X.env.scope.names.lookup x = _
    rw [E.sc]
    exact kindB_iff.mp h1
  subst h0
  refine (pi_range1 hg E.g.rng (pa_cons ha pa_nil (star_ns hn _ _)) (star_ns hn _ _)).weak fun σ H Q ⟨ω, sl, c, sr, rel, p⟩ => (post_bind sr rel p).mono fun x H1 ⟨ω1, c1, dx, l1, sr1, rel1, rx, p1⟩ => ?_
  cases dx with
  | int j =>
    cases rx
    dsimp only [rng1K] at p1
    by_cases hs : small j
    · rw [if_pos hs] at p1
      exact ⟨j, rfl, hs.1, hs.2, p1.ok_of rel1 walks_rng⟩
    · rw [if_neg hs] at p1; exact p1.elim
  | _ => exact p1.elim
theorem snd_rng2 (E : EOk G call k X Γ W) {tg y z : Expr} {x : Str} {p0 : Pos} {fa fb : Sl → Ct → Res D} (h0 : x = "range") (h1 : kindB Γ.sc x .globalImplicit = true) (hn : notStarB y = true) (hn' : notStarB z = true) (ha : PE X y (liftE X.K X.mg W fa)) (hb : PE X z (liftE X.K X.mg W fb)) :
    PI X tg (.Call (.Name x p0) [y, z] [] pos) (liftI X.K X.mg W fun sl c => bnd (fa sl c) fun x c => bnd (fb sl c) fun y c => rng2K x y c) := by
  have hg : Gl X x := by
    show X.env.scope.names.lookup x = _
    rw [E.sc]
    exact kindB_iff.mp h1
  subst h0
  refine PI.weak (pi_range2 hg E.g.rng (pa_cons ha (pa_cons hb pa_nil (star_ns hn' _ _)) (star_ns hn _ _)) (by rw [star_ns hn, star_ns hn']; rfl) (star_ns hn' _ _)) fun σ H Q ⟨ω, sl, c, sr, rel, p⟩ => (post_bind sr rel p).mono fun x H1 ⟨ω1, c1, dx, l1, sr1, rel1, rx, p1⟩ => (post_bind sr1 rel1 p1).mono fun y H2 ⟨ω2, c2, dy, l2, sr2, rel2, ry, p2⟩ => ?_
  cases dx with
  | int i =>
    cases dy with
    | int j =>
      cases rx
      cases ry
      dsimp only [rng2K] at p2
      by_cases hs : small i ∧ small j
      · rw [if_pos hs] at p2
        exact ⟨i, j, rfl, ⟨hs.1.1, hs.1.2, hs.2.1, hs.2.2⟩, p2.ok_of rel2 walks_rng⟩
      · rw [if_neg hs] at p2; exact p2.elim
    | _ => exact p2.elim
  | _ => exact p2.elim
/-- a value's expression as a test -/
theorem tstT {e : Expr} {f : Sl → Ct → Res D} (hp : plainT e = true) (h : PE X e (liftE X.K X.mg W f)) : PT X e (liftT X.K X.mg W fun sl c => bnd (tst true (f sl c)) bolK) :=
  PTc (pt_tru h hp) fun sl c => by
    show bnd (bnd (f sl c) truK) bolK = bnd (f sl c) truD
    cases f sl c with
    | stuck => rfl
    | exc _ _ => rfl
    | ok x c => 
      show bnd (truK x c) bolK = truD x c
      unfold truK
      cases truD x c <;> rfl
/-- what is shown of each: as a value, as a test -/
def Mode (X : Cx) (W : WX) (call : CallF) (tm : Bool) (i : IE) (e : Expr) : Prop :=
  match tm with
  | false => PE X e (liftE X.K X.mg W (evM call false i))
  | true => PT X e (liftT X.K X.mg W (evT call i)) ∧ (∀ o es p, e = .BoolOp o es p → PW X e (liftT X.K X.mg W (evT call i)))
theorem mode_of {tm : Bool} {i : IE} {e : Expr} {f : Sl → Ct → Res D} (hp : plainT e = true) (h : PE X e (liftE X.K X.mg W f)) (q : ∀ b sl c, evM call b i sl c = tst b (f sl c)) : Mode X W call tm i e := by
  cases tm with
  | false => exact PEc h fun sl c => q false sl c
  | true => exact ⟨PTc (tstT hp h) fun sl c => by unfold evT; rw [q], fun o es p z => by subst z; cases hp⟩
theorem bol_and {a b : Res D} {fb : Ct → Res D} : bnd (bnd a fun x c => andK x fb c) bolK = bnd (bnd a bolK) fun k c => if k = true then bnd (fb c) bolK else .ok false c := by
  cases a with
  | stuck => rfl
  | exc _ _ => rfl
  | ok x c => cases x with
    | bl b => cases b <;> rfl
    | _ => rfl
theorem bol_or {a b : Res D} {fb : Ct → Res D} : bnd (bnd a fun x c => orK x fb c) bolK = bnd (bnd a bolK) fun k c => if k = true then .ok true c else bnd (fb c) bolK := by
  cases a with
  | stuck => rfl
  | exc _ _ => rfl
  | ok x c => cases x with
    | bl b => cases b <;> rfl
    | _ => rfl
theorem bol_not {a : Res D} : bnd (bnd a notK) bolK = bnd (bnd a bolK) fun k c => .ok (!k) c := by
  cases a with
  | stuck => rfl
  | exc _ _ => rfl
  | ok x c => cases x <;> rfl
theorem tru_bl {f : Res D} (h : ∀ x c, f = .ok x c → ∃ b, x = .bl b) : bnd f truD = bnd f bolK := by
  cases f with
  | stuck => rfl
  | exc _ _ => rfl
  | ok x c =>
    obtain ⟨b, rfl⟩ := h x c rfl
    rfl
mutual
theorem snd_M : ∀ (i : IE) (tm : Bool) (Γ : SE) (X : Cx) (W : WX) (e : Expr), chkM G tm Γ i e = true → EOk G call k X Γ W → Mode X W call tm i e
  | .var i, tm, Γ, X, W, e, h, E => by
    cases e <;> first | (cases h; done) | skip
    simp only [chkM, Bool.and_eq_true, decide_eq_true_eq] at h
    exact mode_of rfl (snd_var E h.1.1 h.1.2 h.2) fun _ _ _ => rfl
  | .cst q, tm, Γ, X, W, e, h, E => by
    cases e <;> first | (cases h; done) | skip
    case Constant v j pos => exact mode_of rfl (snd_cst h) fun _ _ _ => rfl
    case Name x pos =>
      simp only [chkM, Bool.and_eq_true, decide_eq_true_eq] at h
      exact mode_of rfl (snd_con E h.1.1 h.1.2 h.2) fun _ _ _ => rfl
    case UnaryOp op x pos =>
      cases op <;> first | (cases h; done) | skip
      cases x <;> first | (cases h; done) | skip
      rename_i v j pos'
      cases v <;> first | (cases h; done) | skip
      cases q <;> first | (cases h; done) | skip
      exact mode_of rfl (snd_neg (of_decide_eq_true h)) fun _ _ _ => rfl
  | .typ n, tm, Γ, X, W, e, h, E => by
    cases e <;> first | (cases h; done) | skip
    simp only [chkM, Bool.and_eq_true, decide_eq_true_eq] at h
    exact mode_of rfl (snd_typ E h.1.1.1 (by simpa using h.1.1.2) h.1.2 h.2) fun _ _ _ => rfl
  | .bin mu o a b, tm, Γ, X, W, e, h, E => by
    cases e <;> first | (cases h; done) | skip
    simp only [chkM, Bool.and_eq_true, decide_eq_true_eq] at h
    obtain ⟨⟨rfl, h1⟩, h2⟩ := h
    exact mode_of rfl (snd_bin (snd_M a false Γ X W _ h1 E) (snd_M b false Γ X W _ h2 E)) fun _ _ _ => rfl
  | .cmp o a b, tm, Γ, X, W, e, h, E => by
    cases e <;> first | (cases h; done) | skip
    rename_i ea ops es pos
    rcases ops with _ | ⟨op, _ | ⟨op', ops⟩⟩ <;> rcases es with _ | ⟨eb, _ | ⟨ec, es⟩⟩ <;> first | (cases h; done) | skip
    simp only [chkM, Bool.and_eq_true, decide_eq_true_eq, Bool.not_eq_true'] at h
    obtain ⟨⟨⟨rfl, h0⟩, h1⟩, h2⟩ := h
    cases tm with
    | false => exact snd_cmp E.hu h0 (snd_M a false Γ X W _ h1 E) (snd_M b false Γ X W _ h2 E)
    | true =>
      refine ⟨PTc (snd_cmpT E.hu h0 (snd_M a false Γ X W _ h1 E) (snd_M b false Γ X W _ h2 E)) fun sl c => (tru_bl fun x c' z => ?_).symm, fun o es p z => by cases z⟩
      rw [evM] at z
      cases v1 : evM call false a sl c with
      | stuck => rw [v1] at z; cases z
      | exc _ _ => rw [v1] at z; cases z
      | ok x1 c1 =>
        rw [v1] at z
        simp only [bnd_ok] at z
        cases v2 : evM call false b sl c1 with
        | stuck => rw [v2] at z; cases z
        | exc _ _ => rw [v2] at z; cases z
        | ok x2 c2 =>
          rw [v2] at z
          exact (cmpD_bl z).2
  | .chn o o' a b q, tm, Γ, X, W, e, h, E => by
    cases e <;> first | (cases h; done) | skip
    rename_i ea ops es pos
    rcases ops with _ | ⟨op, _ | ⟨op', _ | ⟨_, _⟩⟩⟩ <;> rcases es with _ | ⟨eb, _ | ⟨ec, _ | ⟨_, _⟩⟩⟩ <;> first | (cases h; done) | skip
    simp only [chkM, Bool.and_eq_true, decide_eq_true_eq, Bool.not_eq_true'] at h
    obtain ⟨⟨⟨⟨⟨⟨rfl, rfl⟩, h0⟩, h0'⟩, h1⟩, h2⟩, h3⟩ := h
    cases tm with
    | false => exact snd_chn E.hu h0 h0' (snd_M a false Γ X W _ h1 E) (snd_M b false Γ X W _ h2 E) (snd_M q false Γ X W _ h3 E)
    | true =>
      refine ⟨PTc (snd_chnT E.hu h0' (snd_M a false Γ X W _ h1 E) (snd_M b false Γ X W _ h2 E) (snd_M q false Γ X W _ h3 E)) fun sl c => (tru_bl fun x c' z => ?_).symm, fun o es p z => by cases z⟩
      rw [evM] at z
      cases v1 : evM call false a sl c with
      | stuck => rw [v1] at z; cases z
      | exc _ _ => rw [v1] at z; cases z
      | ok x1 c1 =>
        rw [v1] at z
        simp only [bnd_ok] at z
        cases v2 : evM call false b sl c1 with
        | stuck => rw [v2] at z; cases z
        | exc _ _ => rw [v2] at z; cases z
        | ok x2 c2 =>
          rw [v2] at z
          simp only [bnd_ok] at z
          unfold chnK at z
          cases v3 : cmpD o x1 x2 c2 with
          | stuck => rw [v3] at z; cases z
          | exc _ _ => rw [v3] at z; cases z
          | ok x3 c3 =>
            rw [v3] at z
            obtain ⟨rfl, b3, rfl⟩ := cmpD_bl v3
            cases b3 with
            | false => cases z; exact ⟨_, rfl⟩
            | true =>
              simp only [bnd_ok] at z
              cases v4 : evM call false q sl c3 with
              | stuck => rw [v4] at z; cases z
              | exc _ _ => rw [v4] at z; cases z
              | ok x4 c4 =>
                rw [v4] at z
                exact (cmpD_bl z).2
  | .and a b, tm, Γ, X, W, e, h, E => by
    cases e <;> first | (cases h; done) | skip
    rename_i op es pos
    cases op <;> rcases es with _ | ⟨x, _ | ⟨y, r⟩⟩ <;> first | (cases h; done) | skip
    simp only [chkM, Bool.and_eq_true] at h
    have ha := snd_M a tm Γ X W x h.1 E
    have hb := snd_M b tm Γ X W _ h.2 E
    cases tm with
    | false =>
      refine PEc (snd_and ha (fb := evM call false b) ?_) fun _ _ => rfl
      cases r with
      | nil => exact pe_one hb
      | cons z r => exact hb
    | true =>
      have hw : PW X (.BoolOp .And (x :: y :: r) pos) (liftT X.K X.mg W (evT call (.and a b))) := by
        refine PWc (snd_andT ha.1 (fu := evT call b) ?_) fun sl c => bol_and (b := .stuck)
        cases r with
        | nil => exact pw_single hb.1
        | cons z r => exact hb.2 _ _ _ rfl
      exact ⟨hw.pt, fun _ _ _ _ => hw⟩
  | .or a b, tm, Γ, X, W, e, h, E => by
    cases e <;> first | (cases h; done) | skip
    rename_i op es pos
    cases op <;> rcases es with _ | ⟨x, _ | ⟨y, r⟩⟩ <;> first | (cases h; done) | skip
    simp only [chkM, Bool.and_eq_true] at h
    have ha := snd_M a tm Γ X W x h.1 E
    have hb := snd_M b tm Γ X W _ h.2 E
    cases tm with
    | false =>
      refine PEc (snd_or ha (fb := evM call false b) ?_) fun _ _ => rfl
      cases r with
      | nil => exact pe_one hb
      | cons z r => exact hb
    | true =>
      have hw : PW X (.BoolOp .Or (x :: y :: r) pos) (liftT X.K X.mg W (evT call (.or a b))) := by
        refine PWc (snd_orT ha.1 (fu := evT call b) ?_) fun sl c => bol_or (b := .stuck)
        cases r with
        | nil => exact pw_single hb.1
        | cons z r => exact hb.2 _ _ _ rfl
      exact ⟨hw.pt, fun _ _ _ _ => hw⟩
  | .not a, tm, Γ, X, W, e, h, E => by
    cases e <;> first | (cases h; done) | skip
    rename_i op x pos
    cases op <;> first | (cases h; done) | skip
    simp only [chkM] at h
    have ha := snd_M a tm Γ X W x h E
    cases tm with
    | false => exact PEc (snd_not ha) fun _ _ => rfl
    | true => exact ⟨PTc (snd_notT ha.1) fun sl c => bol_not, fun o es p z => by cases z⟩
  | .ifx q a b, tm, Γ, X, W, e, h, E => by
    cases e <;> first | (cases h; done) | skip
    simp only [chkM, Bool.and_eq_true, Bool.not_eq_true'] at h
    obtain ⟨⟨⟨rfl, h1⟩, h2⟩, h3⟩ := h
    exact PEc (snd_ifx (snd_M q true Γ X W _ h1 E).1 (snd_M a false Γ X W _ h2 E) (snd_M b false Γ X W _ h3 E)) fun _ _ => rfl
  | .tup es, tm, Γ, X, W, e, h, E => by
    cases e <;> first | (cases h; done) | skip
    exact mode_of rfl (snd_tup (snd_A es Γ X W _ h E)) fun _ _ _ => rfl
  | .lst mu es, tm, Γ, X, W, e, h, E => by
    cases e <;> first | (cases h; done) | skip
    exact mode_of rfl (snd_lst (snd_A es Γ X W _ h E)) fun _ _ _ => rfl
  | .idx a b, tm, Γ, X, W, e, h, E => by
    cases e <;> first | (cases h; done) | skip
    simp only [chkM, Bool.and_eq_true, Bool.not_eq_true'] at h
    exact mode_of rfl (snd_idx (by have := E.hu; omega) h.1.1 (snd_M a false Γ X W _ h.1.2 E) (snd_M b false Γ X W _ h.2 E)) fun _ _ _ => rfl
  | .slc a lo hi, tm, Γ, X, W, e, h, E => by
    cases e <;> first | (cases h; done) | skip
    rename_i x y pos
    cases y <;> first | (cases h; done) | skip
    rename_i l u st p2
    cases st <;> first | (cases h; done) | skip
    simp only [chkM, Bool.and_eq_true] at h
    exact mode_of rfl (snd_slc (snd_M a false Γ X W x h.1.1 E) (snd_O lo Γ X W l h.1.2 E) (snd_O hi Γ X W u h.2 E)) fun _ _ _ => rfl
  | .call fz f ks src es kes, tm, Γ, X, W, e, h, E => by
    cases e <;> first | (cases h; done) | skip
    rename_i fn xs kws pos
    cases fn <;> first | (cases h; done) | skip
    simp only [chkM, Bool.and_eq_true, decide_eq_true_eq] at h
    obtain ⟨⟨⟨⟨⟨h0, h1⟩, h2⟩, h3⟩, h4⟩, h5⟩ := h
    exact mode_of rfl (snd_call E h0 h1 h2 h3 h4 h5 (snd_A es Γ X W xs h4 E) (snd_K kes ks Γ X W kws h5 E)) fun _ _ _ => rfl
  | .blt f es, tm, Γ, X, W, e, h, E => by
    cases e <;> first | (cases h; done) | skip
    rename_i fn xs kws pos
    cases fn <;> first | (cases h; done) | skip
    cases kws <;> first | (cases h; done) | skip
    simp only [chkM, Bool.and_eq_true, decide_eq_true_eq, Bool.not_eq_true'] at h
    obtain ⟨⟨⟨h0, h1⟩, h2⟩, h3⟩ := h
    exact mode_of rfl (snd_blt E h0 h1 h2 (chkA_all h3) (snd_A es Γ X W xs h3 E)) fun _ _ _ => rfl
  | .comp mu own t s q el, tm, Γ, X, W, e, h, E => by
    cases e <;> first | (cases h; done) | skip
    rename_i elt gs scope pos
    simp only [chkM, Bool.and_eq_true] at h
    obtain ⟨⟨⟨⟨⟨⟨⟨h0, h1⟩, h2⟩, h3⟩, h4⟩, h5⟩, h6⟩, h7⟩ := h
    unfold oneG at h0
    simp only [Bool.and_eq_true, decide_eq_true_eq, Bool.not_eq_true'] at h0
    rcases gs with _ | ⟨⟨tg, iter, ifs, as⟩, _ | ⟨_, _⟩⟩ <;> first | (exfalso; simp at h0; done) | skip
    obtain ⟨⟨⟨_, h8⟩, h9⟩, h10⟩ := h0
    dsimp only [List.headD_cons] at h3 h4 h5 h6 h8 h9 h10
    subst h8
    have hkd : scope.kind = .function := (blkOk_by h1).kind
    have hown : (ownN Γ.N own).map (·.2) = own := by
      unfold ownN
      rw [List.map_map]
      exact List.map_id own
    have hs : ∀ i ∈ slotsT t, i ∈ (ownN Γ.N own).map (·.2) := fun i hi => by
      have z := List.all_eq_true.mp h2 i hi
      rw [hown]
      simpa using z
    refine mode_of rfl ((pe_lc E.calm E.nd (snd_I s Γ X W iter tg h3 E) (blkOk_by (by rw [E.N, E.sc]; exact h1)) (fun s H C cl fp => ?_) (fun s H C cl fp => ?_) (fun s H C cl fp => ?_) (fold_ns h10 _)).weak fun σ H Q hh => comp_tlc (mu := mu) (fi := evI call s) (fq := evT call q) (fe := evM call false el) hs (by rw [hown]; exact hh)) fun _ _ _ => rfl
    · have B := E.blk hkd (s := s) (H := H) (scope := scope) (C := C) (cl := cl) (fp := fp)
      exact pg_T B.N B.nd B.sc B.fn B.calm t tg h4
    · have B := E.blk hkd (s := s) (H := H) (scope := scope) (C := C) (cl := cl) (fp := fp)
      rcases ifs with _ | ⟨x, _ | ⟨_, _⟩⟩
      · have hq : q = .cst (.bl true) := isTrueB_eq (by simpa using h5)
        subst hq
        exact ⟨fun pins s σ H Q I ⟨ω, sl, c, sr, rel, p⟩ => pts_nil.run pins s σ H Q I (p.ok_of rel rfl)⟩
      · exact pts_one (snd_M q true (Γ.blk scope) _ noW x h6 B).1
      · exfalso; simp at h9
    · exact snd_M el false (Γ.blk scope) _ noW elt h7 (E.blk hkd)
  | .frz n a, tm, Γ, X, W, e, h, E => by
    simp only [chkM, Bool.and_eq_true, Bool.or_eq_true, Bool.not_eq_true'] at h
    have ha := snd_frz (k := n) (snd_M a false Γ X W e h.2 E)
    cases tm with
    | false => exact PEc ha fun _ _ => rfl
    | true =>
      have hp : plainT e = true := h.1.resolve_left (by decide)
      exact mode_of hp ha fun _ _ _ => rfl
  | .fld C f a, tm, Γ, X, W, e, h, E => by
    cases e <;> first | (cases h; done) | skip
    simp only [chkM, Bool.and_eq_true, decide_eq_true_eq] at h
    obtain ⟨⟨⟨rfl, h1⟩, h2⟩, h3⟩ := h
    exact mode_of rfl (snd_fld E h1 h2 (snd_M a false Γ X W _ h3 E)) fun _ _ _ => rfl
  | .mk fz C f ks src es kes, tm, Γ, X, W, e, h, E => by
    cases e <;> first | (cases h; done) | skip
    rename_i fn xs kws pos
    cases fn <;> first | (cases h; done) | skip
    simp only [chkM, Bool.and_eq_true, decide_eq_true_eq] at h
    obtain ⟨⟨⟨⟨⟨h0, h1⟩, h2⟩, h3⟩, h4⟩, h5⟩ := h
    exact mode_of rfl (snd_mk E h0 h1 h2 h3 h4 h5 (snd_A es Γ X W xs h4 E) (snd_K kes ks Γ X W kws h5 E)) fun _ _ _ => rfl
  | .mth fz C m f ks src a es kes, tm, Γ, X, W, e, h, E => by
    cases e <;> first | (cases h; done) | skip
    rename_i fn xs kws pos
    cases fn <;> first | (cases h; done) | skip
    simp only [chkM, Bool.and_eq_true, decide_eq_true_eq] at h
    obtain ⟨⟨⟨⟨⟨⟨rfl, h1⟩, h2⟩, h3⟩, h4⟩, h5⟩, h6⟩ := h
    exact mode_of rfl (snd_mth E h1 h2 h3 h5 h6 (snd_M a false Γ X W _ h4 E) (snd_A es Γ X W xs h5 E) (snd_K kes ks Γ X W kws h6 E)) fun _ _ _ => rfl
  | .bm m a es, tm, Γ, X, W, e, h, E => by
    cases e <;> first | (cases h; done) | skip
    rename_i fn xs kws pos
    cases fn <;> first | (cases h; done) | skip
    cases kws <;> first | (cases h; done) | skip
    simp only [chkM, Bool.and_eq_true, decide_eq_true_eq] at h
    obtain ⟨⟨⟨⟨rfl, h1⟩, h2⟩, h3⟩, h4⟩ := h
    exact mode_of rfl (snd_bm E h1 h2 h4 (snd_M a false Γ X W _ h3 E) (snd_A es Γ X W xs h4 E)) fun _ _ _ => rfl
  | .lrng1 mu a, tm, Γ, X, W, e, h, E => by
    have hh : (match rngA1 e with
      | some (x, y, z) => decide (x = "list") && decide (y = "range") && kindB Γ.sc x .globalImplicit && kindB Γ.sc y .globalImplicit && notStarB z && chkM G false Γ a z
      | none => false) = true := h
    cases q : rngA1 e with
    | none => rw [q] at hh; cases hh
    | some t =>
      obtain ⟨x, y, z⟩ := t
      rw [q] at hh
      obtain ⟨p0, p1, p2, p3, rfl⟩ := rngA1_eq q
      simp only [Bool.and_eq_true, decide_eq_true_eq] at hh
      obtain ⟨⟨⟨⟨⟨h0, h1⟩, h2⟩, h3⟩, h4⟩, h5⟩ := hh
      exact mode_of rfl (snd_lrng1 E h0 h1 h2 h3 h4 (snd_M a false Γ X W _ h5 E)) fun _ _ _ => rfl
  | .lrng2 mu a b, tm, Γ, X, W, e, h, E => by
    have hh : (match rngA2 e with
      | some (x, y, z, u) => decide (x = "list") && decide (y = "range") && kindB Γ.sc x .globalImplicit && kindB Γ.sc y .globalImplicit && notStarB z && notStarB u && chkM G false Γ a z && chkM G false Γ b u
      | none => false) = true := h
    cases q : rngA2 e with
    | none => rw [q] at hh; cases hh
    | some t =>
      obtain ⟨x, y, z, u⟩ := t
      rw [q] at hh
      obtain ⟨p0, p1, p2, p3, rfl⟩ := rngA2_eq q
      simp only [Bool.and_eq_true, decide_eq_true_eq] at hh
      obtain ⟨⟨⟨⟨⟨⟨⟨h0, h1⟩, h2⟩, h3⟩, h4⟩, h5⟩, h6⟩, h7⟩ := hh
      exact mode_of rfl (snd_lrng2 E h0 h1 h2 h3 h4 h5 (snd_M a false Γ X W _ h6 E) (snd_M b false Γ X W _ h7 E)) fun _ _ _ => rfl
  | .dsp ks es, tm, Γ, X, W, e, h, E => by
    cases e <;> first | (cases h; done) | skip
    simp only [chkM, Bool.and_eq_true, decide_eq_true_eq, Bool.not_eq_true'] at h
    obtain ⟨⟨⟨⟨h0, h1⟩, h2⟩, h3⟩, h4⟩ := h
    exact mode_of rfl (snd_dsp E h0 h1 h2 h3 h4 (snd_D es Γ X W _ h4 E)) fun _ _ _ => rfl
  | .len1 C f a, tm, Γ, X, W, e, h, E => by
    cases e <;> first | (cases h; done) | skip
    rename_i fn xs kws pos
    cases fn <;> first | (cases h; done) | skip
    rcases xs with _ | ⟨y, _ | ⟨_, _⟩⟩ <;> cases kws <;> first | (cases h; done) | skip
    simp only [chkM, Bool.and_eq_true, decide_eq_true_eq] at h
    obtain ⟨⟨⟨⟨h0, h1⟩, h2⟩, h3⟩, h4⟩ := h
    exact mode_of rfl (snd_len1 E h0 h1 h2 h3 (snd_M a false Γ X W y h4 E)) fun _ _ _ => rfl
theorem snd_D : ∀ (i : IEs) (Γ : SE) (X : Cx) (W : WX) (e : List Expr), chkA G Γ i e = true → EOk G call k X Γ W → PDs X W call i e
  | .nil, Γ, X, W, e, h, E => by
    cases e with
    | nil => exact .nil
    | cons _ _ => cases h
  | .cons a r, Γ, X, W, e, h, E => by
    cases e with
    | nil => cases h
    | cons x xs =>
      simp only [chkA, Bool.and_eq_true] at h
      exact .cons (snd_M a false Γ X W x h.1.2 E) (snd_D r Γ X W xs h.2 E)
theorem snd_O : ∀ (i : IO) (Γ : SE) (X : Cx) (W : WX) (e : Option Expr), chkO G Γ i e = true → EOk G call k X Γ W → PO X e (liftO X.K X.mg W (evO call i))
  | .no, Γ, X, W, e, h, E => by
    cases e with
    | none => exact po_hole
    | some _ => cases h
  | .so i, Γ, X, W, e, h, E => by
    cases e with
    | none => cases h
    | some x => exact po_lift (snd_M i false Γ X W x h E)
theorem snd_A : ∀ (i : IEs) (Γ : SE) (X : Cx) (W : WX) (e : List Expr), chkA G Γ i e = true → EOk G call k X Γ W → PA X e (liftA X.K X.mg W (evA call i))
  | .nil, Γ, X, W, e, h, E => by
    cases e with
    | nil => exact snd_nil
    | cons _ _ => cases h
  | .cons a r, Γ, X, W, e, h, E => by
    cases e with
    | nil => cases h
    | cons x xs =>
      simp only [chkA, Bool.and_eq_true] at h
      exact snd_cons h.1.1 (snd_M a false Γ X W x h.1.2 E) (snd_A r Γ X W xs h.2 E)
theorem snd_K : ∀ (i : IEs) (ks : List Str) (Γ : SE) (X : Cx) (W : WX) (e : List Keyword), chkK G Γ i ks e = true → EOk G call k X Γ W → PK X e (liftA X.K X.mg W (evA call i))
  | .nil, ks, Γ, X, W, e, h, E => by
    cases ks <;> cases e <;> first | (cases h; done) | exact snd_knil
  | .cons a r, ks, Γ, X, W, e, h, E => by
    cases ks with
    | nil => cases h
    | cons q ks =>
      cases e with
      | nil => cases h
      | cons x xs =>
        obtain ⟨nm, x, p⟩ := x
        simp only [chkK, Bool.and_eq_true] at h
        exact snd_kcons (snd_M a false Γ X W x h.1.2 E) (snd_K r ks Γ X W xs h.2 E)
theorem snd_I : ∀ (i : II) (Γ : SE) (X : Cx) (W : WX) (e tg : Expr), chkI G Γ i tg e = true → EOk G call k X Γ W → PI X tg e (liftI X.K X.mg W (evI call i))
  | .seq a, Γ, X, W, e, tg, h, E => by
    simp only [chkI, Bool.and_eq_true] at h
    exact pi_seq (snd_M a false Γ X W e h.1 E)
  | .rng1 a, Γ, X, W, e, tg, h, E => by
    cases e <;> first | (cases h; done) | skip
    rename_i fn xs kws pos
    cases fn <;> first | (cases h; done) | skip
    rcases xs with _ | ⟨y, _ | ⟨_, _⟩⟩ <;> cases kws <;> first | (cases h; done) | skip
    simp only [chkI, Bool.and_eq_true, decide_eq_true_eq] at h
    exact snd_rng1 E h.1.1.1 h.1.1.2 h.1.2 (snd_M a false Γ X W y h.2 E)
  | .rng2 a b, Γ, X, W, e, tg, h, E => by
    cases e <;> first | (cases h; done) | skip
    rename_i fn xs kws pos
    cases fn <;> first | (cases h; done) | skip
    rcases xs with _ | ⟨y, _ | ⟨z, _ | ⟨_, _⟩⟩⟩ <;> cases kws <;> first | (cases h; done) | skip
    simp only [chkI, Bool.and_eq_true, decide_eq_true_eq] at h
    exact snd_rng2 E h.1.1.1.1.1 h.1.1.1.1.2 h.1.1.1.2 h.1.1.2 (snd_M a false Γ X W y h.1.2 E) (snd_M b false Γ X W z h.2 E)
  | .enum a, Γ, X, W, e, tg, h, E => by
    cases e <;> first | (cases h; done) | skip
    rename_i fn xs kws pos
    cases fn <;> first | (cases h; done) | skip
    rcases xs with _ | ⟨y, _ | ⟨_, _⟩⟩ <;> cases kws <;> first | (cases h; done) | skip
    simp only [chkI, Bool.and_eq_true, decide_eq_true_eq] at h
    obtain ⟨⟨⟨⟨h0, h1⟩, h2⟩, h3⟩, h4⟩ := h
    cases tg <;> first | (cases h3; done) | skip
    exact snd_enum E h0 h1 h2 (snd_M a false Γ X W y h4 E)
  | .zip st es, Γ, X, W, e, tg, h, E => by
    cases e <;> first | (cases h; done) | skip
    rename_i fn xs kws pos
    cases fn <;> first | (cases h; done) | skip
    simp only [chkI, Bool.and_eq_true, decide_eq_true_eq] at h
    obtain ⟨⟨⟨⟨⟨h0, h1⟩, h2⟩, h3⟩, h4⟩, h5⟩ := h
    cases tg <;> first | (cases h2; done) | skip
    exact snd_zip E h0 h1 h3 (chkA_all h5) h4 (snd_A es Γ X W xs h5 E)
end
theorem snd_E {i : IE} {e : Expr} (h : chkE G Γ i e = true) (E : EOk G call k X Γ W) : PE X e (liftE X.K X.mg W (evE call i)) := snd_M i false Γ X W e h E
theorem snd_T {i : IE} {e : Expr} (h : chkM G true Γ i e = true) (E : EOk G call k X Γ W) : PT X e (liftT X.K X.mg W (evT call i)) := (snd_M i true Γ X W e h E).1
end
end Hv

set_option Elab.async false
set_option linter.all false
set_option maxRecDepth 100000
set_option maxHeartbeats 4000000
/-! HvH: statements, defs. -/
namespace Hv
open PySem PySem.Spec PyProof.Rows L2

/-! ### the text is the inner form -/
/-- a value's store on one line swaps (a comprehension to a local name) -/
def swapB (sc : Scope) (tg e : Expr) : Bool := match tg, e with
  | .Name t p, .ListComp _ _ s q => kindB sc t .local && (p.line == q.line) && !(s.names.any fun (n, k) => n == t && (k == .local || k == .cell))
  | _, _ => false
def isCompB : Expr → Bool
  | .ListComp _ _ _ _ => true
  | .SetComp _ _ _ _ => true
  | .DictComp _ _ _ _ _ => true
  | _ => false
def compScope : Expr → Option Scope
  | .ListComp _ _ s _ => some s
  | .SetComp _ _ s _ => some s
  | .DictComp _ _ _ s _ => some s
  | _ => none
/-- no store of a comprehension from within -/
def noSwapB (sc : Scope) (tg x : Expr) : Bool := !isCompB x || (match tg with
  | .Name t p => !kindB sc t .local || !(p.line == x.pos.line) || (((compScope x).map fun s => s.names.any fun (n, k) => n == t && (k == .local || k == .cell)).getD false)
  | _ => true)
def isLcI : IE → Bool
  | .comp _ _ _ _ _ _ => true
  | _ => false
def cellNm (sc : Scope) : Expr → Bool
  | .Name t _ => !kindB sc t .local
  | _ => true
def isTupB : Expr → Bool
  | .Tuple _ _ _ => true
  | .List _ _ => true
  | _ => false
def isAttrB : Expr → Bool
  | .Attribute _ _ _ => true
  | _ => false
def chkX1 (G : GE) (Γ : SE) : XT → Expr → Bool
  | .fl i C f, .Attribute o f' _ => decide (f' = f) && decide ((C, f) ∈ G.flds) && chkE G Γ (.var i) o
  | _, _ => false
def chkXs (G : GE) (Γ : SE) : List XT → List Expr → Bool
  | [], [] => true
  | t :: ts, e :: es => isAttrB e && chkX1 G Γ t e && chkXs G Γ ts es
  | _, _ => false
def chkX (G : GE) (Γ : SE) : List XT → Expr → Bool
  | ts, .Tuple (e :: es) _ _ => decide (2 ≤ ts.length) && chkXs G Γ ts (e :: es)
  | [t], e => isAttrB e && chkX1 G Γ t e
  | _, _ => false
/-- no two stores change their places -/
def noTupB (sc : Scope) (tg x : Expr) : Bool := !(isTupB tg && isTupB x) || (match tg with
  | .Tuple ts _ _ => ts.any (cellNm sc)
  | _ => false)
mutual
def chkS (G : GE) : SE → IS → Stmt → Bool
  | Γ, .asg t q, e => match e with
    | .Assign [tg] x _ => notStarB tg && chkT' Γ t tg && chkE G Γ q x && ((noSwapB Γ.sc tg x && noTupB Γ.sc tg x) || (isLcI q && swapB Γ.sc tg x))
    | _ => false
  | Γ, .par i j a b, e => match e with
    | .Assign [.Tuple [.Name x px, .Name y py] _ _] (.Tuple [ea, eb] _ _) _ => decide (Γ.N[i]? = some x) && decide (Γ.N[j]? = some y) && decide (i ≠ j) && kindB Γ.sc x .local && kindB Γ.sc y .local && notStarB ea && notStarB eb && chkE G Γ a ea && chkE G Γ b eb &&
      (py.line == px.line) && !([ea, eb].all (foldedForSure 8)) && !([ea, eb].all (constantsAlone 8))
    | _ => false
  | Γ, .put o i q, e => match e with
    | .Assign [.Subscript x y _] z _ => !isSliceB y && chkE G Γ o x && chkE G Γ i y && chkE G Γ q z
    | _ => false
  | Γ, .par3 i j l a b d, e => match e with
    | .Assign [.Tuple [.Name x px, .Name y py, .Name z pz] _ _] (.Tuple [ea, eb, ed] _ _) _ => decide (Γ.N[i]? = some x) && decide (Γ.N[j]? = some y) && decide (Γ.N[l]? = some z) && decide (i ≠ j ∧ i ≠ l ∧ j ≠ l) && kindB Γ.sc x .local && kindB Γ.sc y .local && kindB Γ.sc z .local && notStarB ea && notStarB eb && notStarB ed && chkE G Γ a ea && chkE G Γ b eb && chkE G Γ d ed &&
      (py.line == px.line) && (pz.line == px.line) && !([ea, eb, ed].all (foldedForSure 8)) && !([ea, eb, ed].all (constantsAlone 8))
    | _ => false
  | Γ, .augI o i op q, e => match e with
    | .AugAssign (.Subscript x y _) op' z _ => !isSliceB y && decide (op' = opOf op) && decide (op ≠ .pow) && chkE G Γ o x && chkE G Γ i y && chkE G Γ q z
    | _ => false
  | Γ, .sto ts q, e => match e with
    | .Assign [tg] x _ => chkE G Γ q x && chkX G Γ ts tg
    | _ => false
  | Γ, .aug i o q, e => match e with
    | .AugAssign (.Name x _) op z _ => decide (Γ.N[i]? = some x) && (kindB Γ.sc x .local || (kindB Γ.sc x .cell && Γ.fn x)) && okName x && (decide (op = opOf o) && decide (o ≠ .pow)) && chkE G Γ q z
    | _ => false
  | Γ, .expr q, e => match e with
    | .Expr x _ => !isCompB x && chkE G Γ q x
    | _ => false
  | Γ, .ret q, e => match e with
    | .Return (some x) _ => chkE G Γ q x
    | _ => false
  | _, .retN, e => match e with
    | .Return none _ => true
    | _ => false
  | Γ, .ifs q a b, e => match e with
    | .If c x y _ => chkM G true Γ q c && chkSs G Γ a x && chkSs G Γ b y
    | _ => false
  | Γ, .whl q b, e => match e with
    | .While c x [] _ => chkM G true Γ q c && chkSs G Γ b x
    | _ => false
  | Γ, .for t s b, e => match e with
    | .For tg it x [] _ => chkT' Γ t tg && chkI G Γ s tg it && !isSetB it && chkSs G Γ b x
    | _ => false
  | _, .pass, e => match e with
    | .Pass _ => true
    | _ => false
  | _, .brk, e => match e with
    | .Break _ => true
    | _ => false
  | _, .cont, e => match e with
    | .Continue _ => true
    | _ => false
  | _, .nev, _ => true
  | Γ, .rse C n sup fl es, e => match e with
    | .Raise (some (.Call (.Name x _) xs [] _)) none _ => decide (x = C) && kindB Γ.sc x .globalImplicit && okName x && decide ((C, n, fl, sup) ∈ G.excs) && chkA G Γ es xs
    | _ => false
  | Γ, .tryA b D i hx tg, e => match e with
    | .Try body [.ExceptHandler (some (.Name x _)) (some m) [st] _] [] [] _ => decide (x = D) && G.cls.contains D && kindB Γ.sc x .globalImplicit && okName x && locB Γ.N Γ.sc i m && suiteB G.cls Γ.N Γ.sc i hx tg st && chkSs G Γ b body
    | _ => false
def chkSs (G : GE) : SE → ISs → List Stmt → Bool
  | _, .nil, l => l.isEmpty
  | Γ, .cons s r, l => match l with
    | x :: xs => chkS G Γ s x && chkSs G Γ r xs
    | [] => false
end

/-! ### readings -/
section
variable (K : PySem.W.Frag) (mg : Str → Option Value)
def PostS (ω : Wd) (W : WX) (D : Ends) : RS → Prop
  | .ok (.nx sl) c => ∀ ω' σ' H', ω.le ω' → SR K mg ω' sl σ' → Rel K mg ω' c H' → D.nx σ' H'
  | .ok (.bk sl) c => ∀ ω' σ' H', ω.le ω' → SR K mg ω' sl σ' → Rel K mg ω' c H' → D.bk σ' H'
  | .ok (.ct sl) c => ∀ ω' σ' H', ω.le ω' → SR K mg ω' sl σ' → Rel K mg ω' c H' → D.ct σ' H'
  | .ok (.rt d _) c => ∀ ω' v H', ω.le ω' → Rel K mg ω' c H' → R K mg ω' d v → D.rt v H'
  | .ok (.ex x sl) c => ∀ ω' σ' H' cls dd, ω.le ω' → SR K mg ω' sl σ' → Rel K mg ω' c H' → RX K mg ω' x cls dd → W cls dd σ' H'
  | .stuck => False
def liftS (W : WX) (f : Sl → Ct → RS) : TS := fun D σ H => ∃ ω sl c, SR K mg ω sl σ ∧ Rel K mg ω c H ∧ PostS K mg ω W D (f sl c)
end
section
variable {K : PySem.W.Frag} {mg : Str → Option Value} {ω ω' : Wd} {W : WX} {σ : L2.St} {sl : Sl} {c : Ct} {H : Hp} {D : Ends}
theorem PostS.le {r : RS} (h : PostS K mg ω W D r) (l : ω.le ω') : PostS K mg ω' W D r := by
  cases r with
  | stuck => exact h
  | ok f c =>
    cases f with
    | nx sl => exact fun ω'' σ' H' l' => h ω'' σ' H' (l.trans l')
    | bk sl => exact fun ω'' σ' H' l' => h ω'' σ' H' (l.trans l')
    | ct sl => exact fun ω'' σ' H' l' => h ω'' σ' H' (l.trans l')
    | rt d sl => exact fun ω'' σ' H' l' => h ω'' σ' H' (l.trans l')
    | ex x sl => exact fun ω'' σ' H' cls dd l' => h ω'' σ' H' cls dd (l.trans l')
/-- an expression first -/
theorem postS_bind {α β : Type} {ρ : Wd → α → β → Prop} {f : Sl → Ct → Res α} {g : α → Ct → RS} (s : SR K mg ω sl σ) (rel : Rel K mg ω c H) (p : PostS K mg ω W D (ofR (f sl c) sl g)) :
    lift K mg ρ W f σ H (fun b H1 => ∃ ω' c' a, ω.le ω' ∧ SR K mg ω' sl σ ∧ Rel K mg ω' c' H1 ∧ ρ ω' a b ∧ PostS K mg ω' W D (g a c')) := by
  refine ⟨ω, sl, c, s, rel, ?_⟩
  cases e : f sl c with
  | ok a c' =>
    rw [e] at p
    exact fun ω' b H' l rel' r => ⟨ω', c', a, l, s.mono l.toLo, rel', r, PostS.le p l⟩
  | exc x c' =>
    rw [e] at p
    exact fun ω' H' cls dd l rel' rx => p ω' σ H' cls dd l (s.mono l.toLo) rel' rx
  | stuck =>
    rw [e] at p
    exact p.elim
theorem liftS.conv {f g : Sl → Ct → RS} (e : ∀ sl c, g sl c = f sl c) (h : liftS K mg W g D σ H) : liftS K mg W f D σ H := by
  obtain ⟨ω, sl, c, sr, rel, p⟩ := h
  exact ⟨ω, sl, c, sr, rel, by rw [← e]; exact p⟩
end
section
variable {G : GE} {call : CallF} {k : Nat} {X : Cx} {Γ : SE} {W : WX} {pos : Pos}
theorem PSc {e : Stmt} {f g : Sl → Ct → RS} (h : PS X e (liftS X.K X.mg W f)) (q : ∀ sl c, g sl c = f sl c) : PS X e (liftS X.K X.mg W g) := h.weak fun _ _ _ => liftS.conv q
def seqK (r : RS) (k : Sl → Ct → RS) : RS := match r with
  | .ok (.nx sl) c => k sl c
  | r => r
theorem snds_nil : PSs X [] (liftS X.K X.mg W fun sl c => .ok (.nx sl) c) := pss_nil.weak fun D σ H ⟨ω, sl, c, sr, rel, p⟩ => p ω σ H .rfl sr rel
theorem snds_cons {st : Stmt} {rest : List Stmt} {f g : Sl → Ct → RS} (h1 : PS X st (liftS X.K X.mg W f)) (h2 : PSs X rest (liftS X.K X.mg W g)) : PSs X (st :: rest) (liftS X.K X.mg W fun sl c => seqK (f sl c) g) :=
  (pss_cons h1 h2).weak fun D σ H ⟨ω, sl, c, sr, rel, p⟩ => by
    refine ⟨ω, sl, c, sr, rel, ?_⟩
    dsimp only at p
    cases e : f sl c with
    | stuck => rw [e] at p; exact p
    | ok fl c' =>
      rw [e] at p
      cases fl with
      | nx sl' => exact fun ω' σ' H' l s' rel' => ⟨ω', sl', c', s', rel', PostS.le p l⟩
      | bk sl' => exact p
      | ct sl' => exact p
      | rt d sl' => exact p
      | ex x sl' => exact p
theorem swaps_no {e : Expr} (h : isCompB e = false) (t : Option Expr) (l : Nat) (env : Env) : swapsWith e t l env = pure false := by
  cases e <;> first | rfl | cases h
theorem swaps_no2 {sc : Scope} {tg e : Expr} {env : Env} (hsc : env.scope = sc) (h : noSwapB sc tg e = true) (l : Nat) : swapsWith e (some tg) l env = pure false := by
  unfold noSwapB at h
  rw [Bool.or_eq_true] at h
  rcases h with h | h
  · exact swaps_no (by simpa using h) _ _ _
  · cases tg with
    | Name t p =>
      simp only [Bool.or_eq_true, Bool.not_eq_true'] at h
      have key : ∀ s : Scope, compScope e = some s → (env.blockKind == .function && env.kindOf t == some .local && p.line == e.pos.line && !(s.names.any fun (n, k) => n == t && (k == .local || k == .cell))) = false := fun s hs => by
        rcases h with (h | h) | h
        · have : (env.kindOf t == some .local) = false := by
            unfold kindB at h
            rw [← hsc] at h
            have h2 : env.kindOf t ≠ some .local := of_decide_eq_false h
            simpa using h2
          rw [this]
          simp
        · rw [h]
          simp
        · rw [hs] at h
          have h : (s.names.any fun (n, k) => n == t && (k == .local || k == .cell)) = true := h
          rw [h]
          simp
      cases e <;> first | rfl | skip
      · exact congrArg pure (key _ rfl)
      · exact congrArg pure (key _ rfl)
      · exact congrArg pure (key _ rfl)
    | _ => cases e <;> rfl
theorem swaps_attr {o e : Expr} {f : Str} {p : Pos} {l : Nat} {env : Env} : swapsWith e (some (.Attribute o f p)) l env = pure false := by cases e <;> rfl
theorem swaps_sub {o i e : Expr} {p : Pos} {l : Nat} {env : Env} : swapsWith e (some (.Subscript o i p)) l env = pure false := by cases e <;> rfl
theorem swaps_tup {ts : List Expr} {k : Nat} {e : Expr} {p : Pos} {l : Nat} {env : Env} : swapsWith e (some (.Tuple ts k p)) l env = pure false := by cases e <;> rfl
theorem cell_names {env : Env} {sc : Scope} (hsc : env.scope = sc) {l : Nat} : ∀ {es : List Expr}, es.any (cellNm sc) = true → (es.filterMap (fun | .Name id pos => if env.kindOf id == some .local && pos.line == l then some id else none | _ => none)).length < es.length
  | e :: es, h => by
    rw [List.any_cons, Bool.or_eq_true] at h
    have le : ∀ (es : List Expr), (es.filterMap (fun | .Name id pos => if env.kindOf id == some .local && pos.line == l then some id else none | _ => none)).length ≤ es.length := fun es => List.length_filterMap_le _ _
    rw [List.filterMap_cons]
    rcases h with h | h
    · have hn : (match e with | .Name id pos => if env.kindOf id == some .local && pos.line == l then some id else none | _ => none) = none := by
        cases e <;> first | rfl | skip
        rename_i t p
        unfold cellNm kindB at h
        rw [← hsc] at h
        have h2 : env.kindOf t ≠ some .local := by
          have h3 : ¬ (env.scope.names.lookup t = some .local) := by simpa using h
          exact h3
        have : (env.kindOf t == some .local) = false := by simpa using h2
        show (if (env.kindOf t == some .local && p.line == l) = true then some t else none) = none
        rw [this]
        rfl
      split
      · exact Nat.lt_succ_of_le (le es)
      · rename_i b hb
        exact absurd (hn.symm.trans hb) (by simp)
    · have ih := cell_names hsc (l := l) h
      split
      · exact Nat.lt_succ_of_lt ih
      · exact Nat.succ_lt_succ ih
theorem swapped_cell {env : Env} {sc : Scope} (hsc : env.scope = sc) {es : List Expr} {kk : Nat} {pt : Pos} {e : Expr} (h : es.any (cellNm sc) = true) : swappedStores [.Tuple es kk pt] e env = pure none := by
  cases e <;> first | rfl | skip
  rename_i vs k2 p2
  unfold swappedStores
  dsimp only
  by_cases c1 : (!(es.length == 2 || es.length == 3) || vs.length != es.length || env.blockKind != .function) = true
  · rw [if_pos c1]
  · rw [if_neg c1]
    split
    · rfl
    · split
      · rfl
      · rename_i z
        refine absurd ?_ z
        have q : ∀ l : List Str, l.length < es.length → (l.length != es.length || l.eraseDups.length != l.length) = true := fun l hl => by
          have h2 : (l.length != es.length) = true := by simpa using Nat.ne_of_lt hl
          rw [h2]
          rfl
        exact q _ (cell_names hsc h)
theorem swapped_no {tg e : Expr} (h : (isTupB tg && isTupB e) = false) (env : Env) : swappedStores [tg] e env = pure none := by
  cases tg <;> cases e <;> first | rfl | cases h
theorem swapped_no2 {env : Env} {sc : Scope} (hsc : env.scope = sc) {tg e : Expr} (h : noTupB sc tg e = true) : swappedStores [tg] e env = pure none := by
  unfold noTupB at h
  rw [Bool.or_eq_true] at h
  rcases h with h | h
  · exact swapped_no (by rw [Bool.not_eq_true'] at h; exact h) _
  · cases tg <;> first | (cases h; done) | skip
    exact swapped_cell hsc h
def asgK (t : IT) (sl : Sl) (d : D) (c : Ct) : RS := match asT t d sl with
  | some sl => .ok (.nx sl) c
  | none => .stuck
theorem snds_asg {t : IT} {tg e : Expr} {f : Sl → Ct → Res D} (hn : notStarB tg = true) (hg : PG X tg (gT X.K X.mg t)) (he : PE X e (liftE X.K X.mg W f)) {sc : Scope} (hsc : X.env.scope = sc) (h1 : noSwapB sc tg e = true) (h2 : noTupB sc tg e = true) : PS X (.Assign [tg] e pos) (liftS X.K X.mg W fun sl c => ofR (f sl c) sl (asgK t sl)) :=
  (ps_asg he hg (swaps_no2 hsc h1 _) (swapped_no2 hsc h2) (by rw [assign_ns hn]; rfl)).weak fun D σ H ⟨ω, sl, c, sr, rel, p⟩ => (postS_bind sr rel p).mono fun x H1 ⟨ω1, c1, d, l1, sr1, rel1, rx, p1⟩ => by
    unfold asgK at p1
    cases e : asT t d sl with
    | none => rw [e] at p1; exact p1.elim
    | some sl' =>
      rw [e] at p1
      exact ⟨ω1, sl, c1, d, sl', sr1, rel1, rx, e, fun σ' s' _ => p1 ω1 σ' H1 .rfl s' rel1⟩
theorem snds_par {i j : Nat} {x y : Str} {ea eb : Expr} {px py pt pt2 : Pos} {kt k2 : Nat} {fa fb : Sl → Ct → Res D} (E : EOk G call k X Γ W) (hi : Γ.N[i]? = some x) (hj : Γ.N[j]? = some y) (hij : i ≠ j) (hx : kindB Γ.sc x .local = true) (hy : kindB Γ.sc y .local = true)
    (na : notStarB ea = true) (nb : notStarB eb = true) (ha : PE X ea (liftE X.K X.mg W fa)) (hb : PE X eb (liftE X.K X.mg W fb)) (hw : swappedStores [.Tuple [.Name x px, .Name y py] kt pt] (.Tuple [ea, eb] k2 pt2) X.env = pure (some [x, y])) :
    PS X (.Assign [.Tuple [.Name x px, .Name y py] kt pt] (.Tuple [ea, eb] k2 pt2) pos) (liftS X.K X.mg W fun sl c => ofR (fa sl c) sl fun x c => ofR (fb sl c) sl fun y c => .ok (.nx ((sl.set i (some x)).set j (some y))) c) := by
  have hi' : X.N[i]? = some x := by rw [E.N]; exact hi
  have hj' : X.N[j]? = some y := by rw [E.N]; exact hj
  refine (ps_par E.calm E.nd hi' hj' hij (by rw [E.sc]; exact kindB_iff.mp hx) (by rw [E.sc]; exact kindB_iff.mp hy) (pa_cons ha (pa_cons hb pa_nil (star_ns nb _ _)) (star_ns na _ _)) hw rfl).weak fun D σ H ⟨ω, sl, c, sr, rel, p⟩ => (postS_bind sr rel p).mono fun v H1 ⟨ω1, c1, d, l1, sr1, rel1, rx, p1⟩ => (postS_bind sr1 rel1 p1).mono fun w H2 ⟨ω2, c2, d2, l2, sr2, rel2, ry, p2⟩ => ?_
  exact ⟨v, w, rfl, p2 ω2 _ H2 .rfl ((sr2.set i (rx.mono l2.toLo)).set j ry) rel2⟩
theorem swapped_two {x y : Str} {ea eb : Expr} {px py pt pt2 : Pos} {kt k2 : Nat} {env : Env} (hk : env.scope.kind = .function) (hx : env.scope.names.lookup x = some .local) (hy : env.scope.names.lookup y = some .local) (hxy : x ≠ y) (na : notStarB ea = true) (nb : notStarB eb = true)
    (hl : (py.line == px.line) = true) (h1 : ([ea, eb].all (foldedForSure 8)) = false) (h2 : ([ea, eb].all (constantsAlone 8)) = false) : swappedStores [.Tuple [.Name x px, .Name y py] kt pt] (.Tuple [ea, eb] k2 pt2) env = pure (some [x, y]) := by
  have hb : env.blockKind = .function := by unfold Env.blockKind; rw [hk]; rfl
  have kx : env.kindOf x = some .local := hx
  have ky : env.kindOf y = some .local := hy
  have s1 : ([ea, eb].any fun | .Starred .. => true | _ => false) = false := by
    rw [List.any_cons, List.any_cons, List.any_nil]
    cases ea <;> first | (cases na; done) | (cases eb <;> first | (cases nb; done) | rfl)
  have hd : [x, y].eraseDups = [x, y] := by
    rw [List.eraseDups_cons]
    have : (y == x) = false := by simpa using (Ne.symm hxy)
    simp [List.filter, this, List.eraseDups_cons]
  unfold swappedStores
  simp [hb, kx, ky, hl, s1, hd, h1, h2, Expr.pos]
  rw [if_neg]
  · have hl' : py.line = px.line := by simpa using hl
    simp [List.filterMap, ky, hl', hd]
  · rintro (h | h)
    · cases ea <;> first | (cases na; done) | cases h
    · cases eb <;> first | (cases nb; done) | cases h
theorem swapped_three {x y z : Str} {ea eb ed : Expr} {px py pz pt pt2 : Pos} {kt k2 : Nat} {env : Env} (hk : env.scope.kind = .function) (hx : env.scope.names.lookup x = some .local) (hy : env.scope.names.lookup y = some .local) (hz : env.scope.names.lookup z = some .local) (hxy : x ≠ y) (hxz : x ≠ z) (hyz : y ≠ z) (na : notStarB ea = true) (nb : notStarB eb = true) (nd : notStarB ed = true)
    (hl : (py.line == px.line) = true) (hl2 : (pz.line == px.line) = true) (h1 : ([ea, eb, ed].all (foldedForSure 8)) = false) (h2 : ([ea, eb, ed].all (constantsAlone 8)) = false) : swappedStores [.Tuple [.Name x px, .Name y py, .Name z pz] kt pt] (.Tuple [ea, eb, ed] k2 pt2) env = pure (some [x, y, z]) := by
  have hb : env.blockKind = .function := by unfold Env.blockKind; rw [hk]; rfl
  have kx : env.kindOf x = some .local := hx
  have ky : env.kindOf y = some .local := hy
  have kz : env.kindOf z = some .local := hz
  have star : ∀ {e : Expr}, notStarB e = true → (match e with | .Starred .. => true | _ => false) = false := fun {e} h => by cases e <;> first | rfl | cases h
  have hd : [x, y, z].eraseDups = [x, y, z] := by
    rw [List.eraseDups_cons]
    have q1 : (y == x) = false := by simpa using (Ne.symm hxy)
    have q2 : (z == x) = false := by simpa using (Ne.symm hxz)
    have q3 : (z == y) = false := by simpa using (Ne.symm hyz)
    simp [List.filter, q1, q2, q3, List.eraseDups_cons]
  have hl' : py.line = px.line := by simpa using hl
  have hl2' : pz.line = px.line := by simpa using hl2
  have nm : ([Expr.Name x px, .Name y py, .Name z pz].filterMap fun | .Name id pos => if env.kindOf id == some .local && pos.line == px.line then some id else none | _ => none) = [x, y, z] := by
    simp [List.filterMap, kx, ky, kz, hl', hl2']
  unfold swappedStores
  dsimp only
  rw [hb, if_neg (by simp)]
  have f1 : ∀ {b : Bool}, b = true → b = false → False := fun {b} p q => by rw [p] at q; cases q
  have s1 : ([ea, eb, ed].any fun | .Starred .. => true | _ => false) = false := by
    rw [List.any_cons, List.any_cons, List.any_cons, List.any_nil]
    simp only [Bool.or_eq_false_iff]
    exact ⟨star na, star nb, star nd, trivial⟩
  split
  · rename_i z
    exact (f1 z s1).elim
  · split
    · rename_i zz
      have q : ∀ l : List Str, l = [x, y, z] → (l.length != 3 || l.eraseDups.length != l.length) = false := fun l hl => by
        rw [hl, hd]
        rfl
      exact (f1 zz (q _ nm)).elim
    · split
      · rename_i z
        exact (f1 z h1).elim
      · split
        · rename_i z
          exact (f1 z h2).elim
        · exact congrArg (fun l => (pure (some l) : Sem (Option (List Str)))) nm
theorem snds_par3 {i j l : Nat} {x y z : Str} {ea eb ed : Expr} {px py pz pt pt2 : Pos} {kt k2 : Nat} {fa fb fd : Sl → Ct → Res D} (E : EOk G call k X Γ W) (hi : Γ.N[i]? = some x) (hj : Γ.N[j]? = some y) (hl : Γ.N[l]? = some z) (hij : i ≠ j) (hil : i ≠ l) (hjl : j ≠ l) (hx : kindB Γ.sc x .local = true) (hy : kindB Γ.sc y .local = true) (hz : kindB Γ.sc z .local = true)
    (na : notStarB ea = true) (nb : notStarB eb = true) (nd : notStarB ed = true) (ha : PE X ea (liftE X.K X.mg W fa)) (hb : PE X eb (liftE X.K X.mg W fb)) (hd : PE X ed (liftE X.K X.mg W fd)) (hw : swappedStores [.Tuple [.Name x px, .Name y py, .Name z pz] kt pt] (.Tuple [ea, eb, ed] k2 pt2) X.env = pure (some [x, y, z])) :
    PS X (.Assign [.Tuple [.Name x px, .Name y py, .Name z pz] kt pt] (.Tuple [ea, eb, ed] k2 pt2) pos) (liftS X.K X.mg W fun sl c => ofR (fa sl c) sl fun x c => ofR (fb sl c) sl fun y c => ofR (fd sl c) sl fun z c => .ok (.nx (((sl.set i (some x)).set j (some y)).set l (some z))) c) := by
  have hi' : X.N[i]? = some x := by rw [E.N]; exact hi
  have hj' : X.N[j]? = some y := by rw [E.N]; exact hj
  have hl' : X.N[l]? = some z := by rw [E.N]; exact hl
  refine (ps_par3 E.calm E.nd hi' hj' hl' hij hil hjl (by rw [E.sc]; exact kindB_iff.mp hx) (by rw [E.sc]; exact kindB_iff.mp hy) (by rw [E.sc]; exact kindB_iff.mp hz) (pa_cons ha (pa_cons hb (pa_cons hd pa_nil (star_ns nd _ _)) (star_ns nb _ _)) (star_ns na _ _)) hw rfl).weak fun D σ H ⟨ω, sl, c, sr, rel, p⟩ => (postS_bind sr rel p).mono fun v H1 ⟨ω1, c1, d, l1, sr1, rel1, rx, p1⟩ => (postS_bind sr1 rel1 p1).mono fun w H2 ⟨ω2, c2, d2, l2, sr2, rel2, ry, p2⟩ => (postS_bind sr2 rel2 p2).mono fun u H3 ⟨ω3, c3, d3, l3, sr3, rel3, rz, p3⟩ => ?_
  exact ⟨v, w, u, rfl, p3 ω3 _ H3 .rfl (((sr3.set i ((rx.mono l2.toLo).mono l3.toLo)).set j (ry.mono l3.toLo)).set l rz) rel3⟩
theorem snds_expr {e : Expr} {f : Sl → Ct → Res D} (he : PE X e (liftE X.K X.mg W f)) (h1 : isCompB e = false) : PS X (.Expr e pos) (liftS X.K X.mg W fun sl c => ofR (f sl c) sl fun _ c => .ok (.nx sl) c) :=
  (ps_expr he (swaps_no h1 _ _ _)).weak fun D σ H ⟨ω, sl, c, sr, rel, p⟩ => (postS_bind sr rel p).mono fun x H1 ⟨ω1, c1, d, l1, sr1, rel1, rx, p1⟩ => p1 ω1 σ H1 .rfl sr1 rel1
theorem snds_ret {e : Expr} {f : Sl → Ct → Res D} (he : PE X e (liftE X.K X.mg W f)) : PS X (.Return (some e) pos) (liftS X.K X.mg W fun sl c => ofR (f sl c) sl fun d c => .ok (.rt d sl) c) :=
  (ps_ret he).weak fun D σ H ⟨ω, sl, c, sr, rel, p⟩ => (postS_bind sr rel p).mono fun x H1 ⟨ω1, c1, d, l1, sr1, rel1, rx, p1⟩ => p1 ω1 x H1 .rfl rel1 rx
theorem snds_if {c : Expr} {a b : List Stmt} {fq : Sl → Ct → Res Bool} {f g : Sl → Ct → RS} (hc : PT X c (liftT X.K X.mg W fq)) (ha : PSs X a (liftS X.K X.mg W f)) (hb : PSs X b (liftS X.K X.mg W g)) : PS X (.If c a b pos) (liftS X.K X.mg W fun sl c => ofR (fq sl c) sl fun k c => if k = true then f sl c else g sl c) :=
  (ps_if hc ha hb).weak fun D σ H ⟨ω, sl, c, sr, rel, p⟩ => (postS_bind (ρ := fun _ a b => a = b) sr rel p).mono fun x H1 ⟨ω1, c1, d, l1, sr1, rel1, rx, p1⟩ => by
    subst rx
    cases d with
    | true => rw [if_pos rfl] at p1 ⊢; exact ⟨ω1, sl, c1, sr1, rel1, p1⟩
    | false => rw [if_neg (by decide)] at p1 ⊢; exact ⟨ω1, sl, c1, sr1, rel1, p1⟩
theorem snds_whl (E : EOk G call k X Γ W) {c : Expr} {body : List Stmt} {fq : Sl → Ct → Res Bool} {f : Sl → Ct → RS} (hc : PT X c (liftT X.K X.mg W fq)) (hb : PSs X body (liftS X.K X.mg W f)) : PS X (.While c body [] pos) (liftS X.K X.mg W (whR fq f)) := by
  refine (ps_while E.own hc hb).weak fun D σ H ⟨ω, sl, c, sr, rel, p⟩ => ?_
  have hne : whR fq f sl c ≠ .stuck := fun z => by rw [z] at p; exact p
  obtain ⟨n, hn⟩ := whR_get hne
  refine ⟨fun n σ H => ∃ ω sl c r, SR X.K X.mg ω sl σ ∧ Rel X.K X.mg ω c H ∧ whN fq f n sl c = some r ∧ PostS X.K X.mg ω W D r, ⟨n, ω, sl, c, _, sr, rel, hn, p⟩, ?_⟩
  rintro n σ H ⟨ω, sl, c, r, sr, rel, hn, p⟩
  cases n with
  | zero => cases hn
  | succ n =>
    unfold whN at hn
    refine ⟨ω, sl, c, sr, rel, ?_⟩
    cases hq : fq sl c with
    | stuck => rw [hq] at hn; cases hn; exact p.elim
    | exc x c' =>
      rw [hq] at hn
      cases hn
      exact fun ω' H' cls dd l rel' rx => p ω' σ H' cls dd l (sr.mono l.toLo) rel' rx
    | ok b c1 =>
      rw [hq] at hn
      intro ω1 b' H1 l1 rel1 e
      subst e
      cases b with
      | false =>
        cases hn
        rw [if_neg (by decide)]
        exact p ω1 σ H1 l1 (sr.mono l1.toLo) rel1
      | true =>
        rw [if_pos rfl]
        simp only at hn
        cases hf : f sl c1 with
        | stuck => rw [hf] at hn; cases hn; exact p.elim
        | ok fl c2 =>
          rw [hf] at hn
          refine ⟨fun σ' H' => ∃ ω sl c r, SR X.K X.mg ω sl σ' ∧ Rel X.K X.mg ω c H' ∧ whN fq f n sl c = some r ∧ PostS X.K X.mg ω W D r, fun σ' H' h => ⟨n, Nat.lt_succ_self n, h⟩, ω1, sl, c1, sr.mono l1.toLo, rel1, ?_⟩
          rw [hf]
          have p := PostS.le p l1
          cases fl with
          | nx s => exact fun ω' σ' H' l s' rel' => ⟨ω', s, c2, r, s', rel', hn, PostS.le p l⟩
          | ct s => exact fun ω' σ' H' l s' rel' => ⟨ω', s, c2, r, s', rel', hn, PostS.le p l⟩
          | bk s => cases hn; exact p
          | rt d s => cases hn; exact p
          | ex x s => cases hn; exact p
theorem snds_for (E : EOk G call k X Γ W) {t : IT} {tg it : Expr} {body : List Stmt} {fi : Sl → Ct → Res (List D)} {f : Sl → Ct → RS} (hg : PG X tg (gT X.K X.mg t)) (hi : PI X tg it (liftI X.K X.mg W fi)) (hn : isSetB it = false) (hb : PSs X body (liftS X.K X.mg W f)) :
    PS X (.For tg it body [] pos) (liftS X.K X.mg W fun sl c => ofR (fi sl c) sl fun its c => forR (asT t) f its sl c) := by
  refine (ps_for E.own E.calm hi hg hb (fold_ns hn _)).weak fun D σ H ⟨ω, sl, c, sr, rel, p⟩ => (postS_bind (ρ := fun ω ds J => Walks X.K X.mg ω J ds) sr rel p).mono fun J H1 ⟨ω1, c1, its, l1, sr1, rel1, wk, p1⟩ => ?_
  refine ⟨fun i m σ H => i + m = its.length ∧ ∃ ω sl c, ω1.lo ω ∧ SR X.K X.mg ω sl σ ∧ Rel X.K X.mg ω c H ∧ PostS X.K X.mg ω W D (forR (asT t) f (its.drop i) sl c), ⟨its.length, by omega, ω1, sl, c1, .rfl, sr1, rel1, p1⟩, ?_⟩
  rintro i m σ H ⟨him, ω, sl, c, lo, sr, rel, p⟩
  by_cases hi : i < its.length
  · have hd : its[i]? = some its[i] := List.getElem?_eq_getElem hi
    have hdrop : its.drop i = its[i] :: its.drop (i + 1) := List.drop_eq_getElem_cons hi
    rw [hdrop] at p
    unfold forR at p
    cases ht : asT t its[i] sl with
    | none => rw [ht] at p; exact p.elim
    | some sl' =>
      rw [ht] at p
      simp only at p
      refine .inr ⟨wk.go i ω c H lo rel hi, fun σ' H' => i + 1 + (m - 1) = its.length ∧ ∃ ω sl c, ω1.lo ω ∧ SR X.K X.mg ω sl σ' ∧ Rel X.K X.mg ω c H' ∧ PostS X.K X.mg ω W D (forR (asT t) f (its.drop (i + 1)) sl c), fun σ' H' h => ⟨m - 1, by omega, h⟩, fun x H' hy => ?_⟩
      obtain ⟨ω2, l2, rel2, r2⟩ := wk.yld i ω c H x H' its[i] lo rel hd hy
      refine ⟨ω2, sl, c, its[i], sl', sr.mono l2.toLo, rel2, r2, ht, fun σ3 s3 _ => ⟨ω2, sl', c, s3, rel2, ?_⟩⟩
      have p := PostS.le p l2
      cases hf : f sl' c with
      | stuck => rw [hf] at p; exact p
      | ok fl c2 =>
        rw [hf] at p
        cases fl with
        | nx s => exact fun ω' σ' H' l s' rel' => ⟨by omega, ω', s, c2, (lo.trans l2.toLo).trans l.toLo, s', rel', PostS.le p l⟩
        | ct s => exact fun ω' σ' H' l s' rel' => ⟨by omega, ω', s, c2, (lo.trans l2.toLo).trans l.toLo, s', rel', PostS.le p l⟩
        | bk s => exact p
        | rt d s => exact p
        | ex x s => exact p
  · have e0 : i = its.length := by omega
    subst e0
    rw [List.drop_length] at p
    unfold forR at p
    exact .inl ⟨wk.stop ω c H lo rel, p ω σ H .rfl sr rel⟩

/-! ### o[i] = e; x op= e -/
def putK (sl : Sl) (x y d : D) (c : Ct) : RS := match putD x y d c with
  | some c => .ok (.nx sl) c
  | none => .stuck
theorem pg_put {x y : Expr} {fo fi : Sl → Ct → Res D} (hs : isSliceB y = false) (ho : PE X x (liftE X.K X.mg W fo)) (hi : PE X y (liftE X.K X.mg W fi)) : PG X (.Subscript x y pos) (gSub (liftE X.K X.mg W fo) (liftE X.K X.mg W fi) rSetL) := by
  refine pg_sub ho hi set_list fun v => ?_
  clear hi
  cases y <;> first | rfl | cases hs
theorem snds_put {x y z : Expr} {p0 : Pos} {fo fi fe : Sl → Ct → Res D} (hs : isSliceB y = false) (ho : PE X x (liftE X.K X.mg W fo)) (hi : PE X y (liftE X.K X.mg W fi)) (he : PE X z (liftE X.K X.mg W fe)) :
    PS X (.Assign [.Subscript x y p0] z pos) (liftS X.K X.mg W fun sl c => ofR (fe sl c) sl fun d c => ofR (fo sl c) sl fun x c => ofR (fi sl c) sl fun y c => putK sl x y d c) :=
  (ps_asg he (pg_put hs ho hi) (by show swapsWith z (some (.Subscript x y p0)) pos.line X.env = pure false; exact swaps_sub) (swapped_no (by rfl) _) (by rw [assign_ns (by rfl)]; rfl)).weak fun D σ H ⟨ω, sl, c, sr, rel, p⟩ => (postS_bind sr rel p).mono fun v H1 ⟨ω1, c1, d, l1, sr1, rel1, rx, p1⟩ => (postS_bind sr1 rel1 p1).mono fun o H2 ⟨ω2, c2, do', l2, sr2, rel2, ro, p2⟩ =>
    (postS_bind sr2 rel2 p2).mono fun i H3 ⟨ω3, c3, di, l3, sr3, rel3, ri, p3⟩ => by
      unfold putK at p3
      cases e : putD do' di d c3 with
      | none => rw [e] at p3; exact p3.elim
      | some c4 =>
        rw [e] at p3
        cases do' with
        | ref n =>
          cases di with
          | int kk =>
            dsimp only [putD] at e
            cases hc : c3[n]? with
            | none => rw [hc] at e; cases e
            | some u =>
              rw [hc] at e
              cases u with
              | lst xs =>
                dsimp only at e
                cases hj : ixN xs.length kk with
                | none => rw [hj] at e; cases e
                | some j =>
                  rw [hj] at e
                  cases e
                  have ro := ro.mono l3.toLo
                  cases ro with
                  | ref hm =>
                  cases ri
                  obtain ⟨k1, k2⟩ := rel3.live _ _ _ hm hc (by intro z; cases z)
                  unfold COk at k2
                  split at k2
                  · rename_i z; cases z
                  · rename_i us vs z1 z2
                    cases z1
                    refine ⟨_, vs, kk, j, rfl, rfl, z2, by rw [← k2.length]; exact hj, p3 ω3 σ _ .rfl sr3 ?_⟩
                    exact rel3.write hm hc (by intro z; cases z) (o := .lst (vs.set j v)) (Rs.set (rx.mono (l2.toLo.trans l3.toLo)) j k2)
                  · rename_i z _; cases z
                  · rename_i z _; cases z
                  · rename_i z _; cases z
                  · exact k2.elim
              | dead => cases e
              | ins _ _ => cases e
              | dct _ => cases e
          | _ => cases e
        | _ => cases e
theorem iop_mulX : OpR X (inplaceOp .Mult) (rI CMulW fun i j => .int (i * j)) := opI fun _ _ _ _ _ _ _ hc q => imul_int q hc.ok
theorem iop_fdivX : OpR X (inplaceOp .FloorDiv) (rI (fun _ j => j ≠ 0 ∧ j.natAbs.log2 < 9000) fun i j => .int (i.fdiv j)) := opI fun _ _ _ _ _ _ _ hc q => ifloordiv_int hc.1 q (.inl (PyProof.noPylong_of_log2 hc.2))
theorem iop_modX : OpR X (inplaceOp .Mod) (rI (fun _ j => j ≠ 0) fun i j => .int (i.fmod j)) := opI fun _ _ _ _ _ _ _ hc q => imod_int hc q
/-- in place: of ints, of texts -/
theorem op_ip (o : BOp) (ho : o ≠ .pow) : PIp X (opOf o) (rOp X.K X.mg (augD o)) := by
  intro pins s σ H x y v u Q I rv ru ⟨ω, dx, dy, c, W, σ', rel, rx, ry, p⟩
  unfold augD at p
  split at p
  · cases rx; cases ry
    rw [if_neg ho] at p
    cases o
    · exact iop_add pins s σ H _ _ v u Q I rv ru ⟨_, _, rfl, rfl, p.ok_of rel (.int _)⟩
    · exact iop_sub pins s σ H _ _ v u Q I rv ru ⟨_, _, rfl, rfl, p.ok_of rel (.int _)⟩
    · dsimp only [binI] at p
      split at p
      · rename_i h
        exact iop_mulX pins s σ H _ _ v u Q I rv ru ⟨_, _, rfl, rfl, h, p.ok_of rel (.int _)⟩
      · exact p.elim
    · dsimp only [binI] at p
      split at p
      · rename_i h
        exact iop_fdivX pins s σ H _ _ v u Q I rv ru ⟨_, _, rfl, rfl, h, p.ok_of rel (.int _)⟩
      · exact p.elim
    · dsimp only [binI] at p
      split at p
      · rename_i h
        exact iop_modX pins s σ H _ _ v u Q I rv ru ⟨_, _, rfl, rfl, h, p.ok_of rel (.int _)⟩
      · exact p.elim
    · exact absurd rfl ho
  · cases rx; cases ry
    split at p
    · rename_i h
      obtain ⟨rfl, h⟩ := h
      exact iop_add_str pins s σ H _ _ v u Q I rv ru ⟨_, _, rfl, rfl, Nat.le_trans h (by rw [sizeLine_eq]; decide), p.ok_of rel (.str _)⟩
    · exact p.elim
  · exact p.elim
def augK (i : Nat) (sl : Sl) (z : D) (c : Ct) : RS := .ok (.nx (sl.set i (some z))) c
def augF (o : BOp) (i : Nat) (f : Sl → Ct → Res D) (sl : Sl) (c : Ct) : RS := match sl[i]? with
  | some (some x) => ofR (f sl c) sl fun y c => ofR (augD o x y c) sl fun z c => .ok (.nx (sl.set i (some z))) c
  | _ => .stuck
theorem snds_aug (E : EOk G call k X Γ W) {i : Nat} {o : BOp} {x : Str} {e : Expr} {p0 : Pos} {f : Sl → Ct → Res D} (h1 : Γ.N[i]? = some x) (h2 : kindB Γ.sc x .local = true ∨ (kindB Γ.sc x .cell = true ∧ Γ.fn x = true)) (h3 : okName x = true) (ho : o ≠ .pow) (he : PE X e (liftE X.K X.mg W f)) :
    PS X (.AugAssign (.Name x p0) (opOf o) e pos) (liftS X.K X.mg W (augF o i f)) := by
  obtain ⟨e1, e2, e3⟩ := okName_d h3
  have hl : Loc X.env.scope x := by
    rw [E.sc]
    rcases h2 with h2 | h2
    · exact .inl (kindB_iff.mp h2)
    · exact .inr (kindB_iff.mp h2.1)
  have hf : X.fn x = true ∨ X.env.scope.names.lookup x = some .local := by
    rw [E.sc]
    rcases h2 with h2 | h2
    · exact .inr (kindB_iff.mp h2)
    · exact .inl (E.fn x h2.2)
  refine PS.weak (ps_aug (i := i) E.nd (by rw [E.N]; exact h1) hl he (op_ip o ho) hf) fun D σ H ⟨ω, sl, c, sr, rel, p⟩ => ?_
  unfold augF at p
  cases h : sl[i]? with
  | none => rw [h] at p; exact p.elim
  | some q =>
    cases q with
    | none => rw [h] at p; exact p.elim
    | some d =>
      rw [h] at p
      obtain ⟨v, hv, r⟩ := sr.get i d h
      refine ⟨v, hv, (postS_bind sr rel p).mono fun y H1 ⟨ω1, c1, dy, l1, sr1, rel1, ry, p1⟩ => ?_⟩
      refine ⟨ω1, d, dy, c1, W, σ, rel1, r.mono l1.toLo, ry, ?_⟩
      cases hb : augD o d dy c1 with
      | stuck => rw [hb] at p1; exact p1
      | exc x c => rw [hb] at p1; exact fun ω' H' cls dd l rel' rx => p1 ω' σ H' cls dd l (sr1.mono l.toLo) rel' rx
      | ok z c2 =>
        rw [hb] at p1
        exact fun ω' w H' l rel' rz => p1 ω' _ H' l ((sr1.mono l.toLo).set i rz) rel'

/-! ### xs[i] op= e -/
def rGetA : V → V → Hp → VK → Prop := fun x i H Q => ∃ p xs k v, x = .ref p ∧ i = .int k ∧ H p = some (.lst xs) ∧ 0 ≤ k ∧ xs[k.toNat]? = some v ∧ Q v H
theorem get_listA : PGet X rGetA := by
  rintro pins s σ H o i ov iv Q I ro ri ⟨p, xs, k, v, rfl, rfl, hp, h0, hv, q⟩
  cases ro
  obtain ⟨t, rfl⟩ := ri
  obtain ⟨its, n, r, ho, hz⟩ := I.lst hp
  obtain ⟨u, hu, ru⟩ := r.get hv
  have hlt : k.toNat < xs.length := (List.getElem?_eq_some_iff.mp hv).1
  have hn := line63
  exact wpAny_getItem_list (items := its.toArray) ⟨_, ho, rfl, n, rfl⟩ h0 (by omega) (by simpa using hu) ⟨v, H, I, ru, q⟩
def augIK (op : BOp) (e : Sl → Ct → Res D) (sl : Sl) (x y : D) (c : Ct) : RS := ofR (getA x y c) sl fun u c => ofR (e sl c) sl fun v c => ofR (augD op u v c) sl fun z c => putK sl x y z c
theorem augD_ne {o : BOp} {x y : D} {c c' : Ct} {z : XD} : augD o x y c ≠ .exc z c' := by
  unfold augD
  split
  · split
    · intro h; cases h
    · unfold binI
      split
      · intro h; cases h
      · intro h; cases h
      · split <;> (intro h; cases h)
      · split <;> (intro h; cases h)
      · split <;> (intro h; cases h)
      · split <;> (intro h; cases h)
  · split <;> (intro h; cases h)
  · intro h; cases h
theorem snds_augI {x y z : Expr} {p0 : Pos} {op : BOp} (hop : op ≠ .pow) {fo fi fe : Sl → Ct → Res D} (hs : isSliceB y = false) (ho : PE X x (liftE X.K X.mg W fo)) (hi : PE X y (liftE X.K X.mg W fi)) (he : PE X z (liftE X.K X.mg W fe)) :
    PS X (.AugAssign (.Subscript x y p0) (opOf op) z pos) (liftS X.K X.mg W fun sl c => ofR (fo sl c) sl fun x c => ofR (fi sl c) sl fun y c => augIK op fe sl x y c) := by
  refine (ps_augS (tget := rGetA) ho hi get_listA he (op_ip op hop) set_list (fun ov iv new => by cases y <;> first | rfl | cases hs)).weak fun D σ H ⟨ω, sl, c, sr, rel, p⟩ => (postS_bind sr rel p).mono fun o H1 ⟨ω1, c1, dO, l1, sr1, rel1, ro, p1⟩ => (postS_bind sr1 rel1 p1).mono fun i H2 ⟨ω2, c2, dI, l2, sr2, rel2, ri, p2⟩ => ?_
  unfold augIK at p2
  cases dO with
  | ref n =>
    cases dI with
    | int k =>
      unfold getA at p2
      dsimp only at p2
      cases hc : c2[n]? with
      | none => rw [hc] at p2; exact p2.elim
      | some u =>
        rw [hc] at p2
        cases u with
        | lst xs =>
          dsimp only at p2
          by_cases h0 : 0 ≤ k
          · rw [if_pos h0] at p2
            cases hx : xs[k.toNat]? with
            | none => rw [hx] at p2; exact p2.elim
            | some d =>
              rw [hx] at p2
              have ro := ro.mono l2.toLo
              cases ro with
              | ref hm =>
              cases ri
              obtain ⟨k1, k2⟩ := rel2.live _ _ _ hm hc (by intro z; cases z)
              unfold COk at k2
              split at k2
              · rename_i z; cases z
              · rename_i us vs z1 z2
                cases z1
                obtain ⟨v, hv, rv⟩ := k2.get hx
                refine ⟨_, vs, k, v, rfl, rfl, z2, h0, hv, ?_⟩
                refine (postS_bind sr2 rel2 p2).mono fun y H4 ⟨ω4, c4, dy, l4, sr4, rel4, ry, p4⟩ => ?_
                refine ⟨ω4, d, dy, c4, W, σ, rel4, rv.mono l4.toLo, ry, ?_⟩
                cases hb : augD op d dy c4 with
                | stuck => rw [hb] at p4; exact p4
                | exc x c => exact absurd hb augD_ne
                | ok z c5 =>
                  rw [hb] at p4
                  intro ω5 w H5 l5 rel5 rz
                  have p5 := PostS.le p4 l5
                  unfold ofR putK at p5
                  dsimp only at p5
                  cases e : putD (.ref n) (.int k) z c5 with
                  | none => rw [e] at p5; exact p5.elim
                  | some c6 =>
                    rw [e] at p5
                    dsimp only [putD] at e
                    cases hc5 : c5[n]? with
                    | none => rw [hc5] at e; cases e
                    | some u =>
                      rw [hc5] at e
                      cases u with
                      | lst ys =>
                        dsimp only at e
                        cases hj : ixN ys.length k with
                        | none => rw [hj] at e; cases e
                        | some j =>
                          rw [hj] at e
                          cases e
                          have hm5 := (l4.trans l5).m _ _ hm
                          obtain ⟨k1, k2⟩ := rel5.live _ _ _ hm5 hc5 (by intro z; cases z)
                          unfold COk at k2
                          split at k2
                          · rename_i z; cases z
                          · rename_i us' vs' z1' z2'
                            cases z1'
                            refine ⟨_, vs', k, j, rfl, rfl, z2', by rw [← k2.length]; exact hj, p5 ω5 σ _ .rfl (sr4.mono l5.toLo) ?_⟩
                            exact rel5.write hm5 hc5 (by intro z; cases z) (o := .lst (vs'.set j w)) (Rs.set rz j k2)
                          · rename_i z _; cases z
                          · rename_i z _; cases z
                          · rename_i z _; cases z
                          · exact k2.elim
                      | dead => cases e
                      | ins _ _ => cases e
                      | dct _ => cases e
              · rename_i z _; cases z
              · rename_i z _; cases z
              · rename_i z _; cases z
              · exact k2.elim
          · rw [if_neg h0] at p2
            exact p2.elim
        | dead => exact p2.elim
        | ins _ _ => exact p2.elim
        | dct _ => exact p2.elim
    | _ => exact p2.elim
  | _ => exact p2.elim

/-! ### o.f = e -/
theorem rf_put {K : PySem.W.Frag} {mg : Str → Option Value} {ω : Wd} {f : Str} {d : D} {v : V} (h : R K mg ω d v) : ∀ {fs : List (Str × D)} {gs : List (Str × V)}, Rf K mg ω fs gs → Rf K mg ω (putF' f d fs) (putF f v gs)
  | [], _, .nil => .cons h .nil
  | (g, e) :: r, _, .cons (v := u) (vs := us) q t => by
    unfold putF' putF
    by_cases hg : g = f
    · rw [if_pos hg, if_pos hg, ← hg]
      exact .cons h t
    · rw [if_neg hg, if_neg hg]
      exact .cons q (rf_put h t)
theorem rf_len {K : PySem.W.Frag} {mg : Str → Option Value} {ω : Wd} : ∀ {fs : List (Str × D)} {gs : List (Str × V)}, Rf K mg ω fs gs → fs.length = gs.length
  | _, _, .nil => rfl
  | _, _, .cons _ t => by simp [rf_len t]
def gX (K : PySem.W.Frag) (mg : Str → Option Value) (t : XT) : TG := fun v σ H Q => ∃ ω sl c d sl' c', SR K mg ω sl σ ∧ Rel K mg ω c H ∧ R K mg ω d v ∧ xtD t d sl c = some (sl', c') ∧ ∀ ω' σ' H', ω.le ω' → SR K mg ω' sl' σ' → Rel K mg ω' c' H' → Q σ' H'
def gXs (K : PySem.W.Frag) (mg : Str → Option Value) (ts : List XT) : TGs := fun vs σ H Q => ∃ ω sl c ds sl' c', SR K mg ω sl σ ∧ Rel K mg ω c H ∧ Rs K mg ω ds vs ∧ xtsD ts ds sl c = some (sl', c') ∧ ∀ ω' σ' H', ω.le ω' → SR K mg ω' sl' σ' → Rel K mg ω' c' H' → Q σ' H'
def gAttr (K : PySem.W.Frag) (ta : TE) (f : Str) : TG := fun v σ H Q => ta σ H fun x H2 => ∃ a C dx fs, x = .ref a ∧ H2 a = some (.ins C dx fs) ∧ Cls K C ∧ NoAttr K C f ∧ fs.length < 1000 ∧ Q σ (upd H2 a (.ins C dx (putF f v fs)))
theorem pg_attr {o : Expr} {f : Str} {ta : TE} (ha : PE X o ta) : PG X (.Attribute o f pos) (gAttr X.K ta f) := by
  refine ⟨fun pins s σ H v u Q I r h => ?_⟩
  rw [assign_Attribute]
  refine wpAny_bind (wpAny_holding (thn (ha.run pins s σ H _ I h) fun ov s2 ⟨x, H2, I2, rx, a, C, dx, fs, ex, ea, c, n, l, q2⟩ => ?_))
  subst ex
  obtain rfl : ov = Value.ref a := rx
  refine wpAny_bind (wpAny_standAt (wpAny_bind (wpAny_holding (setattr_ok I2 ea c n l r fun s3 I3 => wpAny_release ⟨σ, _, I3, q2⟩))))
theorem pg_X (E : EOk G call k X Γ W) {t : XT} {e : Expr} (h : chkX1 G Γ t e = true) : PG X e (gX X.K X.mg t) := by
  cases t with
  | nm _ => cases e <;> cases h
  | fl i C f =>
    cases e <;> first | (cases h; done) | skip
    rename_i o f' pos
    simp only [chkX1, Bool.and_eq_true, decide_eq_true_eq] at h
    obtain ⟨⟨rfl, h1⟩, h2⟩ := h
    obtain ⟨cc, g1, g2, g3⟩ := E.g.fld C f' h1
    refine (pg_attr (snd_E h2 E)).weak fun v σ H Q ⟨ω, sl, c, d, sl', c', sr, rel, r, e, q⟩ => ⟨ω, sl, c, sr, rel, ?_⟩
    unfold xtD at e
    dsimp only at e
    cases hi : sl[i]? with
    | none => rw [hi] at e; cases e
    | some z =>
      rw [hi] at e
      cases z with
      | none => cases e
      | some x =>
        dsimp only at e
        cases hst : stoD C f' x d c with
        | none => rw [hst] at e; cases e
        | some c2 =>
          rw [hst] at e
          cases e
          obtain ⟨u, hu, ru⟩ := sr.get i x hi
          have hev : evE call (.var i) sl c = varK (some (some x)) c := by
            show evM call false (.var i) sl c = _
            rw [evM, hi]
            rfl
          unfold stoD at hst
          cases x with
          | ref n =>
            dsimp only at hst
            cases hc : c[n]? with
            | none => rw [hc] at hst; cases hst
            | some w =>
              rw [hc] at hst
              cases w with
              | ins C' fs =>
                dsimp only at hst
                split at hst
                · rename_i hC
                  obtain ⟨rfl, hlen⟩ := hC
                  cases hst
                  rw [hev]
                  intro ω1 w H1 l1 rel1 rw1
                  cases rw1 with
                  | ref hm1 =>
                  obtain ⟨k1, k2⟩ := rel1.live _ _ _ hm1 hc (by intro z; cases z)
                  unfold COk at k2
                  split at k2
                  · rename_i z; cases z
                  · rename_i z _; cases z
                  · rename_i C2 fs2 cc2 dx gs z1 z2
                    cases z1
                    obtain ⟨k2, k3⟩ := k2
                    rw [g1] at k2
                    cases k2
                    exact ⟨_, _, dx, gs, rfl, z2, g2, g3, by rw [← rf_len k3]; exact hlen, q ω1 σ _ l1 (sr.mono l1.toLo) (rel1.write hm1 hc (by intro z; cases z) (o := .ins _ dx (putF f' v gs)) ⟨g1, rf_put (r.mono l1.toLo) k3⟩)⟩
                  · rename_i z _; cases z
                  · rename_i z _; cases z
                  · exact k2.elim
                · cases hst
              | _ => cases hst
          | _ => cases hst
theorem pgs_X (E : EOk G call k X Γ W) : ∀ {ts : List XT} {es : List Expr}, chkXs G Γ ts es = true → PGs X es (gXs X.K X.mg ts)
  | [], [], _ => pgs_nil.weak fun v σ H Q ⟨ω, sl, c, ds, sl', c', sr, rel, rs, e, k⟩ => by
    cases ds with
    | nil =>
      unfold xtsD at e
      cases e
      cases rs
      exact ⟨rfl, k ω σ H .rfl sr rel⟩
    | cons d ds => unfold xtsD at e; cases e
  | t :: ts, e :: es, h => by
    unfold chkXs at h
    simp only [Bool.and_eq_true] at h
    obtain ⟨⟨h0, h1⟩, h2⟩ := h
    have hns : notStarB e = true := by cases e <;> first | rfl | cases h0
    refine (pgs_cons (pg_X E h1) (pgs_X E h2) (by rw [assign_ns hns]; rfl)).weak fun v σ H Q ⟨ω, sl, c, ds, sl', c', sr, rel, rs, e, k⟩ => ?_
    cases ds with
    | nil => unfold xtsD at e; cases e
    | cons d ds =>
      unfold xtsD at e
      cases e1 : xtD t d sl c with
      | none => rw [e1] at e; cases e
      | some z =>
        obtain ⟨sl1, c1⟩ := z
        rw [e1] at e
        cases rs with
        | cons r rs =>
        refine ⟨_, _, rfl, ω, sl, c, d, sl1, c1, sr, rel, r, e1, fun ω1 σ1 H1 l1 s1 rel1 => ?_⟩
        exact ⟨ω1, sl1, c1, ds, sl', c', s1, rel1, rs.mono l1.toLo, e, fun ω2 σ2 H2 l2 s2 rel2 => k ω2 σ2 H2 (l1.trans l2) s2 rel2⟩
  | [], _ :: _, h => by unfold chkXs at h; cases h
  | _ :: _, [], h => by unfold chkXs at h; cases h
theorem xts_ns {G : GE} {Γ : SE} : ∀ {ts : List XT} {es : List Expr}, chkXs G Γ ts es = true → es.all isAttrB = true ∧ es.all notStarB = true ∧ ts.length = es.length
  | [], [], _ => ⟨rfl, rfl, rfl⟩
  | t :: ts, e :: es, h => by
    unfold chkXs at h
    simp only [Bool.and_eq_true] at h
    obtain ⟨q1, q2, q3⟩ := xts_ns h.2
    have hns : notStarB e = true := by cases e <;> first | rfl | cases h.1.1
    exact ⟨by rw [List.all_cons, h.1.1, q1]; rfl, by rw [List.all_cons, hns, q2]; rfl, by simp [q3]⟩
  | [], _ :: _, h => by unfold chkXs at h; cases h
  | _ :: _, [], h => by unfold chkXs at h; cases h
theorem xtsD_len : ∀ {ts : List XT} {ds : List D} {sl : Sl} {c : Ct} {z : Sl × Ct}, xtsD ts ds sl c = some z → ds.length = ts.length
  | [], [], _, _, _, _ => rfl
  | t :: ts, d :: ds, sl, c, z, h => by
    unfold xtsD at h
    cases e : xtD t d sl c with
    | none => rw [e] at h; cases h
    | some s =>
      rw [e] at h
      have := xtsD_len (show xtsD ts ds s.1 s.2 = some z from h)
      simp [this]
  | [], _ :: _, _, _, _, h => by unfold xtsD at h; cases h
  | _ :: _, [], _, _, _, h => by unfold xtsD at h; cases h
theorem attr_names {env : Env} {l : Nat} : ∀ {es : List Expr}, es.all isAttrB = true → es.filterMap (fun | .Name id pos => if env.kindOf id == some .local && pos.line == l then some id else none | _ => none) = []
  | [], _ => rfl
  | e :: es, h => by
    rw [List.all_cons, Bool.and_eq_true] at h
    cases e <;> first | (cases h.1; done) | skip
    rw [List.filterMap_cons]
    exact attr_names h.2
theorem swapped_attr {es : List Expr} {kk : Nat} {pt : Pos} {e : Expr} {env : Env} (h : es.all isAttrB = true) (hn : es ≠ []) : swappedStores [.Tuple es kk pt] e env = pure none := by
  cases e <;> first | rfl | skip
  rename_i vs k2 p2
  unfold swappedStores
  dsimp only
  by_cases c1 : (!(es.length == 2 || es.length == 3) || vs.length != es.length || env.blockKind != .function) = true
  · rw [if_pos c1]
  · rw [if_neg c1]
    split
    · rfl
    · split
      · rfl
      · rename_i z
        refine absurd ?_ z
        have q : ∀ l : List Str, l = [] → (l.length != es.length || l.eraseDups.length != l.length) = true := fun l hl => by
          rw [hl]
          have : ([] : List Str).length ≠ es.length := fun z => hn (List.length_eq_zero_iff.mp z.symm)
          have h2 : (([] : List Str).length != es.length) = true := by simpa using this
          rw [h2]
          rfl
        exact q _ (attr_names h)
theorem snds_sto (E : EOk G call k X Γ W) {ts : List XT} {tg e : Expr} {f : Sl → Ct → Res D} (hg : chkX G Γ ts tg = true) (he : PE X e (liftE X.K X.mg W f)) : PS X (.Assign [tg] e pos) (liftS X.K X.mg W fun sl c => ofR (f sl c) sl (stoK ts sl)) := by
  have one : ∀ {t : XT}, isAttrB tg = true → chkX1 G Γ t tg = true → PS X (.Assign [tg] e pos) (liftS X.K X.mg W fun sl c => ofR (f sl c) sl (stoK [t] sl)) := fun {t} ha ht => by
    have hns : notStarB tg = true := by cases tg <;> first | rfl | cases ha
    refine (ps_asg he (pg_X E ht) (by show swapsWith e (some tg) pos.line X.env = pure false; cases tg <;> first | exact swaps_attr | cases ha) (by cases tg <;> first | rfl | cases ha) (by rw [assign_ns hns]; rfl)).weak fun D σ H ⟨ω, sl, c, sr, rel, p⟩ => (postS_bind sr rel p).mono fun x H1 ⟨ω1, c1, d, l1, sr1, rel1, rx, p1⟩ => ?_
    unfold stoK at p1
    dsimp only at p1
    cases e2 : xtD t d sl c1 with
    | none => rw [e2] at p1; exact p1.elim
    | some z =>
      obtain ⟨sl', c'⟩ := z
      rw [e2] at p1
      exact ⟨ω1, sl, c1, d, sl', c', sr1, rel1, rx, e2, fun ω' σ' H' l s' r' => p1 ω' σ' H' l s' r'⟩
  by_cases htup : ∃ e0 es kk pt, tg = .Tuple (e0 :: es) kk pt
  · obtain ⟨e0, es, kk, pt, rfl⟩ := htup
    have hg : (decide (2 ≤ ts.length) && chkXs G Γ ts (e0 :: es)) = true := by
      rcases ts with _ | ⟨a, _ | ⟨b, r⟩⟩ <;> exact hg
    simp only [Bool.and_eq_true, decide_eq_true_eq] at hg
    obtain ⟨g0, g1⟩ := hg
    obtain ⟨q1, q2, q3⟩ := xts_ns g1
    obtain ⟨z1, z2⟩ := assign_len (env := X.env) q2
    have hst : ∀ sl d c, stoK ts sl d c = match d with
        | .tup ds => match xtsD ts ds sl c with
          | some (sl, c) => .ok (.nx sl) c
          | none => .stuck
        | _ => .stuck := fun sl d c => by
      rcases ts with _ | ⟨a, _ | ⟨b, r⟩⟩
      · simp at g0
      · simp at g0
      · rfl
    refine (ps_asg he (pg_tup (n := (e0 :: es).length) E.calm (pgs_X E g1) z1 z2) (by show swapsWith e (some (.Tuple (e0 :: es) kk pt)) pos.line X.env = pure false; exact swaps_tup) (swapped_attr q1 (by simp)) rfl).weak fun D σ H ⟨ω, sl, c, sr, rel, p⟩ => (postS_bind sr rel p).mono fun x H1 ⟨ω1, c1, d, l1, sr1, rel1, rx, p1⟩ => ?_
    rw [hst] at p1
    cases d with
    | tup ds =>
      dsimp only at p1
      cases e2 : xtsD ts ds sl c1 with
      | none => rw [e2] at p1; exact p1.elim
      | some z =>
        obtain ⟨sl', c'⟩ := z
        rw [e2] at p1
        cases rx with
        | tup ht rs =>
        refine ⟨_, _, rfl, sq_t rel1.ext ht.sq, ?_, ω1, sl, c1, ds, sl', c', sr1, rel1, rs, e2, fun ω' σ' H' l s' r' => p1 ω' σ' H' l s' r'⟩
        rw [← rs.length, xtsD_len e2, q3]
    | _ => exact p1.elim
  · rcases ts with _ | ⟨t, _ | ⟨t', r⟩⟩
    · cases tg <;> first | (cases hg; done) | skip
      rename_i es kk pt
      cases es with
      | nil => cases hg
      | cons a b => exact absurd ⟨_, _, _, _, rfl⟩ htup
    · have hg : (isAttrB tg && chkX1 G Γ t tg) = true := by
        cases tg <;> first | exact hg | skip
        rename_i es kk pt
        cases es with
        | nil => exact hg
        | cons a b => exact absurd ⟨_, _, _, _, rfl⟩ htup
      simp only [Bool.and_eq_true] at hg
      exact one hg.1 hg.2
    · cases tg <;> first | (cases hg; done) | skip
      rename_i es kk pt
      cases es with
      | nil => cases hg
      | cons a b => exact absurd ⟨_, _, _, _, rfl⟩ htup
theorem rf_append {K : PySem.W.Frag} {mg : Str → Option Value} {ω : Wd} : ∀ {a b : List (Str × D)} {x y : List (Str × V)}, Rf K mg ω a x → Rf K mg ω b y → Rf K mg ω (a ++ b) (x ++ y)
  | _, _, _, _, .nil, s => s
  | _, _, _, _, .cons h t, s => .cons h (rf_append t s)
theorem rf_rev {K : PySem.W.Frag} {mg : Str → Option Value} {ω : Wd} : ∀ {a : List (Str × D)} {x : List (Str × V)}, Rf K mg ω a x → Rf K mg ω a.reverse x.reverse
  | _, _, .nil => .nil
  | _, _, .cons h t => by
    rw [List.reverse_cons, List.reverse_cons]
    exact rf_append (rf_rev t) (.cons h .nil)
theorem flV_rs {K : PySem.W.Frag} {mg : Str → Option Value} {ω : Wd} {ds : List D} {vs : List V} (r : Rs K mg ω ds vs) : ∀ (fl : List (Str × Src)) (fs : List (Str × D)), flV Cst.d ds fl = some fs → ∃ hs, flV Cst.v vs fl = some hs ∧ Rf K mg ω fs hs ∧ fs.map (·.1) = fl.map (·.1)
  | [], fs, h => by
    cases h
    exact ⟨[], rfl, .nil, rfl⟩
  | (f, s) :: t, fs, h => by
    obtain ⟨y, gs, rfl, h2, h3⟩ := flV_cons h
    obtain ⟨hs, q1, q2, q3⟩ := flV_rs r t gs h2
    cases s with
    | arg i =>
      obtain ⟨v, e1, r1⟩ := r.get (show ds[i]? = some y from h3)
      refine ⟨(f, v) :: hs, ?_, .cons r1 q2, by simp [q3]⟩
      unfold flV
      rw [e1, q1]
      rfl
    | dfl c =>
      have e : y = c.d := h3
      subst e
      refine ⟨(f, c.v) :: hs, ?_, .cons c.r q2, by simp [q3]⟩
      unfold flV
      rw [q1]
      rfl
theorem rse_run (E : EOk G call k X Γ W) {C : Str} {n : Nat} {fl : List (Str × Src)} {sup : List (Str × Bool)} {a : Addr} (I : XInfo X.K X.mg C a sup (fl.map (·.1))) {ω : Wd} {ds : List D} {vs : List V} {sl : Sl} {c : Ct} {σ : L2.St} {H : Hp} {D : Ends} (sr : SR X.K X.mg ω sl σ) (rel : Rel X.K X.mg ω c H) (rs : Rs X.K X.mg ω ds vs)
    (p : PostS X.K X.mg ω W D (rseK C n sup fl sl ds c)) : vs.length = n ∧ ∃ hs, flV Cst.v vs fl = some hs ∧ ∀ d, H d = none → W (.ref a) (some d) σ (upd H d (.xd hs.reverse)) := by
  unfold rseK at p
  by_cases hn : ds.length = n
  · rw [if_pos hn] at p
    cases hf : flV Cst.d ds fl with
    | none => rw [hf] at p; exact p.elim
    | some fs =>
      rw [hf] at p
      obtain ⟨hs, h1, h2, h3⟩ := flV_rs rs fl fs hf
      refine ⟨rs.length.symm.trans hn, hs, h1, fun d hd => ?_⟩
      obtain ⟨l, rel'⟩ := rel.frozen hd (.xd hs.reverse)
      refine p _ σ _ (.ref a) (some d) l (sr.mono l.toLo) rel' ⟨a, d, hs.reverse, ⟨I.gC, I.oex, I.xf, I.isx, fun f hf => I.nof f ?_, I.sup⟩, rfl, rfl, upd_same, rf_rev (h2.mono l.toLo)⟩
      have hf : f ∈ (fs.reverse).map (·.1) := hf
      rw [← h3]
      rw [List.map_reverse, List.mem_reverse] at hf
      exact hf
  · rw [if_neg hn] at p
    exact p.elim
theorem snds_rse (E : EOk G call k X Γ W) {C x : Str} {n : Nat} {fl : List (Str × Src)} {sup : List (Str × Bool)} {xs : List Expr} {p0 p1 : Pos} {fr : Sl → Ct → Res (List D)} (h0 : x = C) (h1 : kindB Γ.sc x .globalImplicit = true) (h2 : okName x = true) (h3 : (C, n, fl, sup) ∈ G.excs) (hns : xs.all notStarB = true)
    (hz : xs = [] → ∀ sl c, fr sl c = .ok [] c) (hr : PA X xs (liftA X.K X.mg W fr)) : PS X (.Raise (some (.Call (.Name x p0) xs [] p1)) none pos) (liftS X.K X.mg W fun sl c => ofR (fr sl c) sl (rseK C n sup fl sl)) := by
  subst h0
  obtain ⟨hn, a, fI, fd, ps, I, T⟩ := E.g.exc x n fl sup h3
  have hg : Gl X x := by
    show X.env.scope.names.lookup x = _
    rw [E.sc]
    exact kindB_iff.mp h1
  obtain ⟨e1, _, _⟩ := okName_d h2
  have hroom : Room 2 X.A := E.room.mono (Nat.le_succ_of_le E.two)
  have hx : Passes (L2.CX X.prog X.w) X (fun _ _ _ => False) := passes_call E.takes (fun _ _ _ _ z => z.elim)
  cases xs with
  | nil =>
    refine (ps_raise E.calm E.takes (pmk_x0 T hn hroom hx hg I.gC e1)).weak fun D σ H ⟨ω, sl, c, sr, rel, p⟩ => ?_
    dsimp only at p
    rw [hz rfl] at p
    exact rse_run E I sr rel .nil p
  | cons e es =>
    exact (ps_raise E.calm E.takes (pmk_x T hn hroom hx hg I.gC e1 hr hns)).weak fun D σ H ⟨ω, sl, c, sr, rel, p⟩ => (postS_bind sr rel p).mono fun vs H1 ⟨ω1, c1, ds, l1, sr1, rel1, rs, p1⟩ => rse_run E I sr1 rel1 rs p1
theorem snds_try (E : EOk G call k X Γ W) (S : X.stack = X.env :: X.outer ∧ X.env.frame = some X.env.locals) {x D m : Str} {i : Nat} {hx : List HX} {tg : Option Nat} {st : Stmt} {body : List Stmt} {np pos' : Pos} {f : Sl → Ct → RS} (h0 : x = D) (h1 : D ∈ G.cls) (h2 : kindB Γ.sc x .globalImplicit = true) (h3 : okName x = true) (h4 : locB Γ.N Γ.sc i m = true) (h5 : suiteB G.cls Γ.N Γ.sc i hx tg st = true)
    (hb : ∀ (W' : WX) (pn : List (Addr × Obj)) (xe : Value → Shared → Prop), EOk G call k (X.tr pn xe) Γ W' → PSs (X.tr pn xe) body (liftS X.K X.mg W' f)) :
    PS X (.Try body [.ExceptHandler (some (.Name x np)) (some m) [st] pos'] [] [] pos) (liftS X.K X.mg W fun sl c => tryK D i hx tg (f sl c)) := by
  subst h0
  obtain ⟨v, u, hv⟩ := E.g.cls x h1
  obtain ⟨e1, _, e3⟩ := okName_d h3
  have hg : Gl X x := by
    show X.env.scope.names.lookup x = _
    rw [E.sc]
    exact kindB_iff.mp h2
  unfold locB at h4
  simp only [Bool.and_eq_true, decide_eq_true_eq, Bool.not_eq_true'] at h4
  have hln : X.env.kindOf m = some .local := by
    show X.env.scope.names.lookup m = _
    rw [E.sc]
    exact h4.1.1.2
  have hi : X.N[i]? = some m := by rw [E.N]; exact h4.1.1.1
  have h5' : suiteB G.cls Γ.N X.env.scope i hx tg st = true := by rw [E.sc]; exact h5
  refine (ps_try_as (tb := fun W' => liftS X.K X.mg W' f) (ts := tSuite X.K X.mg i hx tg) S.1 S.2 E.nd hi hln ⟨hg, e1, hv.1⟩ E.takes (fun W' pn xe tk own => hb W' pn xe { g := E.g, N := E.N, nd := E.nd, sc := E.sc, calm := E.calm, kind := E.kind, fn := E.fn, room := E.room, two := E.two, takes := tk, own := own })
    (fun a oe cls d pn hz hf => pss_suite E.N E.nd E.g.cls (E.g.blt .isi) hz hf h5')).weak fun De σ H ⟨ω, sl, c, sr, rel, p⟩ => ⟨ω, sl, c, sr, rel, ?_⟩
  dsimp only at p
  cases hr : f sl c with
  | stuck => rw [hr] at p; exact p
  | ok fl c' =>
    rw [hr] at p
    cases fl with
    | nx s => exact p
    | bk s => exact p
    | ct s => exact p
    | rt d s => exact p
    | ex y s =>
      intro ω' σ' H' cls dd l sr' rel' rx
      obtain ⟨C, d, gs, I, hcls, hdd, hd, rf⟩ := id rx
      unfold tryK at p
      dsimp only at p
      cases hl : y.sup.lookup x with
      | none => rw [hl] at p; exact p.elim
      | some b =>
        rw [hl] at p
        obtain ⟨v', u', hv', hex, _⟩ := I.sup x b (lookup_mem hl)
        obtain rfl := clsN_inj hv hv'
        refine ⟨b, by rw [hcls]; exact hex, fun hb => ?_, fun hb => ?_⟩
        · subst hb
          dsimp only at p
          intro a ha
          cases hvs : hxVs y hx with
          | none => rw [hvs] at p; exact p.elim
          | some ds =>
            rw [hvs] at p
            dsimp only at p
            unfold hdlK at p
            by_cases hlen : i < s.length ∧ ds.length ≤ 1000
            · rw [if_pos hlen] at p
              have p := PostS.le p l
              have hset : (σ'.set i (some (V.ref a)))[i]? = some (some (V.ref a)) := List.getElem?_set_self (by rw [← sr'.len]; exact hlen.1)
              have tupd : ∀ vs, Rs X.K X.mg ω' ds vs → vs.length ≤ sizeLine ∧ ∀ q, H' q = none → ∃ ω2, ω'.le ω2 ∧ Rel X.K X.mg ω2 c' (upd H' q (.tup vs)) ∧ R X.K X.mg ω2 (.tup ds) (.ref q) := fun vs hvs => by
                refine ⟨by rw [← hvs.length, sizeLine_eq]; omega, fun q hq => ?_⟩
                obtain ⟨l2, rel2⟩ := rel'.frozen hq (.tup vs)
                exact ⟨_, l2, rel2, .tup (.inl upd_same) (hvs.mono l2.toLo)⟩
              cases tg with
              | none =>
                refine hx_run rx rel' hset hx ds _ hvs fun vs hv2 => ?_
                obtain ⟨z1, z2⟩ := tupd vs hv2
                refine ⟨z1, fun q hq => ?_⟩
                obtain ⟨ω2, l2, rel2, r2⟩ := z2 q hq
                exact p ω2 _ _ l2 rel2 r2
              | some j =>
                refine hx_run rx rel' hset hx ds _ hvs fun vs hv2 => ?_
                obtain ⟨z1, z2⟩ := tupd vs hv2
                refine ⟨z1, fun q hq => ?_⟩
                obtain ⟨ω2, l2, rel2, r2⟩ := z2 q hq
                refine p ω2 _ _ l2 ⟨?_, fun n d hn => ?_⟩ rel2
                · simp only [List.length_set]
                  exact sr'.len
                · by_cases hni : i = n
                  · subst hni
                    by_cases hlt : i < (s.set j (some (D.tup ds))).length
                    · rw [List.getElem?_set_self hlt] at hn; cases hn
                    · rw [List.getElem?_eq_none (by simpa using hlt)] at hn; cases hn
                  · rw [List.getElem?_set_ne hni] at hn ⊢
                    obtain ⟨w, w1, w2⟩ := ((sr'.mono l2.toLo).set j r2).get n d hn
                    refine ⟨w, ?_, w2⟩
                    by_cases hjn : j = n
                    · subst hjn
                      have hlt : j < σ'.length := by
                        have := (List.getElem?_eq_some_iff.mp w1).1
                        simpa using this
                      rw [List.getElem?_set_self (by simpa using hlt)]
                      rw [List.getElem?_set_self hlt] at w1
                      exact w1
                    · rw [List.getElem?_set_ne hjn] at w1 ⊢
                      rw [List.getElem?_set_ne hni]
                      exact w1
            · rw [if_neg hlen] at p
              exact p.elim
        · subst hb
          exact p ω' σ' H' cls dd l sr' rel' rx
/-- name = [..] on one line -/
theorem snds_lc {t : IT} {q : IE} {tg x : Expr} (h1 : chkT' Γ t tg = true) (h2 : chkE G Γ q x = true) (h3 : isLcI q = true) (h4 : swapB Γ.sc tg x = true) (E : EOk G call k X Γ W) : PS X (.Assign [tg] x pos) (liftS X.K X.mg W (evS call (.asg t q))) := by
  cases tg <;> first | (cases h4; done) | skip
  rename_i y py
  cases x <;> first | (cases h4; done) | skip
  rename_i elt gs scope ps
  cases q <;> first | (cases h3; done) | skip
  rename_i mu own tt s q el
  cases t <;> first | (cases h1; done) | skip
  rename_i i
  have hy : Γ.N[i]? = some y := by
    have h1 : chkT'.go Γ (.nm i) (.Name y py) = true := h1
    unfold chkT'.go at h1
    simp only [Bool.and_eq_true, decide_eq_true_eq] at h1
    exact h1.1
  unfold swapB at h4
  simp only [Bool.and_eq_true, Bool.not_eq_true'] at h4
  obtain ⟨⟨hyl, hln⟩, hsc⟩ := h4
  have h : chkM G false Γ (.comp mu own tt s q el) (.ListComp elt gs scope ps) = true := h2
  simp only [chkM, Bool.and_eq_true] at h
  obtain ⟨⟨⟨⟨⟨⟨⟨h0, g1⟩, g2⟩, g3⟩, g4⟩, g5⟩, g6⟩, g7⟩ := h
  unfold oneG at h0
  simp only [Bool.and_eq_true, decide_eq_true_eq, Bool.not_eq_true'] at h0
  rcases gs with _ | ⟨⟨tg, iter, ifs, as⟩, _ | ⟨_, _⟩⟩ <;> first | (exfalso; simp at h0; done) | skip
  obtain ⟨⟨⟨_, h8⟩, h9⟩, h10⟩ := h0
  dsimp only [List.headD_cons] at g3 g4 g5 g6 h8 h9 h10
  subst h8
  have hkd : scope.kind = .function := (blkOk_by g1).kind
  have hown : (ownN Γ.N own).map (·.2) = own := by
    unfold ownN
    rw [List.map_map]
    exact List.map_id own
  have hs : ∀ i ∈ slotsT tt, i ∈ (ownN Γ.N own).map (·.2) := fun i hi => by
    have z := List.all_eq_true.mp g2 i hi
    rw [hown]
    simpa using z
  have hyl' : X.env.scope.names.lookup y = some .local := by rw [E.sc]; exact kindB_iff.mp hyl
  refine (ps_setLc (i := i) E.calm E.nd (by rw [E.N]; exact hy) hyl' (sw_true E.kind hyl' hln hsc) (snd_I s Γ X W iter tg g3 E) (blkOk_by (by rw [E.N, E.sc]; exact g1)) (fun s H C cl fp => ?_) (fun s H C cl fp => ?_) (fun s H C cl fp => ?_) (fold_ns h10 _)).weak fun D σ H hh => comp_tlc (mu := mu) (fi := evI call s) (fq := evT call q) (fe := evM call false el) (W := W) hs ?_
  · have B := E.blk hkd (s := s) (H := H) (scope := scope) (C := C) (cl := cl) (fp := fp)
    exact pg_T B.N B.nd B.sc B.fn B.calm tt tg g4
  · have B := E.blk hkd (s := s) (H := H) (scope := scope) (C := C) (cl := cl) (fp := fp)
    rcases ifs with _ | ⟨x, _ | ⟨_, _⟩⟩
    · have hq : q = .cst (.bl true) := isTrueB_eq (by simpa using g5)
      subst hq
      exact ⟨fun pins s σ H Q I ⟨ω, sl, c, sr, rel, p⟩ => pts_nil.run pins s σ H Q I (p.ok_of rel rfl)⟩
    · exact pts_one (snd_M q true (Γ.blk scope) _ noW x g6 B).1
    · exfalso; simp at h9
  · exact snd_M el false (Γ.blk scope) _ noW elt g7 (E.blk hkd)
  · rw [hown]
    obtain ⟨ω, sl, c, sr, rel, p⟩ := hh
    have p : PostS X.K X.mg ω W D (ofR (evE call (.comp mu own tt s q el) sl c) sl (asgK (.nm i) sl)) := p
    exact (postS_bind sr rel p).mono fun x H1 ⟨ω1, c1, d, l1, sr1, rel1, rx, p1⟩ => p1 ω1 _ H1 .rfl (sr1.set i rx) rel1
/-! ### all statements -/
mutual
theorem snd_S : ∀ (i : IS) (X : Cx) (W : WX) (e : Stmt), chkS G Γ i e = true → EOk G call k X Γ W → (X.stack = X.env :: X.outer ∧ X.env.frame = some X.env.locals) → PS X e (liftS X.K X.mg W (evS call i))
  | .asg t q, X, W, e, h, E, S => by
    cases e <;> first | (cases h; done) | skip
    rename_i tgs x pos
    rcases tgs with _ | ⟨tg, _ | ⟨_, _⟩⟩ <;> first | (cases h; done) | skip
    simp only [chkS, Bool.and_eq_true, Bool.or_eq_true] at h
    obtain ⟨⟨⟨h0, h1⟩, h2⟩, h3⟩ := h
    rcases h3 with ⟨h3, h4⟩ | ⟨h3, h4⟩
    · exact PSc (snds_asg h0 (pg_T E.N E.nd E.sc E.fn E.calm t tg h1) (snd_E h2 E) E.sc h3 h4) fun _ _ => rfl
    · exact snds_lc h1 h2 h3 h4 E
  | .par i j a b, X, W, e, h, E, S => by
    cases e <;> first | (cases h; done) | skip
    rename_i tgs x pos
    rcases tgs with _ | ⟨tg, _ | ⟨_, _⟩⟩ <;> first | (cases h; done) | (simp [chkS] at h; done) | skip
    cases tg <;> first | (cases h; done) | skip
    rename_i ts kt pt
    rcases ts with _ | ⟨t1, _ | ⟨t2, _ | ⟨_, _⟩⟩⟩ <;> first | (cases h; done) | (simp [chkS] at h; done) | skip
    cases t1 <;> first | (cases h; done) | skip
    cases t2 <;> first | (cases h; done) | skip
    cases x <;> first | (cases h; done) | skip
    rename_i xs k2 p2
    rcases xs with _ | ⟨ea, _ | ⟨eb, _ | ⟨_, _⟩⟩⟩ <;> first | (cases h; done) | (simp [chkS] at h; done) | skip
    simp only [chkS, Bool.and_eq_true, Bool.not_eq_true', decide_eq_true_eq] at h
    obtain ⟨⟨⟨⟨⟨⟨⟨⟨⟨⟨⟨h1, h2⟩, h3⟩, h4⟩, h5⟩, h6⟩, h7⟩, h8⟩, h9⟩, h10⟩, h11⟩, h12⟩ := h
    refine PSc (snds_par E h1 h2 h3 h4 h5 h6 h7 (snd_E h8 E) (snd_E h9 E) ?_) fun _ _ => rfl
    refine swapped_two E.kind (by rw [E.sc]; exact kindB_iff.mp h4) (by rw [E.sc]; exact kindB_iff.mp h5) (fun z => ?_) h6 h7 h10 h11 h12
    subst z
    exact h3 (nodup_ix E.nd (by rw [E.N]; exact h1) (by rw [E.N]; exact h2))
  | .put o i q, X, W, e, h, E, S => by
    cases e <;> first | (cases h; done) | skip
    rename_i tgs x pos
    rcases tgs with _ | ⟨tg, _ | ⟨_, _⟩⟩ <;> first | (cases h; done) | (simp [chkS] at h; done) | skip
    cases tg <;> first | (cases h; done) | skip
    simp only [chkS, Bool.and_eq_true, Bool.not_eq_true'] at h
    obtain ⟨⟨⟨h0, h2⟩, h3⟩, h4⟩ := h
    exact PSc (snds_put h0 (snd_E h2 E) (snd_E h3 E) (snd_E h4 E)) fun _ _ => rfl
  | .par3 i j l a b d, X, W, e, h, E, S => by
    cases e <;> first | (cases h; done) | skip
    rename_i tgs x pos
    rcases tgs with _ | ⟨tg, _ | ⟨_, _⟩⟩ <;> first | (cases h; done) | (simp [chkS] at h; done) | skip
    cases tg <;> first | (cases h; done) | skip
    rename_i ts kt pt
    rcases ts with _ | ⟨t1, _ | ⟨t2, _ | ⟨t3, _ | ⟨_, _⟩⟩⟩⟩ <;> first | (cases h; done) | (simp [chkS] at h; done) | skip
    cases t1 <;> first | (cases h; done) | skip
    cases t2 <;> first | (cases h; done) | skip
    cases t3 <;> first | (cases h; done) | skip
    cases x <;> first | (cases h; done) | skip
    rename_i xs k2 p2
    rcases xs with _ | ⟨ea, _ | ⟨eb, _ | ⟨ed, _ | ⟨_, _⟩⟩⟩⟩ <;> first | (cases h; done) | (simp [chkS] at h; done) | skip
    simp only [chkS, Bool.and_eq_true, Bool.not_eq_true', decide_eq_true_eq] at h
    obtain ⟨⟨⟨⟨⟨⟨⟨⟨⟨⟨⟨⟨⟨⟨⟨⟨h1, h2⟩, h3⟩, h4⟩, h5⟩, h6⟩, h7⟩, n1⟩, n2⟩, n3⟩, h8⟩, h9⟩, h10⟩, g1⟩, g2⟩, g3⟩, g4⟩ := h
    obtain ⟨i1, i2, i3⟩ := h4
    have ne : ∀ {p q : Nat} {u v : Str}, Γ.N[p]? = some u → Γ.N[q]? = some v → p ≠ q → u ≠ v := fun {p q u v} hp hq hn z => by
      subst z
      exact hn (nodup_ix E.nd (by rw [E.N]; exact hp) (by rw [E.N]; exact hq))
    refine PSc (snds_par3 E h1 h2 h3 i1 i2 i3 h5 h6 h7 n1 n2 n3 (snd_E h8 E) (snd_E h9 E) (snd_E h10 E) ?_) fun _ _ => rfl
    exact swapped_three E.kind (by rw [E.sc]; exact kindB_iff.mp h5) (by rw [E.sc]; exact kindB_iff.mp h6) (by rw [E.sc]; exact kindB_iff.mp h7) (ne h1 h2 i1) (ne h1 h3 i2) (ne h2 h3 i3) n1 n2 n3 g1 g2 g3 g4
  | .augI o i op q, X, W, e, h, E, S => by
    cases e <;> first | (cases h; done) | skip
    rename_i tg op' x pos
    cases tg <;> first | (cases h; done) | skip
    simp only [chkS, Bool.and_eq_true, Bool.not_eq_true', decide_eq_true_eq] at h
    obtain ⟨⟨⟨⟨⟨h0, rfl⟩, h2⟩, h3⟩, h4⟩, h5⟩ := h
    exact PSc (snds_augI h2 h0 (snd_E h3 E) (snd_E h4 E) (snd_E h5 E)) fun _ _ => rfl
  | .sto ts q, X, W, e, h, E, S => by
    cases e <;> first | (cases h; done) | skip
    rename_i tgs x pos
    rcases tgs with _ | ⟨tg, _ | ⟨_, _⟩⟩ <;> first | (cases h; done) | skip
    simp only [chkS, Bool.and_eq_true, Bool.not_eq_true'] at h
    exact PSc (snds_sto E h.2 (snd_E h.1 E)) fun _ _ => rfl
  | .aug i o q, X, W, e, h, E, S => by
    cases e <;> first | (cases h; done) | skip
    rename_i tg op x pos
    cases tg <;> first | (cases h; done) | skip
    simp only [chkS, Bool.and_eq_true, Bool.or_eq_true, decide_eq_true_eq] at h
    obtain ⟨⟨⟨⟨h0, h1⟩, h2⟩, rfl, h3⟩, h4⟩ := h
    exact PSc (snds_aug E h0 h1 h2 h3 (snd_E h4 E)) fun _ _ => rfl
  | .expr q, X, W, e, h, E, S => by
    cases e <;> first | (cases h; done) | skip
    simp only [chkS, Bool.and_eq_true, Bool.not_eq_true'] at h
    exact PSc (snds_expr (snd_E h.2 E) h.1) fun _ _ => rfl
  | .ret q, X, W, e, h, E, S => by
    cases e <;> first | (cases h; done) | skip
    rename_i v pos
    cases v with
    | none => cases h
    | some x => exact PSc (snds_ret (snd_E h E)) fun _ _ => rfl
  | .retN, X, W, e, h, E, S => by
    cases e <;> first | (cases h; done) | skip
    rename_i v pos
    cases v with
    | none => exact PS.weak ps_retN fun D σ H ⟨ω, sl, c, sr, rel, p⟩ => p ω .non H .rfl rel .non
    | some _ => cases h
  | .ifs q a b, X, W, e, h, E, S => by
    cases e <;> first | (cases h; done) | skip
    simp only [chkS, Bool.and_eq_true] at h
    exact PSc (snds_if (snd_T h.1.1 E) (snd_Ss a X W _ h.1.2 E S) (snd_Ss b X W _ h.2 E S)) fun _ _ => rfl
  | .whl q b, X, W, e, h, E, S => by
    cases e <;> first | (cases h; done) | skip
    rename_i c x el pos
    cases el <;> first | (cases h; done) | skip
    simp only [chkS, Bool.and_eq_true] at h
    exact PSc (snds_whl E (snd_T h.1 E) (snd_Ss b X W _ h.2 E S)) fun _ _ => rfl
  | .for t s b, X, W, e, h, E, S => by
    cases e <;> first | (cases h; done) | skip
    rename_i tg it x el pos
    cases el <;> first | (cases h; done) | skip
    simp only [chkS, Bool.and_eq_true, Bool.not_eq_true'] at h
    exact PSc (snds_for E (pg_T E.N E.nd E.sc E.fn E.calm t tg h.1.1.1) (snd_I s Γ X W it tg h.1.1.2 E) h.1.2 (snd_Ss b X W _ h.2 E S)) fun _ _ => rfl
  | .pass, X, W, e, h, E, S => by
    cases e <;> first | (cases h; done) | skip
    exact PS.weak ps_pass fun D σ H ⟨ω, sl, c, sr, rel, p⟩ => p ω σ H .rfl sr rel
  | .brk, X, W, e, h, E, S => by
    cases e <;> first | (cases h; done) | skip
    exact PS.weak ps_break fun D σ H ⟨ω, sl, c, sr, rel, p⟩ => p ω σ H .rfl sr rel
  | .cont, X, W, e, h, E, S => by
    cases e <;> first | (cases h; done) | skip
    exact PS.weak ps_continue fun D σ H ⟨ω, sl, c, sr, rel, p⟩ => p ω σ H .rfl sr rel
  | .nev, X, W, e, h, E, S => PS.weak ps_never fun D σ H ⟨ω, sl, c, sr, rel, p⟩ => p.elim
  | .rse C n sup fl es, X, W, e, h, E, S => by
    cases e <;> first | (cases h; done) | skip
    rename_i v cs pos
    cases v with
    | none => cases h
    | some v =>
      cases cs with
      | some _ => simp [chkS] at h
      | none =>
        cases v <;> first | (cases h; done) | skip
        rename_i o xs kws p1
        cases o <;> first | (cases h; done) | skip
        cases kws <;> first | (cases h; done) | skip
        simp only [chkS, Bool.and_eq_true, decide_eq_true_eq] at h
        obtain ⟨⟨⟨⟨h0, h1⟩, h2⟩, h3⟩, h4⟩ := h
        refine PSc (snds_rse E h0 h1 h2 h3 (chkA_all h4) (fun z sl c => ?_) (snd_A es Γ X W xs h4 E)) fun _ _ => rfl
        subst z
        cases es with
        | nil => rfl
        | cons _ _ => cases h4
  | .tryA b D i hx tg, X, W, e, h, E, S => by
    cases e <;> first | (cases h; done) | skip
    rename_i body hds orelse fin pos
    rcases hds with _ | ⟨hd, _ | ⟨_, _⟩⟩ <;> first | (cases h; done) | (simp [chkS] at h; done) | skip
    cases hd
    rename_i ty nm suite p2
    cases ty <;> first | (cases h; done) | skip
    rename_i ty
    cases ty <;> first | (cases h; done) | skip
    cases nm <;> first | (cases h; done) | skip
    rcases suite with _ | ⟨st, _ | ⟨_, _⟩⟩ <;> first | (cases h; done) | (simp [chkS] at h; done) | skip
    cases orelse <;> first | (cases h; done) | skip
    cases fin <;> first | (cases h; done) | skip
    simp only [chkS, Bool.and_eq_true, decide_eq_true_eq] at h
    obtain ⟨⟨⟨⟨⟨⟨h0, h1⟩, h2⟩, h3⟩, h4⟩, h5⟩, h6⟩ := h
    exact PSc (snds_try E S h0 (by simpa using h1) h2 h3 h4 h5 fun W' pn xe E' => snd_Ss b (X.tr pn xe) W' _ h6 E' S) fun _ _ => rfl
theorem snd_Ss : ∀ (i : ISs) (X : Cx) (W : WX) (e : List Stmt), chkSs G Γ i e = true → EOk G call k X Γ W → (X.stack = X.env :: X.outer ∧ X.env.frame = some X.env.locals) → PSs X e (liftS X.K X.mg W (evSs call i))
  | .nil, X, W, e, h, E, S => by
    cases e with
    | nil => exact PSs.weak snds_nil fun D σ H => liftS.conv fun _ _ => rfl
    | cons _ _ => cases h
  | .cons s r, X, W, e, h, E, S => by
    cases e with
    | nil => cases h
    | cons x xs =>
      simp only [chkSs, Bool.and_eq_true] at h
      refine PSs.weak (snds_cons (snd_S s X W x h.1 E S) (snd_Ss r X W xs h.2 E S)) fun D σ H => liftS.conv fun sl c => ?_
      show evSs call (.cons s r) sl c = seqK (evS call s sl c) (evSs call r)
      rw [evSs]
      unfold seqK
      cases evS call s sl c with
      | stuck => rfl
      | ok f c => cases f <;> rfl
end
end
end Hv

set_option Elab.async false
set_option linter.all false
set_option maxRecDepth 100000
set_option maxHeartbeats 4000000
/-! HvI: defs, the whole text. -/
namespace Hv
open PySem PySem.Spec PyProof.Rows L2

/-- a def of the text as it stands in the world, and its inner form -/
def DefB (K : PySem.W.Frag) (G : GE) (fd0 : FD) (a : Addr) (fd : FuncData) (ps : List Str) : Prop :=
  ∃ (name qual : Str) (params : Arguments) (body : List Stmt) (scope : Scope) (dV kV doc pm cdv ct oc : Value) (an od : Option Addr) (osl : Array (Option Value)) (N : List Str),
    fd = PySem.W.fnOf name qual params body scope dV kV doc pm an cdv ct ∧ K.lookup a = some ⟨oc, od, .func fd, osl⟩ ∧ PySem.W.codeIn K cdv qual = true ∧ FnScope N ps scope ∧ ps.length = fd0.ps ∧ N.length = fd0.n ∧ chkSs G ⟨N, scope, fun _ => true⟩ fd0.body body = true
structure AllOk (K : PySem.W.Frag) (mg : Str → Option Value) (G : GE) (T : Tab) : Prop where
  blt : ∀ f : Blt, mg (bltName f) = none
  rng : mg "range" = none
  ty : ∀ n, n ∈ tyNames → mg (Str.ofString n) = none
  enm : mg "enumerate" = none
  zip : mg "zip" = none
  con : ∀ x q, (x, q) ∈ G.consts → ∃ u, mg x = some u ∧ RelV (Cst.v q) u
  fld : ∀ C f, (C, f) ∈ G.flds → ∃ cc, mg C = some (.ref cc) ∧ Cls K cc ∧ NoAttr K cc f
  mth : ∀ C m f n ks src, (C, m, f, n, ks, src) ∈ G.meths → ∃ cc a fd0 fd ps, mg C = some (.ref cc) ∧ Cls K cc ∧ Meth K cc m a ∧ T.lookup f = some fd0 ∧ DefB K G fd0 a fd ps ∧ ShapeOk K fd ps n ks src
  mks : ∀ C f n ks src, (C, f, n, ks, src) ∈ G.mks → ∃ cc a fd0 fd ps, mg C = some (.ref cc) ∧ Mk K cc a ∧ T.lookup f = some fd0 ∧ DefB K G fd0 a fd ps ∧ ShapeOk K fd ps n ks src
  lens : ∀ C f, (C, f) ∈ G.lens → ∃ cc a fd0 fd ps, mg C = some (.ref cc) ∧ Cls K cc ∧ Meth K cc "__len__" a ∧ T.lookup f = some fd0 ∧ DefB K G fd0 a fd ps ∧ ShapeOk K fd ps 1 [] [.arg 0]
  shp : ∀ f n ks src, (f, n, ks, src) ∈ G.shapes → ∃ fd0 x a fd ps, T.lookup f = some fd0 ∧ G.names.lookup f = some x ∧ mg x = some (.ref a) ∧ PySem.W.keepIn K (.ref a) = true ∧ DefB K G fd0 a fd ps ∧ ShapeOk K fd ps n ks src
  exc : ∀ C n fl sup, (C, n, fl, sup) ∈ G.excs → n ≤ 1000 ∧ fl ≠ [] ∧ fl.length ≤ 800 ∧ ∃ a fI fd ps, XInfo K mg C a sup (fl.map (·.1)) ∧ PySem.W.findIn K (.ref a) "__init__" = some (some (.ref fI)) ∧ PySem.W.typeIn K (.ref fI) = some (.type "function") ∧ InitA K n fl fI fd ps ∧ (∀ (s : Shared) (us : List Value), us.length = n + 1 → BindsTo s fd ⟨us, []⟩ (ps.zip us))
  cls : ∀ n, n ∈ G.cls → ∃ v u, ClsN mg n v u
section
variable {P : Program} {w : World} {K : PySem.W.Frag} {mg : Str → Option Value} {base : Heap} {G : GE} {T : Tab}
theorem begin_sr {ω : Wd} {ds : List D} {vs : List V} {N : List Str} {n : Nat} (r : Rs K mg ω ds vs) (hn : N.length = n) (hl : ds.length ≤ n) : SR K mg ω (begin_ n ds) (L2.start N vs) := by
  have e := r.length
  refine ⟨?_, fun i d h => ?_⟩
  · unfold begin_ L2.start
    simp only [List.length_append, List.length_map, List.length_replicate]
    omega
  · unfold begin_ at h
    unfold L2.start
    by_cases hi : i < ds.length
    · rw [List.getElem?_append_left (by simpa using hi), List.getElem?_map] at h
      cases q : ds[i]? with
      | none => rw [q] at h; cases h
      | some x =>
        rw [q] at h
        cases h
        obtain ⟨v, h1, h2⟩ := r.get q
        refine ⟨v, ?_, h2⟩
        rw [List.getElem?_append_left (by simp; omega), List.getElem?_map, h1]
        rfl
    · rw [List.getElem?_append_right (by simpa using hi), List.getElem?_replicate] at h
      split at h <;> cases h
theorem def_ok (A : AllOk K mg G T) : ∀ (k : Nat) (f : Nat) (fd0 : FD) (a : Addr) (fd : FuncData) (ps : List Str), T.lookup f = some fd0 → DefB K G fd0 a fd ps → FnOk P w K mg base (L2.CX P w) (2 * k + 2) a fd ps (spC K mg (evF T k) f ps.length)
  | 0, f, fd0, a, fd, ps, hT, h => ⟨fun vs H Q E h => h.1, fun A outer s H args us vs Q E _ _ _ _ h => by
    obtain ⟨_, ω, c, ds, _, _, p⟩ := h
    exact p.elim⟩
  | k + 1, f, fd0, a, fd, ps, hT, h => by
    obtain ⟨name, qual, params, body, scope, dV, kV, doc, pm, cdv, ct, oc, an, od, osl, N, rfl, lk, hcd, S, e1, e2, hchk⟩ := h
    refine fn_of lk hcd S (fun vs H Q E h => h.1) fun A' outer s H vs Q E hr hsp => ?_
    have E0 : EOk G (evF T k) (2 * k + 2) (cxOf (L2.CX P w) P w K mg base N qual scope a cdv A' outer s H E) ⟨N, scope, fun _ => true⟩ (fun cls d _ H => E cls d H) :=
      { g := {
          blt := A.blt, rng := A.rng, ty := A.ty, enm := A.enm, zip := A.zip, con := A.con, fld := A.fld,
          mth := fun C m f n ks src hs => by
            obtain ⟨cc, a', fd0', fd', ps', q1, q2, q3, q4, q5, q6⟩ := A.mth C m f n ks src hs
            exact ⟨cc, a', fd', ps', q1, q2, q3, def_ok A k f fd0' a' fd' ps' q4 q5, q6⟩
          mks := fun C f n ks src hs => by
            obtain ⟨cc, a', fd0', fd', ps', q1, q2, q4, q5, q6⟩ := A.mks C f n ks src hs
            exact ⟨cc, a', fd', ps', q1, q2, def_ok A k f fd0' a' fd' ps' q4 q5, q6⟩
          lens := fun C f hs => by
            obtain ⟨cc, a', fd0', fd', ps', q1, q2, q3, q4, q5, q6⟩ := A.lens C f hs
            exact ⟨cc, a', fd', ps', q1, q2, q3, def_ok A k f fd0' a' fd' ps' q4 q5, q6⟩
          fn := fun f n ks src hs => by
            obtain ⟨fd0', x, a', fd', ps', q1, q2, q3, q4, q5, q6⟩ := A.shp f n ks src hs
            exact ⟨x, a', fd', ps', q2, q3, q4, def_ok A k f fd0' a' fd' ps' q1 q5, q6⟩
          exc := fun C n fl sup hs => by
            obtain ⟨z1, z2, z3, b, fI, fdI, psI, z4, z5, z6, z7, z8⟩ := A.exc C n fl sup hs
            exact ⟨z1, b, fI, fdI, psI, z4, ⟨z4.oex, z4.nof, z5, z6, init_ok z2 z3 z7, z8⟩⟩
          cls := A.cls }
        N := rfl, nd := S.nd, sc := rfl, calm := rfl, kind := S.kind, fn := fun _ _ => rfl, room := hr.mono (by omega), two := by omega, takes := takes_of rfl rfl rfl rfl, own := passes_of rfl }
    refine ⟨_, snd_Ss fd0.body _ _ body hchk E0 ⟨rfl, rfl⟩, ?_⟩
    obtain ⟨hl, ω, c, ds, rel, rs, p⟩ := hsp
    have hle : ps.length ≤ N.length := by
      have := congrArg List.length S.pre
      rw [List.length_take] at this
      omega
    have hds : ds.length = fd0.ps := by rw [rs.length, hl, e1]
    refine ⟨ω, begin_ fd0.n ds, c, begin_sr rs e2 (by omega), rel, ?_⟩
    have he : evF T (k + 1) f ds c = gcK c (fin (evSs (evF T k) fd0.body (begin_ fd0.n ds) c)) := by
      show (match T.lookup f with | none => Res.stuck | some fd => runF (evF T k) fd ds c) = _
      rw [hT]
      show runF (evF T k) fd0 ds c = _
      unfold runF
      rw [if_pos hds]
    rw [he] at p
    have p := Post.gc rel p
    show PostS K mg ω (fun cls d _ H => E cls d H) _ (evSs (evF T k) fd0.body (begin_ fd0.n ds) c)
    cases hr : evSs (evF T k) fd0.body (begin_ fd0.n ds) c with
    | stuck => rw [hr] at p; exact p
    | ok fl c' =>
      rw [hr] at p
      cases fl with
      | nx sl => exact fun ω' σ' H' l _ rel' => p ω' .non H' l rel' .non
      | rt d sl => exact fun ω' v H' l rel' r => p ω' v H' l rel' r
      | bk sl => exact p.elim
      | ct sl => exact p.elim
      | ex x sl => exact fun ω' σ' H' cls dd l _ rel' rx => p ω' H' cls dd l rel' rx
/-- the law's promise -/
def spLaw (K : PySem.W.Frag) : Sp := fun vs H Q _ => ∃ (a : Addr) (ns : List Int), vs = [.ref a] ∧ SqL K H a (ns.map V.int) ∧ ns.length ≤ 63 ∧ ∀ H', Q (.bl true) H'
theorem law_ok (A : AllOk K mg G T) {k : Nat} {f : Nat} {fd0 : FD} {a : Addr} {fd : FuncData} {p : Str} (hT : T.lookup f = some fd0) (h : DefB K G fd0 a fd [p])
    (hlaw : ∀ ns : List Int, ns.length ≤ 63 → ∃ c, evF T k f [.scr (ns.map .int)] [] = .ok (.bl true) c) : FnOk P w K mg base (L2.CX P w) (2 * k + 2) a fd [p] (spLaw K) :=
  (def_ok A k f fd0 a fd [p] hT h).imp fun vs H Q E ⟨a, ns, e, hs, hn, q⟩ => by
    subst e
    obtain ⟨c, he⟩ := hlaw ns hn
    refine ⟨rfl, ⟨H, [], []⟩, [], [.scr (ns.map .int)], .start H, .cons (.scr (sq_l (fun _ _ h => h) hs) (.ints ns)) .nil, ?_⟩
    rw [he]
    intro ω' b H' l rel r
    cases r
    exact q H'
theorem cx_end {w : World} {H : Hp} {s : Shared} {e : Value} {s' : Shared} (h : L2.CX P w [] H s (fun _ _ _ => False) e s') : False := by
  obtain ⟨_, _, _, _, _, _, _, _, _, _, _, _, z⟩ := h
  exact z
theorem cst_vals1 {c : V} {dv : List Value} (h : Vals [c] dv) : ∃ d0, dv = [d0] ∧ RelV c d0 := by
  cases h with
  | cons r t => cases t; exact ⟨_, rfl, r⟩
theorem cst_vals2 {c c' : V} {dv : List Value} (h : Vals [c, c'] dv) : ∃ d0 d1, dv = [d0, d1] ∧ RelV c d0 ∧ RelV c' d1 := by
  cases h with
  | cons r t => cases t with
    | cons r' t => cases t; exact ⟨_, _, rfl, r, r'⟩
end
end Hv

set_option Elab.async false
set_option linter.all false
set_option maxRecDepth 100000

/-! HvP: inner forms (printed by gen2.py). -/
namespace P
open Hv
/-- law: 0 -/
def b_law_k08 : ISs := (.cons (.asg (.nm 1) (.call false 1 [] [.arg 0] (.cons (.var 0) .nil) .nil)) (.cons (.for (.nm 2) (.rng1 (.cst (.int 5))) (.cons (.asg (.nm 3) (.call false 2 [] [.arg 0, .arg 1] (.cons (.var 1) (.cons (.cst (.int 20)) .nil)) .nil)) (.cons (.par 4 5 (.call false 3 [] [.arg 0] (.cons (.var 3) .nil) .nil) (.call false 4 [] [.arg 0] (.cons (.var 3) .nil) .nil)) (.cons (.for (.nm 6) (.rng1 (.cst (.int 2))) (.cons (.asg (.nm 7) (.call false 5 ["machine"] [.arg 0] .nil (.cons (.var 4) .nil))) (.cons (.ifs (.not (.call false 6 [] [.arg 0, .arg 1] (.cons (.var 7) (.cons (.var 5) .nil)) .nil)) (.cons (.ret (.cst (.bl false))) .nil) .nil) (.cons (.expr (.bm .append (.var 7) (.cons (.cst (.int 0)) .nil))) .nil)))) .nil)))) (.cons (.ret (.cst (.bl true))) .nil)))
def fd_law_k08 : FD := ⟨1, 8, b_law_k08⟩
abbrev i_law_k08 : Nat := 0
/-- _law_deal: 1 -/
def b_l_deal : ISs := (.cons (.asg (.nm 1) (.cst (.int 9144))) (.cons (.for (.nm 2) (.seq (.slc (.var 0) .no (.so (.cst (.int 63))))) (.cons (.asg (.nm 1) (.bin false .mod (.bin false .add (.bin false .add (.bin false .mul (.var 1) (.cst (.int 52163))) (.bin false .mod (.var 2) (.cst (.int 2147483629)))) (.cst (.int 7))) (.cst (.int 2147483587)))) .nil)) (.cons (.ret (.lst true (.cons (.blt .list (.cons (.slc (.var 0) .no (.so (.cst (.int 63)))) .nil)) (.cons (.cst (.int 0)) (.cons (.cst (.int 0)) (.cons (.var 1) (.cons (.cst (.int 0)) .nil))))))) .nil)))
def fd_l_deal : FD := ⟨1, 3, b_l_deal⟩
abbrev i_l_deal : Nat := 1
/-- _law_any_device: 2 -/
def b_l_any_device : ISs := (.cons (.asg (.nm 2) (.call false 7 [] [.arg 0, .arg 1] (.cons (.var 0) (.cons (.bin false .add (.cst (.int 1)) (.call false 8 [] [.arg 0, .arg 1] (.cons (.var 0) (.cons (.lst false (.cons (.cst (.int 0)) (.cons (.cst (.int 1)) (.cons (.cst (.int 1)) (.cons (.cst (.int 2)) .nil))))) .nil)) .nil)) .nil)) .nil)) (.cons (.asg (.nm 3) (.call false 9 [] [.arg 0, .arg 1] (.cons (.var 0) (.cons (.call false 7 [] [.arg 0, .arg 1] (.cons (.var 0) (.cons (.call false 10 [] [.arg 0, .arg 1] (.cons (.var 0) (.cons (.cst (.int 4)) .nil)) .nil) .nil)) .nil) .nil)) .nil)) (.cons (.ret (.call false 11 [] [.arg 0, .arg 1, .arg 2, .arg 3] (.cons (.var 0) (.cons (.call false 9 [] [.arg 0, .arg 1] (.cons (.var 0) (.cons (.var 2) .nil)) .nil) (.cons (.var 3) (.cons (.var 1) .nil)))) .nil)) .nil)))
def fd_l_any_device : FD := ⟨2, 4, b_l_any_device⟩
abbrev i_l_any_device : Nat := 2
/-- _law_made: 3 -/
def b_l_made : ISs := (.cons (.ret (.mk true "Machine" 12 [] [.arg 0, .arg 1, .arg 2, .arg 3] (.cons (.blt .list (.cons (.idx (.var 0) (.cst (.str "ins"))) .nil)) (.cons (.blt .list (.cons (.idx (.var 0) (.cst (.str "outs"))) .nil)) (.cons (.comp false [1] (.nm 1) (.seq (.idx (.var 0) (.cst (.str "rows")))) (.cst (.bl true)) (.blt .list (.cons (.var 1) .nil))) .nil))) .nil)) .nil)
def fd_l_made : FD := ⟨1, 2, b_l_made⟩
abbrev i_l_made : Nat := 3
/-- _law_again: 4 -/
def b_l_again : ISs := (.cons (.asg (.nm 1) (.lst true .nil)) (.cons (.for (.nm 2) (.rng1 (.blt .len (.cons (.idx (.var 0) (.cst (.str "rows"))) .nil))) (.cons (.ifs (.blt .all (.cons (.comp false [3] (.nm 3) (.seq (.call false 13 [] [.arg 0, .arg 1] (.cons (.idx (.var 0) (.cst (.str "rows"))) (.cons (.var 2) .nil)) .nil)) (.cst (.bl true)) (.cmp .inn (.var 2) (.call false 13 [] [.arg 0, .arg 1] (.cons (.idx (.var 0) (.cst (.str "rows"))) (.cons (.var 3) .nil)) .nil))) .nil)) (.cons (.expr (.bm .append (.var 1) (.cons (.var 2) .nil))) .nil) .nil) .nil)) (.cons (.ret (.frz 9 (.var 1))) .nil)))
def fd_l_again : FD := ⟨1, 4, b_l_again⟩
abbrev i_l_again : Nat := 4
/-- coming_again: 5 -/
def b_coming_again : ISs := (.cons (.ret (.blt .sortedM (.cons (.call false 14 [] [.arg 0, .arg 1] (.cons (.mth true "Machine" "rows" 15 [] [.arg 0] (.var 0) .nil .nil) (.cons (.call false 16 [] [.arg 0] (.cons (.var 0) .nil) .nil) .nil)) .nil) .nil))) .nil)
def fd_coming_again : FD := ⟨1, 1, b_coming_again⟩
abbrev i_coming_again : Nat := 5
/-- _law_like: 6 -/
def b_l_like : ISs := (.cons (.ifs (.blt .isi (.cons (.var 1) (.cons (.tup (.cons (.typ "list") (.cons (.typ "tuple") .nil))) .nil))) (.cons (.ifs (.or (.cmp .ne (.blt .isi (.cons (.var 0) (.cons (.typ "list") .nil))) (.blt .isi (.cons (.var 1) (.cons (.typ "list") .nil)))) (.cmp .ne (.blt .isi (.cons (.var 0) (.cons (.typ "tuple") .nil))) (.blt .isi (.cons (.var 1) (.cons (.typ "tuple") .nil))))) (.cons (.ret (.cst (.bl false))) .nil) .nil) (.cons (.ret (.and (.cmp .eq (.blt .len (.cons (.var 0) .nil)) (.blt .len (.cons (.var 1) .nil))) (.blt .all (.cons (.comp false [2] (.nm 2) (.rng1 (.blt .len (.cons (.var 1) .nil))) (.cst (.bl true)) (.call false 6 [] [.arg 0, .arg 1] (.cons (.idx (.var 0) (.var 2)) (.cons (.idx (.var 1) (.var 2)) .nil)) .nil)) .nil)))) .nil)) .nil) (.cons (.ifs (.or (.cmp .is (.var 1) (.cst .non)) (.cmp .is (.var 0) (.cst .non))) (.cons (.ret (.and (.cmp .is (.var 1) (.cst .non)) (.cmp .is (.var 0) (.cst .non)))) .nil) .nil) (.cons (.ifs (.or (.cmp .ne (.blt .isi (.cons (.var 0) (.cons (.typ "bool") .nil))) (.blt .isi (.cons (.var 1) (.cons (.typ "bool") .nil)))) (.cmp .ne (.blt .isi (.cons (.var 0) (.cons (.typ "int") .nil))) (.blt .isi (.cons (.var 1) (.cons (.typ "int") .nil))))) (.cons (.ret (.cst (.bl false))) .nil) .nil) (.cons (.ret (.and (.cmp .eq (.blt .isi (.cons (.var 0) (.cons (.typ "str") .nil))) (.blt .isi (.cons (.var 1) (.cons (.typ "str") .nil)))) (.cmp .eq (.var 0) (.var 1)))) .nil))))
def fd_l_like : FD := ⟨2, 3, b_l_like⟩
abbrev i_l_like : Nat := 6
/-- _law_names: 7 -/
def b_l_names : ISs := (.cons (.asg (.nm 2) (.call false 8 [] [.arg 0, .arg 1] (.cons (.var 0) (.cons (.lst false (.cons (.cst (.str "")) (.cons (.cst (.str "b")) (.cons (.cst (.str "zz")) (.cons (.cst (.str "xy")) (.cons (.cst (.str "mmmmm")) (.cons (.cst (.str "bbbbb")) .nil))))))) .nil)) .nil)) (.cons (.asg (.tp [(.nm 3), (.nm 4)]) (.tup (.cons (.call false 10 [] [.arg 0, .arg 1] (.cons (.var 0) (.cons (.bin false .add (.blt .len (.cons (.var 2) .nil)) (.cst (.int 1))) .nil)) .nil) (.cons (.call false 10 [] [.arg 0, .arg 1] (.cons (.var 0) (.cons (.cst (.int 26)) .nil)) .nil) .nil)))) (.cons (.asg (.nm 5) (.cst (.str "abcdefghijklmnopqrstuvwxyz"))) (.cons (.ret (.comp false [6] (.nm 6) (.rng1 (.var 1)) (.cst (.bl true)) (.bin false .add (.bin false .add (.slc (.var 2) .no (.so (.var 3))) (.idx (.var 5) (.bin false .mod (.bin false .add (.var 4) (.bin false .mul (.cst (.int 5)) (.var 6))) (.cst (.int 26))))) (.slc (.var 2) (.so (.var 3)) .no)))) .nil))))
def fd_l_names : FD := ⟨2, 7, b_l_names⟩
abbrev i_l_names : Nat := 7
/-- _law_of: 8 -/
def b_l_of : ISs := (.cons (.ret (.idx (.var 1) (.call false 10 [] [.arg 0, .arg 1] (.cons (.var 0) (.cons (.blt .len (.cons (.var 1) .nil)) .nil)) .nil))) .nil)
def fd_l_of : FD := ⟨2, 2, b_l_of⟩
abbrev i_l_of : Nat := 8
/-- _law_shuffled: 9 -/
def b_l_shuffled : ISs := (.cons (.asg (.nm 2) (.lst true .nil)) (.cons (.for (.nm 3) (.seq (.var 1)) (.cons (.expr (.bm .insert (.var 2) (.cons (.call false 10 [] [.arg 0, .arg 1] (.cons (.var 0) (.cons (.bin false .add (.blt .len (.cons (.var 2) .nil)) (.cst (.int 1))) .nil)) .nil) (.cons (.var 3) .nil)))) .nil)) (.cons (.ret (.frz 9 (.var 2))) .nil)))
def fd_l_shuffled : FD := ⟨2, 4, b_l_shuffled⟩
abbrev i_l_shuffled : Nat := 9
/-- _law_pick: 10 -/
def b_l_pick : ISs := (.cons (.put (.var 0) (.cst (.int 4)) (.bin false .add (.idx (.var 0) (.cst (.int 4))) (.cst (.int 1)))) (.cons (.ifs (.and (.cmp .eq (.idx (.var 0) (.cst (.int 2))) (.cst (.int 0))) (.cmp .lt (.idx (.var 0) (.cst (.int 1))) (.blt .len (.cons (.idx (.var 0) (.cst (.int 0))) .nil)))) (.cons (.asg (.nm 2) (.idx (.idx (.var 0) (.cst (.int 0))) (.idx (.var 0) (.cst (.int 1))))) (.cons (.put (.var 0) (.cst (.int 1)) (.bin false .add (.idx (.var 0) (.cst (.int 1))) (.cst (.int 1)))) (.cons (.ifs (.cmp .ge (.var 2) (.bin false .pow (.cst (.int 10)) (.cst (.int 18)))) (.cons (.put (.var 0) (.cst (.int 2)) (.var 2)) .nil) (.cons (.put (.var 0) (.cst (.int 3)) (.bin false .mod (.bin false .add (.bin false .add (.bin false .mul (.idx (.var 0) (.cst (.int 3))) (.cst (.int 69069))) (.bin false .mul (.bin false .mod (.var 2) (.cst (.int 2147483629))) (.cst (.int 40503)))) (.cst (.int 11))) (.cst (.int 2147483587)))) .nil)) .nil))) .nil) (.cons (.ifs (.cmp .gt (.idx (.var 0) (.cst (.int 2))) (.cst (.int 0))) (.cons (.asg (.nm 3) (.bin false .mod (.idx (.var 0) (.cst (.int 2))) (.var 1))) (.cons (.put (.var 0) (.cst (.int 2)) (.bin false .fdiv (.idx (.var 0) (.cst (.int 2))) (.var 1))) (.cons (.ret (.var 3)) .nil))) .nil) (.cons (.asg (.nm 4) (.idx (.var 0) (.cst (.int 3)))) (.cons (.put (.var 0) (.cst (.int 3)) (.bin false .mod (.bin false .add (.bin false .add (.bin false .add (.bin false .mul (.bin false .mod (.bin false .mul (.var 4) (.var 4)) (.cst (.int 2147483563))) (.cst (.int 16807))) (.bin false .mul (.var 4) (.cst (.int 48271)))) (.cst (.int 40692))) (.idx (.var 0) (.cst (.int 4)))) (.cst (.int 2147483587)))) (.cons (.ret (.bin false .mod (.bin false .add (.bin false .fdiv (.idx (.var 0) (.cst (.int 3))) (.cst (.int 97))) (.bin false .mul (.bin false .mod (.idx (.var 0) (.cst (.int 3))) (.cst (.int 7919))) (.cst (.int 31)))) (.var 1))) .nil))))))
def fd_l_pick : FD := ⟨2, 5, b_l_pick⟩
abbrev i_l_pick : Nat := 10
/-- _law_device: 11 -/
def b_l_device : ISs := (.cons (.asg (.nm 4) (.ifx (.cmp .ne (.var 2) (.lst false .nil)) (.comp false [5] (.nm 5) (.rng1 (.bin false .add (.cst (.int 1)) (.call false 10 [] [.arg 0, .arg 1] (.cons (.var 0) (.cons (.cst (.int 3)) .nil)) .nil))) (.cst (.bl true)) (.call false 17 [] [.arg 0, .arg 1, .arg 2] (.cons (.var 0) (.cons (.var 1) (.cons (.var 2) .nil))) .nil)) (.lst false .nil))) (.cons (.asg (.nm 6) (.tup (.cons (.cst (.str "each")) (.cons (.bin false .add (.cst (.int 1)) (.call false 10 [] [.arg 0, .arg 1] (.cons (.var 0) (.cons (.cst (.int 4)) .nil)) .nil)) (.cons (.call false 10 [] [.arg 0, .arg 1] (.cons (.var 0) (.cons (.cst (.int 2)) .nil)) .nil) (.cons (.blt .tuple (.cons (.comp false [7] (.nm 7) (.seq (.blt .sorted (.cons (.var 1) .nil))) (.cst (.bl true)) (.tup (.cons (.var 7) (.cons (.cst (.int 1)) .nil)))) .nil)) (.cons (.tup .nil) (.cons (.cst .non) .nil)))))))) (.cons (.ifs (.or (.cmp .eq (.call false 10 [] [.arg 0, .arg 1] (.cons (.var 0) (.cons (.cst (.int 3)) .nil)) .nil) (.cst (.int 0))) (.cmp .eq (.var 4) (.lst false .nil))) (.cons (.asg (.nm 4) (.bin false .add (.lst false (.cons (.var 6) .nil)) (.var 4))) .nil) .nil) (.cons (.asg (.nm 8) (.call false 18 [] [.arg 0, .arg 1, .arg 2, .arg 3] (.cons (.var 4) (.cons (.var 1) (.cons (.var 2) (.cons (.var 3) .nil)))) .nil)) (.cons (.whl (.cmp .is (.var 8) (.cst .non)) (.cons (.asg (.nm 4) (.slc (.var 4) .no (.so (.cst (.int (-1)))))) (.cons (.asg (.nm 8) (.call false 18 [] [.arg 0, .arg 1, .arg 2, .arg 3] (.cons (.var 4) (.cons (.var 1) (.cons (.var 2) (.cons (.var 3) .nil)))) .nil)) .nil))) (.cons (.ret (.dsp ["ins", "outs", "rows"] (.cons (.var 1) (.cons (.var 2) (.cons (.call false 19 [] [.arg 0, .arg 1] (.cons (.var 0) (.cons (.var 8) .nil)) .nil) .nil))))) .nil))))))
def fd_l_device : FD := ⟨4, 9, b_l_device⟩
abbrev i_l_device : Nat := 11
/-- Machine.__init__: 12 -/
def b_Machine_init (r0 r1 r2 r3 : IS) : ISs := (.cons (.ifs (.or (.not (.chn .le .le (.cst (.int 1)) (.blt .len (.cons (.var 1) .nil)) (.cst (.int 3)))) (.or (.cmp .gt (.blt .len (.cons (.var 2) .nil)) (.cst (.int 3))) (.not (.chn .le .le (.cst (.int 1)) (.blt .len (.cons (.var 3) .nil)) (.cst (.int 60)))))) (.cons r0 .nil) .nil) (.cons (.expr (.call false 20 [] [.arg 0] (.cons (.var 1) .nil) .nil)) (.cons (.expr (.call false 20 [] [.arg 0] (.cons (.var 2) .nil) .nil)) (.cons (.for (.tp [(.nm 4), (.nm 5)]) (.enum (.var 3)) (.cons (.ifs (.not (.call false 21 [] [.arg 0, .arg 1, .arg 2, .arg 3] (.cons (.var 5) (.cons (.blt .len (.cons (.var 1) .nil)) (.cons (.blt .len (.cons (.var 2) .nil)) (.cons (.blt .len (.cons (.var 3) .nil)) .nil)))) .nil)) (.cons r1 .nil) .nil) .nil)) (.cons (.sto [.fl 0 "Machine" "inward", .fl 0 "Machine" "outward"] (.tup (.cons (.blt .list (.cons (.var 1) .nil)) (.cons (.blt .list (.cons (.var 2) .nil)) .nil)))) (.cons (.sto [.fl 0 "Machine" "table"] (.comp false [5] (.nm 5) (.seq (.var 3)) (.cst (.bl true)) (.blt .tuple (.cons (.comp false [6, 7] (.tp [(.nm 6), (.nm 7)]) (.seq (.var 5)) (.cst (.bl true)) (.tup (.cons (.var 6) (.cons (.blt .tuple (.cons (.var 7) .nil)) .nil)))) .nil)))) (.cons (.asg (.nm 8) (.call false 14 [] [.arg 0, .arg 1] (.cons (.fld "Machine" "table" (.var 0)) (.cons (.cst (.int 0)) .nil)) .nil)) (.cons (.for (.nm 9) (.rng1 (.blt .len (.cons (.fld "Machine" "table" (.var 0)) .nil))) (.cons (.ifs (.cmp .nin (.var 9) (.var 8)) (.cons r2 .nil) .nil) .nil)) (.cons (.asg (.nm 10) (.call false 22 [] [.arg 0] (.cons (.fld "Machine" "table" (.var 0)) .nil) .nil)) (.cons (.ifs (.cmp .isn (.var 10) (.cst .non)) (.cons r3 .nil) .nil) .nil))))))))))
def fd_Machine_init (r0 r1 r2 r3 : IS) : FD := ⟨4, 11, b_Machine_init r0 r1 r2 r3⟩
abbrev i_Machine_init : Nat := 12
/-- _law_reached: 13 -/
def b_l_reached : ISs := (.cons (.asg (.nm 2) (.lst true (.cons (.var 1) .nil))) (.cons (.for (.nm 3) (.rng1 (.blt .len (.cons (.var 0) .nil))) (.cons (.ifs (.cmp .lt (.var 3) (.blt .len (.cons (.var 2) .nil))) (.cons (.for (.tp [(.nm 4), (.nm 5)]) (.seq (.idx (.var 0) (.idx (.var 2) (.var 3)))) (.cons (.ifs (.cmp .nin (.var 4) (.var 2)) (.cons (.expr (.bm .append (.var 2) (.cons (.var 4) .nil))) .nil) .nil) .nil)) .nil) .nil) .nil)) (.cons (.ret (.frz 9 (.var 2))) .nil)))
def fd_l_reached : FD := ⟨2, 6, b_l_reached⟩
abbrev i_l_reached : Nat := 13
/-- come_to: 14 -/
def b_come_to : ISs := (.cons (.asg (.nm 2) (.lst true (.cons (.var 1) .nil))) (.cons (.for (.nm 3) (.rng1 (.blt .len (.cons (.var 0) .nil))) (.cons (.ifs (.cmp .lt (.var 3) (.blt .len (.cons (.var 2) .nil))) (.cons (.expr (.bm .extend (.var 2) (.cons (.call false 23 [] [.arg 0, .arg 1] (.cons (.idx (.var 0) (.idx (.var 2) (.var 3))) (.cons (.var 2) .nil)) .nil) .nil))) .nil) .nil) .nil)) (.cons (.ret (.frz 9 (.var 2))) .nil)))
def fd_come_to : FD := ⟨2, 4, b_come_to⟩
abbrev i_come_to : Nat := 14
/-- Machine.rows: 15 -/
def b_Machine_rows : ISs := (.cons (.ret (.comp true [1] (.nm 1) (.seq (.fld "Machine" "table" (.var 0))) (.cst (.bl true)) (.blt .listM (.cons (.var 1) .nil)))) .nil)
def fd_Machine_rows : FD := ⟨1, 2, b_Machine_rows⟩
abbrev i_Machine_rows : Nat := 15
/-- some_again: 16 -/
def b_some_again : ISs := (.cons (.ret (.idx (.mth false "Machine" "moved" 24 [] [.arg 0, .arg 1, .dfl (.int 0)] (.var 0) (.cons (.comp false [1] (.nm 1) (.seq (.mth true "Machine" "letters" 25 [] [.arg 0] (.var 0) .nil .nil)) (.cst (.bl true)) (.len1 "Machine" 26 (.var 0))) .nil) .nil) (.cst (.int 0)))) .nil)
def fd_some_again : FD := ⟨1, 2, b_some_again⟩
abbrev i_some_again : Nat := 16
/-- _law_rule: 17 -/
def b_l_rule : ISs := (.cons (.asg (.nm 3) (.blt .sorted (.cons (.comp false [4] (.nm 4) (.seq (.var 1)) (.cmp .eq (.call false 10 [] [.arg 0, .arg 1] (.cons (.var 0) (.cons (.cst (.int 2)) .nil)) .nil) (.cst (.int 0))) (.var 4)) .nil))) (.cons (.asg (.nm 3) (.ifx (.cmp .ne (.var 3) (.lst false .nil)) (.var 3) (.slc (.blt .sorted (.cons (.var 1) .nil)) .no (.so (.cst (.int 1)))))) (.cons (.asg (.nm 5) (.blt .tuple (.cons (.comp false [4] (.nm 4) (.seq (.var 3)) (.cst (.bl true)) (.tup (.cons (.var 4) (.cons (.bin false .add (.cst (.int 1)) (.call false 8 [] [.arg 0, .arg 1] (.cons (.var 0) (.cons (.lst false (.cons (.cst (.int 0)) (.cons (.cst (.int 0)) (.cons (.cst (.int 1)) (.cons (.cst (.int 2)) .nil))))) .nil)) .nil)) .nil)))) .nil))) (.cons (.asg (.nm 6) (.blt .sorted (.cons (.comp false [4] (.nm 4) (.seq (.var 2)) (.cmp .gt (.call false 10 [] [.arg 0, .arg 1] (.cons (.var 0) (.cons (.cst (.int 3)) .nil)) .nil) (.cst (.int 0))) (.var 4)) .nil))) (.cons (.asg (.nm 6) (.ifx (.cmp .ne (.var 6) (.lst false .nil)) (.var 6) (.slc (.blt .sorted (.cons (.var 2) .nil)) .no (.so (.cst (.int 1)))))) (.cons (.asg (.nm 7) (.blt .tuple (.cons (.comp false [4] (.nm 4) (.seq (.var 6)) (.cst (.bl true)) (.tup (.cons (.var 4) (.cons (.bin false .add (.cst (.int 1)) (.call false 8 [] [.arg 0, .arg 1] (.cons (.var 0) (.cons (.lst false (.cons (.cst (.int 0)) (.cons (.cst (.int 0)) (.cons (.cst (.int 0)) (.cons (.cst (.int 1)) (.cons (.cst (.int 2)) .nil)))))) .nil)) .nil)) .nil)))) .nil))) (.cons (.par 8 9 (.bin false .add (.cst (.int 1)) (.call false 8 [] [.arg 0, .arg 1] (.cons (.var 0) (.cons (.lst false (.cons (.cst (.int 0)) (.cons (.cst (.int 1)) (.cons (.cst (.int 1)) (.cons (.cst (.int 2)) (.cons (.cst (.int 3)) .nil)))))) .nil)) .nil)) (.call false 8 [] [.arg 0, .arg 1] (.cons (.var 0) (.cons (.lst false (.cons (.cst (.int 0)) (.cons (.cst (.int 0)) (.cons (.cst (.int 0)) (.cons (.cst (.int 1)) (.cons (.cst (.int 2)) .nil)))))) .nil)) .nil)) (.cons (.ret (.tup (.cons (.cst (.str "each")) (.cons (.var 8) (.cons (.var 9) (.cons (.var 5) (.cons (.var 7) (.cons (.call false 8 [] [.arg 0, .arg 1] (.cons (.var 0) (.cons (.lst false (.cons (.cst .non) (.cons (.cst .non) (.cons (.cst .non) (.cons (.cst (.int 1)) (.cons (.cst (.int 2)) .nil)))))) .nil)) .nil) .nil)))))))) .nil))))))))
def fd_l_rule : FD := ⟨3, 10, b_l_rule⟩
abbrev i_l_rule : Nat := 17
/-- _law_raw: 18 -/
def b_l_raw : ISs := (.cons (.par 4 5 (.lst true (.cons (.bin false .mul (.lst false (.cons (.cst (.int 0)) .nil)) (.blt .len (.cons (.var 0) .nil))) .nil)) (.lst true .nil)) (.cons (.whl (.and (.cmp .lt (.blt .len (.cons (.var 5) .nil)) (.blt .len (.cons (.var 4) .nil))) (.cmp .le (.blt .len (.cons (.var 4) .nil)) (.var 3))) (.cons (.par 6 7 (.idx (.var 4) (.blt .len (.cons (.var 5) .nil))) (.lst true .nil)) (.cons (.for (.nm 8) (.seq (.var 1)) (.cons (.asg (.nm 9) (.comp false [10, 11] (.tp [(.nm 10), (.nm 11)]) (.zip false (.cons (.var 0) (.cons (.var 6) .nil))) (.cst (.bl true)) (.bin false .add (.var 11) (.call false 27 [] [.arg 0, .arg 1] (.cons (.var 10) (.cons (.var 8) .nil)) .nil)))) (.cons (.asg (.nm 12) (.comp false [10, 11] (.tp [(.nm 10), (.nm 11)]) (.zip false (.cons (.var 0) (.cons (.var 9) .nil))) (.cst (.bl true)) (.call false 28 [] [.arg 0, .arg 1] (.cons (.var 10) (.cons (.var 11) .nil)) .nil))) (.cons (.ifs (.cmp .nin (.var 12) (.var 4)) (.cons (.expr (.bm .append (.var 4) (.cons (.var 12) .nil))) .nil) .nil) (.cons (.expr (.bm .append (.var 7) (.cons (.tup (.cons (.bm .index (.var 4) (.cons (.var 12) .nil)) (.cons (.call false 29 [] [.arg 0, .arg 1, .arg 2, .arg 3] (.cons (.var 0) (.cons (.var 2) (.cons (.var 6) (.cons (.var 9) .nil)))) .nil) .nil))) .nil))) .nil))))) (.cons (.expr (.bm .append (.var 5) (.cons (.var 7) .nil))) .nil)))) (.cons (.ret (.frz 9 (.ifx (.cmp .le (.blt .len (.cons (.var 4) .nil)) (.var 3)) (.var 5) (.cst .non)))) .nil)))
def fd_l_raw : FD := ⟨4, 13, b_l_raw⟩
abbrev i_l_raw : Nat := 18
/-- _law_renumbered: 19 -/
def b_l_renumbered : ISs := (.cons (.asg (.nm 2) (.bin false .add (.lst false (.cons (.cst (.int 0)) .nil)) (.call false 9 [] [.arg 0, .arg 1] (.cons (.var 0) (.cons (.lrng2 false (.cst (.int 1)) (.blt .len (.cons (.var 1) .nil))) .nil)) .nil))) (.cons (.ret (.comp false [5] (.nm 5) (.seq (.var 2)) (.cst (.bl true)) (.comp false [3, 4] (.tp [(.nm 3), (.nm 4)]) (.seq (.idx (.var 1) (.var 5))) (.cst (.bl true)) (.tup (.cons (.bm .index (.var 2) (.cons (.var 3) .nil)) (.cons (.var 4) .nil)))))) .nil))
def fd_l_renumbered : FD := ⟨2, 6, b_l_renumbered⟩
abbrev i_l_renumbered : Nat := 19
/-- need_names: 20 -/
def b_need_names (r0 : IS) : ISs := (.cons (.for (.tp [(.nm 1), (.nm 2)]) (.enum (.var 0)) (.cons (.ifs (.or (.not (.call false 30 [] [.arg 0] (.cons (.var 2) .nil) .nil)) (.cmp .inn (.var 2) (.slc (.var 0) .no (.so (.var 1))))) (.cons r0 .nil) .nil) .nil)) .nil)
def fd_need_names (r0 : IS) : FD := ⟨1, 3, b_need_names r0⟩
abbrev i_need_names : Nat := 20
/-- good_row: 21 -/
def b_good_row : ISs := (.cons (.ifs (.cmp .ne (.blt .len (.cons (.var 0) .nil)) (.var 1)) (.cons (.ret (.cst (.bl false))) .nil) .nil) (.cons (.for (.tp [(.nm 4), (.nm 5)]) (.seq (.var 0)) (.cons (.ifs (.or (.not (.chn .le .lt (.cst (.int 0)) (.var 4) (.var 3))) (.cmp .ne (.blt .len (.cons (.var 5) .nil)) (.var 2))) (.cons (.ret (.cst (.bl false))) .nil) .nil) (.cons (.ifs (.not (.blt .all (.cons (.comp false [6] (.nm 6) (.seq (.var 5)) (.cst (.bl true)) (.chn .le .le (.cst (.int 0)) (.var 6) (.cst (.int 999999)))) .nil))) (.cons (.ret (.cst (.bl false))) .nil) .nil) .nil))) (.cons (.ret (.cst (.bl true))) .nil)))
def fd_good_row : FD := ⟨4, 7, b_good_row⟩
abbrev i_good_row : Nat := 21
/-- heeded: 22 -/
def b_heeded : ISs := (.cons (.for (.nm 1) (.rng1 (.blt .len (.cons (.var 0) .nil))) (.cons (.for (.nm 2) (.rng1 (.blt .len (.cons (.idx (.var 0) (.var 1)) .nil))) (.cons (.for (.nm 3) (.rng2 (.bin false .add (.var 2) (.cst (.int 1))) (.blt .len (.cons (.idx (.var 0) (.var 1)) .nil))) (.cons (.ifs (.cmp .ne (.call false 31 [] [.arg 0, .arg 1, .arg 2, .arg 3] (.cons (.var 0) (.cons (.var 1) (.cons (.var 2) (.cons (.var 3) .nil)))) .nil) (.call false 31 [] [.arg 0, .arg 1, .arg 2, .arg 3] (.cons (.var 0) (.cons (.var 1) (.cons (.var 3) (.cons (.var 2) .nil)))) .nil)) (.cons (.ret (.tup (.cons (.var 1) (.cons (.var 2) (.cons (.var 3) .nil))))) .nil) .nil) .nil)) .nil)) .nil)) (.cons (.ret (.cst .non)) .nil))
def fd_heeded : FD := ⟨1, 4, b_heeded⟩
abbrev i_heeded : Nat := 22
/-- fresh_ones: 23 -/
def b_fresh_ones : ISs := (.cons (.asg (.nm 2) (.lst true .nil)) (.cons (.for (.tp [(.nm 3), (.nm 4)]) (.seq (.var 0)) (.cons (.ifs (.and (.cmp .nin (.var 3) (.var 1)) (.cmp .nin (.var 3) (.var 2))) (.cons (.expr (.bm .append (.var 2) (.cons (.var 3) .nil))) .nil) .nil) .nil)) (.cons (.ret (.frz 9 (.var 2))) .nil)))
def fd_fresh_ones : FD := ⟨2, 5, b_fresh_ones⟩
abbrev i_fresh_ones : Nat := 23
/-- Machine.moved: 24 -/
def b_Machine_moved (r0 : IS) : ISs := (.cons (.ifs (.or (.cmp .ne (.blt .len (.cons (.var 1) .nil)) (.blt .len (.cons (.fld "Machine" "inward" (.var 0)) .nil))) (.blt .any (.cons (.comp false [3] (.nm 3) (.seq (.var 1)) (.cst (.bl true)) (.cmp .lt (.var 3) (.cst (.int 0)))) .nil))) (.cons r0 .nil) .nil) (.cons (.expr (.mth false "Machine" "need_stand" 32 [] [.arg 0, .arg 1] (.var 0) (.cons (.var 2) .nil) .nil)) (.cons (.asg (.nm 4) (.blt .tuple (.cons (.comp false [5] (.nm 5) (.seq (.fld "Machine" "outward" (.var 0))) (.cst (.bl true)) (.cst (.int 0))) .nil))) (.cons (.for (.tp [(.nm 6), (.nm 3)]) (.enum (.var 1)) (.cons (.asg (.tp [(.nm 2), (.nm 7)]) (.call false 33 [] [.arg 0, .arg 1, .arg 2, .arg 3] (.cons (.fld "Machine" "table" (.var 0)) (.cons (.var 2) (.cons (.var 6) (.cons (.var 3) .nil)))) .nil)) (.cons (.asg (.nm 4) (.call false 34 [] [.arg 0, .arg 1] (.cons (.var 4) (.cons (.var 7) .nil)) .nil)) .nil))) (.cons (.ret (.tup (.cons (.var 2) (.cons (.blt .list (.cons (.var 4) .nil)) .nil)))) .nil)))))
def fd_Machine_moved (r0 : IS) : FD := ⟨3, 8, b_Machine_moved r0⟩
abbrev i_Machine_moved : Nat := 24
/-- Machine.letters: 25 -/
def b_Machine_letters : ISs := (.cons (.ret (.blt .listM (.cons (.fld "Machine" "inward" (.var 0)) .nil))) .nil)
def fd_Machine_letters : FD := ⟨1, 1, b_Machine_letters⟩
abbrev i_Machine_letters : Nat := 25
/-- Machine.__len__: 26 -/
def b_Machine_len : ISs := (.cons (.ret (.blt .len (.cons (.fld "Machine" "table" (.var 0)) .nil))) .nil)
def fd_Machine_len : FD := ⟨1, 1, b_Machine_len⟩
abbrev i_Machine_len : Nat := 26
/-- _law_weight: 27 -/
def b_l_weight : ISs := (.cons (.ret (.blt .sum (.cons (.comp false [2, 3] (.tp [(.nm 2), (.nm 3)]) (.seq (.idx (.var 0) (.cst (.int 3)))) (.cmp .eq (.var 2) (.var 1)) (.var 3)) .nil))) .nil)
def fd_l_weight : FD := ⟨2, 4, b_l_weight⟩
abbrev i_l_weight : Nat := 27
/-- _law_down: 28 -/
def b_l_down : ISs := (.cons (.ifs (.cmp .isn (.idx (.var 0) (.cst (.int 5))) (.cst .non)) (.cons (.ret (.blt .min (.cons (.var 1) (.cons (.bin false .add (.idx (.var 0) (.cst (.int 2))) (.bin false .mul (.idx (.var 0) (.cst (.int 1))) (.idx (.var 0) (.cst (.int 5))))) .nil)))) .nil) .nil) (.cons (.ret (.ifx (.cmp .lt (.var 1) (.idx (.var 0) (.cst (.int 2)))) (.var 1) (.bin false .add (.idx (.var 0) (.cst (.int 2))) (.bin false .mod (.bin false .sub (.var 1) (.idx (.var 0) (.cst (.int 2)))) (.idx (.var 0) (.cst (.int 1))))))) .nil))
def fd_l_down : FD := ⟨2, 2, b_l_down⟩
abbrev i_l_down : Nat := 28
/-- _law_gain: 29 -/
def b_l_gain : ISs := (.cons (.asg (.nm 4) (.bin true .mul (.lst false (.cons (.cst (.int 0)) .nil)) (.blt .len (.cons (.var 1) .nil)))) (.cons (.for (.tp [(.nm 5), (.nm 6), (.nm 7)]) (.zip false (.cons (.var 0) (.cons (.var 2) (.cons (.var 3) .nil)))) (.cons (.for (.tp [(.nm 8), (.nm 9)]) (.seq (.idx (.var 5) (.cst (.int 4)))) (.cons (.augI (.var 4) (.bm .index (.var 1) (.cons (.var 8) .nil)) .add (.bin false .mul (.var 9) (.bin false .sub (.call false 35 [] [.arg 0, .arg 1] (.cons (.var 5) (.cons (.var 7) .nil)) .nil) (.call false 35 [] [.arg 0, .arg 1] (.cons (.var 5) (.cons (.var 6) .nil)) .nil)))) .nil)) .nil)) (.cons (.ret (.blt .tuple (.cons (.var 4) .nil))) .nil)))
def fd_l_gain : FD := ⟨4, 10, b_l_gain⟩
abbrev i_l_gain : Nat := 29
/-- is_name: 30 -/
def b_is_name : ISs := (.cons (.ret (.and (.chn .le .le (.cst (.int 1)) (.blt .len (.cons (.var 0) .nil)) (.cst (.int 6))) (.blt .all (.cons (.comp false [1] (.nm 1) (.seq (.var 0)) (.cst (.bl true)) (.cmp .inn (.var 1) (.cst (.str "abcdefghijklmnopqrstuvwxyz")))) .nil)))) .nil)
def fd_is_name : FD := ⟨1, 2, b_is_name⟩
abbrev i_is_name : Nat := 30
/-- both_ways: 31 -/
def b_both_ways : ISs := (.cons (.asg (.tp [(.nm 4), (.nm 5)]) (.idx (.idx (.var 0) (.var 1)) (.var 2))) (.cons (.asg (.tp [(.nm 6), (.nm 7)]) (.idx (.idx (.var 0) (.var 4)) (.var 3))) (.cons (.ret (.tup (.cons (.var 6) (.cons (.call false 34 [] [.arg 0, .arg 1] (.cons (.var 5) (.cons (.var 7) .nil)) .nil) .nil)))) .nil)))
def fd_both_ways : FD := ⟨4, 8, b_both_ways⟩
abbrev i_both_ways : Nat := 31
/-- Machine.need_stand: 32 -/
def b_Machine_need_stand (r0 : IS) : ISs := (.cons (.ifs (.not (.chn .le .lt (.cst (.int 0)) (.var 1) (.blt .len (.cons (.fld "Machine" "table" (.var 0)) .nil)))) (.cons r0 .nil) .nil) .nil)
def fd_Machine_need_stand (r0 : IS) : FD := ⟨2, 2, b_Machine_need_stand r0⟩
abbrev i_Machine_need_stand : Nat := 32
/-- far_moved: 33 -/
def b_far_moved : ISs := (.cons (.asg (.nm 4) (.comp false [5] (.nm 5) (.seq (.var 0)) (.cst (.bl true)) (.idx (.var 5) (.var 2)))) (.cons (.asg (.nm 6) (.blt .tuple (.cons (.comp false [7] (.nm 7) (.seq (.idx (.idx (.var 4) (.var 1)) (.cst (.int 1)))) (.cst (.bl true)) (.cst (.int 0))) .nil))) (.cons (.whl (.cmp .gt (.var 3) (.cst (.int 0))) (.cons (.ifs (.cmp .eq (.bin false .mod (.var 3) (.cst (.int 2))) (.cst (.int 1))) (.cons (.asg (.tp [(.nm 1), (.nm 8)]) (.idx (.var 4) (.var 1))) (.cons (.asg (.nm 6) (.call false 34 [] [.arg 0, .arg 1] (.cons (.var 6) (.cons (.var 8) .nil)) .nil)) .nil)) .nil) (.cons (.aug 3 .fdiv (.cst (.int 2))) (.cons (.asg (.nm 4) (.comp false [9, 8] (.tp [(.nm 9), (.nm 8)]) (.seq (.var 4)) (.cst (.bl true)) (.tup (.cons (.idx (.idx (.var 4) (.var 9)) (.cst (.int 0))) (.cons (.call false 34 [] [.arg 0, .arg 1] (.cons (.var 8) (.cons (.idx (.idx (.var 4) (.var 9)) (.cst (.int 1))) .nil)) .nil) .nil))))) .nil)))) (.cons (.ret (.tup (.cons (.var 1) (.cons (.var 6) .nil)))) .nil))))
def fd_far_moved : FD := ⟨4, 10, b_far_moved⟩
abbrev i_far_moved : Nat := 33
/-- added: 34 -/
def b_added : ISs := (.cons (.ret (.blt .tuple (.cons (.comp false [2, 3] (.tp [(.nm 2), (.nm 3)]) (.zip true (.cons (.var 0) (.cons (.var 1) .nil))) (.cst (.bl true)) (.bin false .add (.var 2) (.var 3))) .nil))) .nil)
def fd_added : FD := ⟨2, 4, b_added⟩
abbrev i_added : Nat := 34
/-- _law_times_of: 35 -/
def b_l_times_of : ISs := (.cons (.asg (.nm 2) (.bin false .fdiv (.blt .max (.cons (.cst (.int 0)) (.cons (.bin false .sub (.var 1) (.idx (.var 0) (.cst (.int 2)))) .nil))) (.idx (.var 0) (.cst (.int 1))))) (.cons (.ret (.ifx (.cmp .is (.idx (.var 0) (.cst (.int 5))) (.cst .non)) (.var 2) (.blt .min (.cons (.var 2) (.cons (.idx (.var 0) (.cst (.int 5))) .nil))))) .nil))
def fd_l_times_of : FD := ⟨2, 3, b_l_times_of⟩
abbrev i_l_times_of : Nat := 35
end P

set_option Elab.async false
set_option linter.all false
set_option maxRecDepth 100000
set_option maxHeartbeats 4000000
/-! HvS: running the inner form by rewriting; the laws' own helpers. -/
namespace Hv
open PySem PySem.Spec PyProof.Rows L2

theorem evF_at {T : Tab} {k i : Nat} {fd : FD} (h : T.lookup i = some fd) (as : List D) (c : Ct) : evF T (k + 1) i as c = runF (evF T k) fd as c := by
  show (match T.lookup i with | none => Res.stuck | some fd => runF (evF T k) fd as c) = _
  rw [h]
theorem evSs_cons (call : CallF) (s : IS) (r : ISs) (sl : Sl) (c : Ct) : evSs call (.cons s r) sl c = seqK (evS call s sl c) (evSs call r) := by
  rw [evSs]
  unfold seqK
  cases evS call s sl c with
  | stuck => rfl
  | ok f c => cases f <;> rfl
theorem evSs_nil (call : CallF) (sl : Sl) (c : Ct) : evSs call .nil sl c = .ok (.nx sl) c := rfl
theorem seqK_nx (sl : Sl) (c : Ct) (k : Sl → Ct → RS) : seqK (.ok (.nx sl) c) k = k sl c := rfl
theorem seqK_rt (d : D) (sl : Sl) (c : Ct) (k : Sl → Ct → RS) : seqK (.ok (.rt d sl) c) k = .ok (.rt d sl) c := rfl
theorem seqK_ex (d : XD) (sl : Sl) (c : Ct) (k : Sl → Ct → RS) : seqK (.ok (.ex d sl) c) k = .ok (.ex d sl) c := rfl
theorem seqK_bk (sl : Sl) (c : Ct) (k : Sl → Ct → RS) : seqK (.ok (.bk sl) c) k = .ok (.bk sl) c := rfl
theorem seqK_ct (sl : Sl) (c : Ct) (k : Sl → Ct → RS) : seqK (.ok (.ct sl) c) k = .ok (.ct sl) c := rfl
theorem seqK_ite {p : Prop} [Decidable p] (a b : RS) (k : Sl → Ct → RS) : seqK (if p then a else b) k = if p then seqK a k else seqK b k := by split <;> rfl
theorem fin_nx (sl : Sl) (c : Ct) : fin (.ok (.nx sl) c) = .ok .non c := rfl
theorem fin_rt (d : D) (sl : Sl) (c : Ct) : fin (.ok (.rt d sl) c) = .ok d c := rfl
theorem fin_ex (d : XD) (sl : Sl) (c : Ct) : fin (.ok (.ex d sl) c) = .exc d c := rfl
theorem fin_ite {p : Prop} [Decidable p] (a b : RS) : fin (if p then a else b) = if p then fin a else fin b := by split <;> rfl
theorem bolK_bl (b : Bool) (c : Ct) : bolK (.bl b) c = .ok b c := rfl
theorem varK_some (d : D) (c : Ct) : varK (some (some d)) c = .ok d c := rfl
theorem andK_t (f : Ct → Res D) (c : Ct) : andK (.bl true) f c = f c := rfl
theorem andK_f (f : Ct → Res D) (c : Ct) : andK (.bl false) f c = .ok (.bl false) c := rfl
theorem orK_t (f : Ct → Res D) (c : Ct) : orK (.bl true) f c = .ok (.bl true) c := rfl
theorem orK_f (f : Ct → Res D) (c : Ct) : orK (.bl false) f c = f c := rfl
theorem notK_bl (b : Bool) (c : Ct) : notK (.bl b) c = .ok (.bl (!b)) c := rfl
theorem and_bl (b : Bool) (f : Ct → Res D) (c : Ct) : andK (.bl b) f c = if b = true then f c else .ok (.bl false) c := by cases b <;> rfl
theorem or_bl (b : Bool) (f : Ct → Res D) (c : Ct) : orK (.bl b) f c = if b = true then .ok (.bl true) c else f c := by cases b <;> rfl
theorem bnd_ite {α β : Type} {p : Prop} [Decidable p] (a b : Res α) (k : α → Ct → Res β) : bnd (if p then a else b) k = if p then bnd a k else bnd b k := by split <;> rfl
theorem ofR_ite {α : Type} {p : Prop} [Decidable p] (a b : Res α) (sl : Sl) (k : α → Ct → RS) : ofR (if p then a else b) sl k = if p then ofR a sl k else ofR b sl k := by split <;> rfl
theorem tru_bl' (b : Bool) (c : Ct) : truD (.bl b) c = .ok b c := rfl
theorem truK_bl (b : Bool) (c : Ct) : truK (.bl b) c = .ok (.bl b) c := rfl
theorem tupK_ok {ds : List D} (h : ds.length ≤ 1000) (c : Ct) : tupK ds c = .ok (.tup ds) c := by unfold tupK; rw [if_pos h]
theorem lstK_f {ds : List D} (h : ds.length ≤ 1000) (c : Ct) : lstK false ds c = .ok (.lst ds) c := by unfold lstK; rw [if_pos h]; rfl
theorem lstK_t {ds : List D} (h : ds.length ≤ 1000) (c : Ct) : lstK true ds c = .ok (.ref c.length) (c ++ [.lst ds]) := by unfold lstK; rw [if_pos h]; rfl
theorem its_ref {n : Nat} {c : Ct} {xs : List D} (h : c[n]? = some (.lst xs)) : itsD (.ref n) c = some xs := by
  dsimp only [itsD]
  rw [h]
theorem idx_its {x : D} {k : Int} {c : Ct} {xs : List D} {d : D} (h : itsD x c = some xs) (h2 : atI xs k = some d) : idxD x (.int k) c = .ok d c := by
  have e : idxD x (.int k) c = match itsD x c with
      | some xs => ofO (atI xs k) c
      | none => .stuck := by
    cases x <;> first | rfl | cases h
  rw [e, h]
  simp only
  rw [h2]
  rfl
theorem put_ref {n : Nat} {k : Int} {c : Ct} {xs : List D} {d : D} {j : Nat} (h : c[n]? = some (.lst xs)) (h2 : ixN xs.length k = some j) : putD (.ref n) (.int k) d c = some (c.set n (.lst (xs.set j d))) := by
  dsimp only [putD]
  rw [h]
  simp only
  rw [h2]
  rfl
theorem ofNat_fmod (a b : Int) (hb : 0 < b) : a.fmod b = a % b := Int.fmod_eq_emod_of_nonneg a (by omega)
theorem ofNat_fdiv (a b : Int) (hb : 0 < b) : a.fdiv b = a / b := Int.fdiv_eq_ediv_of_nonneg a (by omega)
theorem mulD {mu : Bool} {i j : Int} (h : i.natAbs.log2 + j.natAbs.log2 < big) (c : Ct) : binD mu .mul (.int i) (.int j) c = .ok (.int (i * j)) c := by
  show (if _ then _ else _) = _
  rw [if_pos h]
theorem modD {mu : Bool} {i j : Int} (h : 0 < j) (c : Ct) : binD mu .mod (.int i) (.int j) c = .ok (.int (i % j)) c := by
  show (if _ then _ else _) = _
  rw [if_pos (show j ≠ 0 by omega), ofNat_fmod _ _ h]
theorem divD {mu : Bool} {i j : Int} (h : 0 < j) (h2 : j.natAbs.log2 < 9000) (c : Ct) : binD mu .fdiv (.int i) (.int j) c = .ok (.int (i / j)) c := by
  show (if _ then _ else _) = _
  rw [if_pos ⟨(show j ≠ 0 by omega), h2⟩, ofNat_fdiv _ _ h]
theorem log2_lt {i : Int} {n : Nat} (hn : 0 < n) (h : i.natAbs < 2 ^ n) : i.natAbs.log2 < n := PySem.Flt.log2_lt_of hn h
theorem mulD' {mu : Bool} {i j : Int} (a b : Nat) (ha : i.natAbs < 2 ^ a) (hb : j.natAbs < 2 ^ b) (h0 : 0 < a) (h1 : 0 < b) (h : a + b ≤ 1000000) (c : Ct) : binD mu .mul (.int i) (.int j) c = .ok (.int (i * j)) c :=
  mulD (by have := log2_lt h0 ha; have := log2_lt h1 hb; unfold big; omega) c

theorem bin_add {mu : Bool} (i j : Int) (c : Ct) : binD mu .add (.int i) (.int j) c = .ok (.int (i + j)) c := rfl
theorem bin_sub {mu : Bool} (i j : Int) (c : Ct) : binD mu .sub (.int i) (.int j) c = .ok (.int (i - j)) c := rfl
theorem cmp_lt (i j : Int) (c : Ct) : cmpD .lt (.int i) (.int j) c = .ok (.bl (decide (i < j))) c := rfl
theorem cmp_le (i j : Int) (c : Ct) : cmpD .le (.int i) (.int j) c = .ok (.bl (decide (i ≤ j))) c := rfl
theorem cmp_gt (i j : Int) (c : Ct) : cmpD .gt (.int i) (.int j) c = .ok (.bl (decide (j < i))) c := rfl
theorem cmp_ge (i j : Int) (c : Ct) : cmpD .ge (.int i) (.int j) c = .ok (.bl (decide (j ≤ i))) c := rfl
theorem cmp_eqI (i j : Int) (c : Ct) : cmpD .eq (.int i) (.int j) c = .ok (.bl (decide (i = j))) c := rfl
theorem cmp_neI (i j : Int) (c : Ct) : cmpD .ne (.int i) (.int j) c = .ok (.bl (!decide (i = j))) c := rfl
theorem cmp_eqB (i j : Bool) (c : Ct) : cmpD .eq (.bl i) (.bl j) c = .ok (.bl (decide (i = j))) c := rfl
theorem cmp_neB (i j : Bool) (c : Ct) : cmpD .ne (.bl i) (.bl j) c = .ok (.bl (!decide (i = j))) c := rfl
theorem cmp_eqS (i j : Str) (c : Ct) : cmpD .eq (.str i) (.str j) c = .ok (.bl (decide (i = j))) c := rfl
theorem cmp_neS (i j : Str) (c : Ct) : cmpD .ne (.str i) (.str j) c = .ok (.bl (!decide (i = j))) c := rfl
theorem cmp_isN (x : D) (c : Ct) : cmpD .is x .non c = .ok (.bl (isNon x)) c := by cases x <;> rfl
theorem cmp_isnN (x : D) (c : Ct) : cmpD .isn x .non c = .ok (.bl (!isNon x)) c := by cases x <;> rfl
theorem cmp_isB (i j : Bool) (c : Ct) : cmpD .is (.bl i) (.bl j) c = .ok (.bl (decide (i = j))) c := rfl
theorem len_lst (xs : List D) (c : Ct) : bltD .len [.lst xs] c = .ok (.int (xs.length : Int)) c := rfl
theorem len_tup (xs : List D) (c : Ct) : bltD .len [.tup xs] c = .ok (.int (xs.length : Int)) c := rfl
theorem mod_nn {i j : Int} (h : 0 < j) : 0 ≤ i % j ∧ i % j < j := ⟨Int.emod_nonneg _ (by omega), Int.emod_lt_of_pos _ h⟩
theorem idx_nat {x : D} {c : Ct} {xs : List D} {i : Int} {d : D} (h : itsD x c = some xs) (h0 : 0 ≤ i) (h2 : xs[i.toNat]? = some d) : idxD x (.int i) c = .ok d c := by
  refine idx_its h ?_
  have hl := (List.getElem?_eq_some_iff.mp h2).1
  unfold atI ixN
  rw [if_pos h0, if_pos (by omega)]
  exact h2
/-! ### what a call leaves behind -/
theorem cut_len {c c' : Ct} (h : c'.length = c.length) (b : Bool) : cut c c' b = c' := by
  unfold cut
  split
  · rw [← h, List.take_length]
  · rfl
theorem gcK_len {c c' : Ct} (h : c'.length = c.length) (d : D) : gcK c (.ok d c') = .ok d c' := by
  show Res.ok d (cut c c' _) = _
  rw [cut_len h]
theorem gcK_same (c : Ct) (d : D) : gcK c (.ok d c) = .ok d c := gcK_len rfl d
theorem gcK_ref (c c' : Ct) (m : Nat) (h : c.length ≤ m) : gcK c (.ok (.ref m) c') = .ok (.ref m) c' := by
  show Res.ok _ (cut c c' (rLt c.length (.ref m))) = _
  unfold cut
  rw [if_neg]
  rintro ⟨z, _⟩
  rw [rLt] at z
  have := of_decide_eq_true z
  omega
mutual
theorem rLt_mono {m n : Nat} (h : m ≤ n) : ∀ (d : D), rLt m d = true → rLt n d = true
  | .ref k, e => by rw [rLt] at e ⊢; have := of_decide_eq_true e; exact decide_eq_true (by omega)
  | .tup xs, e => by rw [rLt] at e ⊢; exact rLts_mono h xs e
  | .lst xs, e => by rw [rLt] at e ⊢; exact rLts_mono h xs e
  | .scr xs, e => by rw [rLt] at e ⊢; exact rLts_mono h xs e
  | .ins _ fs, e => by rw [rLt] at e ⊢; exact rLtf_mono h fs e
  | .dct kvs, e => by rw [rLt] at e ⊢; exact rLtk_mono h kvs e
  | .non, _ => by rw [rLt]
  | .bl _, _ => by rw [rLt]
  | .int _, _ => by rw [rLt]
  | .str _, _ => by rw [rLt]
  | .ty _, _ => by rw [rLt]
  | .glo _, _ => by rw [rLt]
theorem rLts_mono {m n : Nat} (h : m ≤ n) : ∀ (d : List D), rLts m d = true → rLts n d = true
  | [], _ => by rw [rLts]
  | d :: ds, e => by rw [rLts, Bool.and_eq_true] at e ⊢; exact ⟨rLt_mono h d e.1, rLts_mono h ds e.2⟩
theorem rLtf_mono {m n : Nat} (h : m ≤ n) : ∀ (d : List (Str × D)), rLtf m d = true → rLtf n d = true
  | [], _ => by rw [rLtf]
  | (_, d) :: ds, e => by rw [rLtf, Bool.and_eq_true] at e ⊢; exact ⟨rLt_mono h d e.1, rLtf_mono h ds e.2⟩
theorem rLtk_mono {m n : Nat} (h : m ≤ n) : ∀ (d : List (D × D)), rLtk m d = true → rLtk n d = true
  | [], _ => by rw [rLtk]
  | (_, d) :: ds, e => by rw [rLtk, Bool.and_eq_true] at e ⊢; exact ⟨rLt_mono h d e.1, rLtk_mono h ds e.2⟩
end
theorem rLts_all {n : Nat} : ∀ {ds : List D}, (∀ d ∈ ds, rLt n d = true) → rLts n ds = true
  | [], _ => by rw [rLts]
  | d :: ds, h => by rw [rLts, h d List.mem_cons_self, rLts_all fun e he => h e (List.mem_cons_of_mem _ he)]; rfl
theorem rLts_get {n : Nat} : ∀ {ds : List D}, rLts n ds = true → ∀ d ∈ ds, rLt n d = true
  | d :: ds, h, e, he => by
    rw [rLts, Bool.and_eq_true] at h
    rcases List.mem_cons.mp he with z | z
    · rw [z]; exact h.1
    · exact rLts_get h.2 e z
theorem gcK_app {c c1 g : Ct} {d : D} (hl : c1.length = c.length) (hd : rLt c.length d = true) (hc : ∀ i, i < c.length → c1[i]? = c[i]? ∨ ∃ u, c1[i]? = some u ∧ cLt c.length u = true) : gcK c (.ok d (c1 ++ g)) = .ok d c1 := by
  show Res.ok d (cut c (c1 ++ g) (rLt c.length d)) = _
  have hx : rLt c.length d = true ∧ c.length ≤ (c1 ++ g).length ∧ (∀ i, i < c.length → (c1 ++ g)[i]? = c[i]? ∨ ∃ u, (c1 ++ g)[i]? = some u ∧ cLt c.length u = true) := by
    refine ⟨hd, by rw [List.length_append]; omega, fun i hi => ?_⟩
    rw [List.getElem?_append_left (by omega)]
    exact hc i hi
  unfold cut
  rw [if_pos hx, ← hl, List.take_left]
/-- ahead of it, nothing has changed -/
theorem gcK_drop {c g : Ct} {d : D} (hd : rLt c.length d = true) : gcK c (.ok d (c ++ g)) = .ok d c := gcK_app rfl hd fun i _ => .inl rfl
/-- the first cell alone has changed -/
theorem gcK_drop0 {u u' : Cell} {c g : Ct} {d : D} (hd : rLt (c.length + 1) d = true) (hu : cLt (c.length + 1) u' = true) : gcK (u :: c) (.ok d (u' :: c ++ g)) = .ok d (u' :: c) :=
  gcK_app (c1 := u' :: c) rfl hd fun i hi => match i with
    | 0 => .inr ⟨u', rfl, hu⟩
    | _ + 1 => .inl rfl
theorem retK_t (c : Ct) (r : Res D) : retK true c r = gcK c (bnd r (frzK 9)) := rfl
theorem retK_f (c : Ct) (r : Res D) : retK false c r = r := rfl
/-! ### the laws' draws -/
/-- a deal: the script's numbers, the place, what is left of a great one, the seed, how many draws -/
def deal (ns : List Int) (i b s n : Int) : List D := [.lst (ns.map .int), .int i, .int b, .int s, .int n]
structure DealOk (ns : List Int) (x : List D) : Prop where
  ex : ∃ i b s n : Int, x = deal ns i b s n ∧ 0 ≤ i ∧ 0 ≤ b ∧ 0 ≤ s ∧ s < 2147483587
section
variable {call : CallF} {ns : List Int} {i b s n : Int} {r : Nat} {c : Ct}
theorem deal_at (j : Nat) : atI (deal ns i b s n) (j : Int) = (deal ns i b s n)[j]? := by
  have hl : (deal ns i b s n).length = 5 := rfl
  unfold atI ixN
  rw [hl, if_pos (by omega)]
  by_cases h : j < 5
  · rw [if_pos (by omega)]
    rfl
  · rw [if_neg (by omega), List.getElem?_eq_none (by rw [hl]; omega)]
    rfl
theorem idx0 (h : c[r]? = some (.lst (deal ns i b s n))) : idxD (.ref r) (.int 0) c = .ok (.lst (ns.map .int)) c := idx_its (its_ref h) (deal_at 0)
theorem idx1 (h : c[r]? = some (.lst (deal ns i b s n))) : idxD (.ref r) (.int 1) c = .ok (.int i) c := idx_its (its_ref h) (deal_at 1)
theorem idx2 (h : c[r]? = some (.lst (deal ns i b s n))) : idxD (.ref r) (.int 2) c = .ok (.int b) c := idx_its (its_ref h) (deal_at 2)
theorem idx3 (h : c[r]? = some (.lst (deal ns i b s n))) : idxD (.ref r) (.int 3) c = .ok (.int s) c := idx_its (its_ref h) (deal_at 3)
theorem idx4 (h : c[r]? = some (.lst (deal ns i b s n))) : idxD (.ref r) (.int 4) c = .ok (.int n) c := idx_its (its_ref h) (deal_at 4)
theorem put1 (h : c[r]? = some (.lst (deal ns i b s n))) (v : Int) : putD (.ref r) (.int 1) (.int v) c = some (c.set r (.lst (deal ns v b s n))) := by rw [put_ref (j := 1) h rfl]; rfl
theorem put2 (h : c[r]? = some (.lst (deal ns i b s n))) (v : Int) : putD (.ref r) (.int 2) (.int v) c = some (c.set r (.lst (deal ns i v s n))) := by rw [put_ref (j := 2) h rfl]; rfl
theorem put3 (h : c[r]? = some (.lst (deal ns i b s n))) (v : Int) : putD (.ref r) (.int 3) (.int v) c = some (c.set r (.lst (deal ns i b v n))) := by rw [put_ref (j := 3) h rfl]; rfl
theorem put4 (h : c[r]? = some (.lst (deal ns i b s n))) (v : Int) : putD (.ref r) (.int 4) (.int v) c = some (c.set r (.lst (deal ns i b s v))) := by rw [put_ref (j := 4) h rfl]; rfl
theorem set_at {c : Ct} {r : Nat} {u : Cell} (h : r < c.length) : (c.set r u)[r]? = some u := List.getElem?_set_self h
theorem sm31 {s : Int} (h0 : 0 ≤ s) (h : s < 2147483648) : s.natAbs < 2 ^ 31 := by omega
set_option maxHeartbeats 16000000 in
theorem pick_ok {T : Tab} {k : Nat} (hT : T.lookup P.i_l_pick = some P.fd_l_pick) {ns : List Int} {c : Ct} {r : Nat} {x : List D} {m : Int} (hc : c[r]? = some (.lst x)) (hx : DealOk ns x) (hm : 0 < m) (hm2 : m.natAbs.log2 < 9000) :
    ∃ x' v, DealOk ns x' ∧ 0 ≤ v ∧ v < m ∧ evF T (k + 1) P.i_l_pick [.ref r, .int m] c = .ok (.int v) (c.set r (.lst x')) := by
  obtain ⟨i, b, s, n, rfl, hi, hb, hs, hs2⟩ := hx.ex
  have hr : r < c.length := (List.getElem?_eq_some_iff.mp hc).1
  rw [evF_at hT]
  suffices ∃ x' v, DealOk ns x' ∧ 0 ≤ v ∧ v < m ∧ fin (evSs (evF T k) P.b_l_pick [some (.ref r), some (.int m), none, none, none] c) = .ok (.int v) (c.set r (.lst x')) by
    obtain ⟨x', v, h1, h2, h3, h4⟩ := this
    refine ⟨x', v, h1, h2, h3, ?_⟩
    show gcK c (fin (evSs (evF T k) P.b_l_pick [some (.ref r), some (.int m), none, none, none] c)) = _
    rw [h4]
    exact gcK_len (by simp) _
  show ∃ x' v, DealOk ns x' ∧ 0 ≤ v ∧ v < m ∧ fin (evSs (evF T k) P.b_l_pick [some (.ref r), some (.int m), none, none, none] c) = .ok (.int v) (c.set r (.lst x'))
  unfold P.b_l_pick
  have h1 : (c.set r (.lst (deal ns i b s (n + 1))))[r]? = some (.lst (deal ns i b s (n + 1))) := set_at hr
  generalize hc1 : c.set r (.lst (deal ns i b s (n + 1))) = c1 at h1
  have hr1 : r < c1.length := by rw [← hc1]; simpa using hr
  have set1 : ∀ u, c1.set r u = c.set r u := fun u => by rw [← hc1, List.set_set]
  -- the next of the script, if it is asked
  have A : ∃ w i2 b2 s2, 0 ≤ i2 ∧ 0 ≤ b2 ∧ 0 ≤ s2 ∧ s2 < 2147483587 ∧ evS (evF T k) (.ifs (.and (.cmp .eq (.idx (.var 0) (.cst (.int 2))) (.cst (.int 0))) (.cmp .lt (.idx (.var 0) (.cst (.int 1))) (.blt .len (.cons (.idx (.var 0) (.cst (.int 0))) .nil)))) (.cons (.asg (.nm 2) (.idx (.idx (.var 0) (.cst (.int 0))) (.idx (.var 0) (.cst (.int 1))))) (.cons (.put (.var 0) (.cst (.int 1)) (.bin false .add (.idx (.var 0) (.cst (.int 1))) (.cst (.int 1)))) (.cons (.ifs (.cmp .ge (.var 2) (.bin false .pow (.cst (.int 10)) (.cst (.int 18)))) (.cons (.put (.var 0) (.cst (.int 2)) (.var 2)) .nil) (.cons (.put (.var 0) (.cst (.int 3)) (.bin false .mod (.bin false .add (.bin false .add (.bin false .mul (.idx (.var 0) (.cst (.int 3))) (.cst (.int 69069))) (.bin false .mul (.bin false .mod (.var 2) (.cst (.int 2147483629))) (.cst (.int 40503)))) (.cst (.int 11))) (.cst (.int 2147483587)))) .nil)) .nil))) .nil) [some (.ref r), some (.int m), none, none, none] c1 = .ok (.nx [some (.ref r), some (.int m), w, none, none]) (c.set r (.lst (deal ns i2 b2 s2 (n + 1)))) := by
    by_cases hb0 : b = 0
    · subst hb0
      by_cases hlt : i < (ns.length : Int)
      · obtain ⟨z, hz⟩ : ∃ z, ns[i.toNat]? = some z := ⟨_, List.getElem?_eq_getElem (by omega)⟩
        have hz2 : (ns.map D.int)[i.toNat]? = some (.int z) := by rw [List.getElem?_map, hz]; rfl
        have h2 : (c.set r (.lst (deal ns (i + 1) 0 s (n + 1))))[r]? = some (.lst (deal ns (i + 1) 0 s (n + 1))) := set_at hr
        have hp : binD false .pow (.int 10) (.int 18) (c.set r (.lst (deal ns (i + 1) 0 s (n + 1)))) = .ok (.int (10 ^ 18)) (c.set r (.lst (deal ns (i + 1) 0 s (n + 1)))) := rfl
        have hix := idx_nat (x := .lst (ns.map D.int)) (c := c1) rfl hi hz2
        by_cases hg : (10 : Int) ^ 18 ≤ z
        · refine ⟨some (.int z), i + 1, z, s, by omega, by omega, hs, hs2, ?_⟩
          simp only [evSs_cons, evSs_nil, seqK_nx, seqK_rt, seqK_ex, evS, evM, evA, evO, evI, evT, bnd_ok, ofR_ok, tst_f, tst_t, varK_some, Cst.d, bolK_bl, tru_bl', truK_bl, and_bl, or_bl, notK_bl, bin_add, bin_sub, cmp_lt, cmp_le, cmp_gt, cmp_ge, cmp_eqI, cmp_neI, cmp_eqB, cmp_neB, cmp_eqS, cmp_neS, cmp_isN, cmp_isnN, cmp_isB, len_lst, len_tup, isNon, intO, seqD, asT, asTs, Option.bind_some, List.getElem?_cons_zero, List.getElem?_cons_succ, List.set_cons_zero, List.set_cons_succ, fin_rt, fin_nx, fin_ex, if_true, callK, arrD, List.cons_append, List.nil_append, Option.map_some, retK_f, eq_self, decide_true, decide_false, Bool.false_eq_true, if_false, idx2 h1, idx1 h1, idx0 h1, List.length_map, hlt, hix, put1 h1, set1, hp, hg, put2 h2, List.set_set]
        · have hz3 := mod_nn (i := z) (j := 2147483629) (by omega)
          have hz4 := mod_nn (i := s * 69069 + z % 2147483629 * 40503 + 11) (j := 2147483587) (by omega)
          refine ⟨some (.int z), i + 1, 0, (s * 69069 + z % 2147483629 * 40503 + 11) % 2147483587, by omega, by omega, hz4.1, hz4.2, ?_⟩
          simp only [evSs_cons, evSs_nil, seqK_nx, seqK_rt, seqK_ex, evS, evM, evA, evO, evI, evT, bnd_ok, ofR_ok, tst_f, tst_t, varK_some, Cst.d, bolK_bl, tru_bl', truK_bl, and_bl, or_bl, notK_bl, bin_add, bin_sub, cmp_lt, cmp_le, cmp_gt, cmp_ge, cmp_eqI, cmp_neI, cmp_eqB, cmp_neB, cmp_eqS, cmp_neS, cmp_isN, cmp_isnN, cmp_isB, len_lst, len_tup, isNon, intO, seqD, asT, asTs, Option.bind_some, List.getElem?_cons_zero, List.getElem?_cons_succ, List.set_cons_zero, List.set_cons_succ, fin_rt, fin_nx, fin_ex, if_true, callK, arrD, List.cons_append, List.nil_append, Option.map_some, retK_f, eq_self, decide_true, decide_false, Bool.false_eq_true, if_false, idx2 h1, idx1 h1, idx0 h1, List.length_map, hlt, hix, put1 h1, set1, hp, hg, idx3 h2, mulD' (i := s) (j := 69069) 31 20 (by omega) (by decide) (by omega) (by omega) (by omega), modD (i := z) (j := 2147483629) (by omega), mulD' (i := z % 2147483629) (j := 40503) 31 20 (by omega) (by decide) (by omega) (by omega) (by omega), modD (j := 2147483587) (by omega : (0 : Int) < 2147483587), put3 h2, List.set_set]
      · refine ⟨none, i, 0, s, hi, by omega, hs, hs2, ?_⟩
        simp only [evSs_cons, evSs_nil, seqK_nx, seqK_rt, seqK_ex, evS, evM, evA, evO, evI, evT, bnd_ok, ofR_ok, tst_f, tst_t, varK_some, Cst.d, bolK_bl, tru_bl', truK_bl, and_bl, or_bl, notK_bl, bin_add, bin_sub, cmp_lt, cmp_le, cmp_gt, cmp_ge, cmp_eqI, cmp_neI, cmp_eqB, cmp_neB, cmp_eqS, cmp_neS, cmp_isN, cmp_isnN, cmp_isB, len_lst, len_tup, isNon, intO, seqD, asT, asTs, Option.bind_some, List.getElem?_cons_zero, List.getElem?_cons_succ, List.set_cons_zero, List.set_cons_succ, fin_rt, fin_nx, fin_ex, if_true, callK, arrD, List.cons_append, List.nil_append, Option.map_some, retK_f, eq_self, decide_true, decide_false, Bool.false_eq_true, if_false, idx2 h1, idx1 h1, idx0 h1, List.length_map, hlt]
        rw [← hc1]
    · refine ⟨none, i, b, s, hi, hb, hs, hs2, ?_⟩
      simp only [evSs_cons, evSs_nil, seqK_nx, seqK_rt, seqK_ex, evS, evM, evA, evO, evI, evT, bnd_ok, ofR_ok, tst_f, tst_t, varK_some, Cst.d, bolK_bl, tru_bl', truK_bl, and_bl, or_bl, notK_bl, bin_add, bin_sub, cmp_lt, cmp_le, cmp_gt, cmp_ge, cmp_eqI, cmp_neI, cmp_eqB, cmp_neB, cmp_eqS, cmp_neS, cmp_isN, cmp_isnN, cmp_isB, len_lst, len_tup, isNon, intO, seqD, asT, asTs, Option.bind_some, List.getElem?_cons_zero, List.getElem?_cons_succ, List.set_cons_zero, List.set_cons_succ, fin_rt, fin_nx, fin_ex, if_true, callK, arrD, List.cons_append, List.nil_append, Option.map_some, retK_f, eq_self, decide_true, decide_false, Bool.false_eq_true, if_false, idx2 h1, hb0]
      rw [← hc1]
  obtain ⟨w, i2, b2, s2, hi2, hb2, hs3, hs4, hA⟩ := A
  have h2 : (c.set r (.lst (deal ns i2 b2 s2 (n + 1))))[r]? = some (.lst (deal ns i2 b2 s2 (n + 1))) := set_at hr
  have e1 : evS (evF T k) (.put (.var 0) (.cst (.int 4)) (.bin false .add (.idx (.var 0) (.cst (.int 4))) (.cst (.int 1)))) [some (.ref r), some (.int m), none, none, none] c = .ok (.nx [some (.ref r), some (.int m), none, none, none]) c1 := by
    simp only [evSs_cons, evSs_nil, seqK_nx, seqK_rt, seqK_ex, evS, evM, evA, evO, evI, evT, bnd_ok, ofR_ok, tst_f, tst_t, varK_some, Cst.d, bolK_bl, tru_bl', truK_bl, and_bl, or_bl, notK_bl, bin_add, bin_sub, cmp_lt, cmp_le, cmp_gt, cmp_ge, cmp_eqI, cmp_neI, cmp_eqB, cmp_neB, cmp_eqS, cmp_neS, cmp_isN, cmp_isnN, cmp_isB, len_lst, len_tup, isNon, intO, seqD, asT, asTs, Option.bind_some, List.getElem?_cons_zero, List.getElem?_cons_succ, List.set_cons_zero, List.set_cons_succ, fin_rt, fin_nx, fin_ex, if_true, callK, arrD, List.cons_append, List.nil_append, Option.map_some, retK_f, eq_self, decide_true, decide_false, Bool.false_eq_true, if_false, idx4 hc, put4 hc, hc1]
  rw [evSs_cons, e1, seqK_nx, evSs_cons, hA, seqK_nx]
  generalize hc2 : c.set r (.lst (deal ns i2 b2 s2 (n + 1))) = c2 at h2
  have set2 : ∀ u, c2.set r u = c.set r u := fun u => by rw [← hc2, List.set_set]
  by_cases hg : 0 < b2
  · have hv := mod_nn (i := b2) hm
    have hq : 0 ≤ b2 / m := Int.ediv_nonneg hb2 (by omega)
    refine ⟨deal ns i2 (b2 / m) s2 (n + 1), b2 % m, ⟨i2, b2 / m, s2, n + 1, rfl, hi2, hq, hs3, hs4⟩, hv.1, hv.2, ?_⟩
    simp only [evSs_cons, evSs_nil, seqK_nx, seqK_rt, seqK_ex, evS, evM, evA, evO, evI, evT, bnd_ok, ofR_ok, tst_f, tst_t, varK_some, Cst.d, bolK_bl, tru_bl', truK_bl, and_bl, or_bl, notK_bl, bin_add, bin_sub, cmp_lt, cmp_le, cmp_gt, cmp_ge, cmp_eqI, cmp_neI, cmp_eqB, cmp_neB, cmp_eqS, cmp_neS, cmp_isN, cmp_isnN, cmp_isB, len_lst, len_tup, isNon, intO, seqD, asT, asTs, Option.bind_some, List.getElem?_cons_zero, List.getElem?_cons_succ, List.set_cons_zero, List.set_cons_succ, fin_rt, fin_nx, fin_ex, if_true, callK, arrD, List.cons_append, List.nil_append, Option.map_some, retK_f, eq_self, decide_true, decide_false, Bool.false_eq_true, if_false, idx2 h2, hg, modD hm, divD hm hm2, put2 h2, set2]
  · have hz3 := mod_nn (i := s2 * s2) (j := 2147483563) (by omega)
    obtain ⟨t, ht⟩ : ∃ t, t = (s2 * s2 % 2147483563 * 16807 + s2 * 48271 + 40692 + (n + 1)) % 2147483587 := ⟨_, rfl⟩
    have hz4 : 0 ≤ t ∧ t < 2147483587 := by rw [ht]; exact mod_nn (by omega)
    have hz5 := mod_nn (i := t) (j := 7919) (by omega)
    have h3 : (c.set r (.lst (deal ns i2 b2 t (n + 1))))[r]? = some (.lst (deal ns i2 b2 t (n + 1))) := set_at hr
    have hv := mod_nn (i := t / 97 + t % 7919 * 31) hm
    refine ⟨deal ns i2 b2 t (n + 1), (t / 97 + t % 7919 * 31) % m, ⟨i2, b2, t, n + 1, rfl, hi2, hb2, hz4.1, hz4.2⟩, hv.1, hv.2, ?_⟩
    simp only [evSs_cons, evSs_nil, seqK_nx, seqK_rt, seqK_ex, evS, evM, evA, evO, evI, evT, bnd_ok, ofR_ok, tst_f, tst_t, varK_some, Cst.d, bolK_bl, tru_bl', truK_bl, and_bl, or_bl, notK_bl, bin_add, bin_sub, cmp_lt, cmp_le, cmp_gt, cmp_ge, cmp_eqI, cmp_neI, cmp_eqB, cmp_neB, cmp_eqS, cmp_neS, cmp_isN, cmp_isnN, cmp_isB, len_lst, len_tup, isNon, intO, seqD, asT, asTs, Option.bind_some, List.getElem?_cons_zero, List.getElem?_cons_succ, List.set_cons_zero, List.set_cons_succ, fin_rt, fin_nx, fin_ex, if_true, callK, arrD, List.cons_append, List.nil_append, Option.map_some, retK_f, eq_self, decide_true, decide_false, Bool.false_eq_true, if_false, idx2 h2, hg, idx3 h2, idx4 h2, mulD' (i := s2) (j := s2) 31 31 (by omega) (by omega) (by omega) (by omega) (by omega), modD (i := s2 * s2) (j := 2147483563) (by omega), mulD' (i := s2 * s2 % 2147483563) (j := 16807) 31 20 (by omega) (by decide) (by omega) (by omega) (by omega), mulD' (i := s2) (j := 48271) 31 20 (by omega) (by decide) (by omega) (by omega) (by omega), modD (j := 2147483587) (by omega : (0 : Int) < 2147483587), ← ht, put3 h2, set2, idx3 h3,
      divD (i := t) (j := 97) (by omega) (by decide), modD (i := t) (j := 7919) (by omega), mulD' (i := t % 7919) (j := 31) 20 20 (by omega) (by decide) (by omega) (by omega) (by omega), modD hm]
end
end Hv

set_option Elab.async false
set_option linter.all false
set_option maxRecDepth 100000
set_option maxHeartbeats 4000000
/-! HvT: the laws' own helpers: a deal, a choice, a likeness. -/
namespace Hv
open PySem PySem.Spec PyProof.Rows L2

theorem forR_inv {tg : D → Sl → Option Sl} {b : Sl → Ct → RS} (I : Sl → Ct → Prop) : ∀ (ds : List D), (∀ d ∈ ds, ∀ sl c, I sl c → ∃ sl1 sl' c', tg d sl = some sl1 ∧ b sl1 c = .ok (.nx sl') c' ∧ I sl' c') → ∀ sl c, I sl c → ∃ sl' c', forR tg b ds sl c = .ok (.nx sl') c' ∧ I sl' c'
  | [], _, sl, c, hi => ⟨sl, c, rfl, hi⟩
  | d :: ds, h, sl, c, hi => by
    obtain ⟨sl1, sl', c', h1, h2, h3⟩ := h d List.mem_cons_self sl c hi
    obtain ⟨s2, c2, h4, h5⟩ := forR_inv I ds (fun d hd => h d (List.mem_cons_of_mem _ hd)) sl' c' h3
    refine ⟨s2, c2, ?_, h5⟩
    rw [forR, h1]
    simp only
    rw [h2]
    exact h4
theorem compR_all {tg : D → Sl → Option Sl} {q : Sl → Ct → Res Bool} {f : Sl → Ct → Res D} {sl : Sl} {c : Ct} {e : D} : ∀ (ds : List D), (∀ d ∈ ds, ∃ sl', tg d sl = some sl' ∧ q sl' c = .ok true c ∧ f sl' c = .ok e c) → compR tg q f sl ds c = .ok (ds.map fun _ => e) c
  | [], _ => rfl
  | d :: ds, h => by
    obtain ⟨sl', h1, h2, h3⟩ := h d List.mem_cons_self
    rw [compR, h1]
    simp only
    rw [h2]
    simp only
    rw [h3]
    simp only
    rw [compR_all ds (fun d hd => h d (List.mem_cons_of_mem _ hd))]
    rfl
/-! ### a choice -/
theorem of_ok {T : Tab} {k : Nat} (hT : T.lookup P.i_l_pick = some P.fd_l_pick) (hQ : T.lookup P.i_l_of = some P.fd_l_of) {ns : List Int} {c : Ct} {r : Nat} {x : List D} {ds : List D} (hc : c[r]? = some (.lst x)) (hx : DealOk ns x) (hd : ds ≠ []) (hl : ds.length ≤ 1000) :
    ∃ x' d, DealOk ns x' ∧ d ∈ ds ∧ evF T (k + 2) P.i_l_of [.ref r, .lst ds] c = .ok d (c.set r (.lst x')) := by
  have h0 : 0 < ds.length := List.length_pos_iff.mpr hd
  obtain ⟨x', v, hx', h1, h2, h3⟩ := pick_ok (k := k) (m := (ds.length : Int)) hT hc hx (by omega) (log2_lt (n := 9000) (by omega) (Nat.lt_of_le_of_lt (show (ds.length : Int).natAbs ≤ 1000 by omega) (Nat.lt_of_lt_of_le (show 1000 < 2 ^ 10 by decide) (Nat.pow_le_pow_right (by omega) (by omega)))))
  have h4 : ds[v.toNat]? = some (ds[v.toNat]'(by omega)) := List.getElem?_eq_getElem (by omega)
  refine ⟨x', _, hx', List.getElem_mem (h := (by omega : v.toNat < ds.length)), ?_⟩
  rw [evF_at hQ]
  show gcK c (fin (evSs (evF T (k + 1)) P.b_l_of [some (.ref r), some (.lst ds)] c)) = _
  unfold P.b_l_of
  simp only [evSs_cons, evSs_nil, seqK_nx, seqK_rt, seqK_ex, evS, evM, evA, evO, evI, evT, bnd_ok, ofR_ok, tst_f, tst_t, varK_some, Cst.d, bolK_bl, tru_bl', truK_bl, and_bl, or_bl, notK_bl, bin_add, bin_sub, cmp_lt, cmp_le, cmp_gt, cmp_ge, cmp_eqI, cmp_neI, cmp_eqB, cmp_neB, cmp_eqS, cmp_neS, cmp_isN, cmp_isnN, cmp_isB, len_lst, len_tup, isNon, intO, seqD, asT, asTs, Option.bind_some, List.getElem?_cons_zero, List.getElem?_cons_succ, List.set_cons_zero, List.set_cons_succ, fin_rt, fin_nx, fin_ex, if_true, callK, arrD, List.cons_append, List.nil_append, Option.map_some, retK_f, eq_self, decide_true, decide_false, Bool.false_eq_true, if_false, h3, idx_nat (x := .lst ds) (c := c.set r (.lst x')) rfl h1 h4]
  exact gcK_len (by simp) _
/-! ### a deal -/
def bDealB : ISs := (.cons (.asg (.nm 1) (.bin false .mod (.bin false .add (.bin false .add (.bin false .mul (.var 1) (.cst (.int 52163))) (.bin false .mod (.var 2) (.cst (.int 2147483629)))) (.cst (.int 7))) (.cst (.int 2147483587)))) .nil)
def bDealF : IS := (.for (.nm 2) (.seq (.slc (.var 0) .no (.so (.cst (.int 63))))) bDealB)
def bDeal (s0 : Int) : ISs := (.cons (.asg (.nm 1) (.cst (.int s0))) (.cons bDealF (.cons (.ret (.lst true (.cons (.blt .list (.cons (.slc (.var 0) .no (.so (.cst (.int 63)))) .nil)) (.cons (.cst (.int 0)) (.cons (.cst (.int 0)) (.cons (.var 1) (.cons (.cst (.int 0)) .nil))))))) .nil)))
theorem cut63 {xs : List D} (h : xs.length ≤ 63) (c : Ct) : slcD (.scr xs) none (some 63) c = .ok (.lst xs) c := by
  show Res.ok (D.lst (cutD xs none (some 63))) c = _
  have h1 : HT.sIx xs.length 0 none = 0 := rfl
  have h2 : HT.sIx xs.length xs.length (some 63) = xs.length := by
    unfold HT.sIx
    simp only
    rw [if_neg (by omega)]
    omega
  unfold cutD
  rw [h1, h2, List.drop_zero, Nat.sub_zero, List.take_length]
theorem deal_ok {T : Tab} {k q : Nat} {s0 : Int} (hT : T.lookup q = some ⟨1, 3, bDeal s0⟩) (h0 : 0 ≤ s0) (h1 : s0 < 2147483587) {ns : List Int} (hn : ns.length ≤ 63) (c : Ct) :
    ∃ x, DealOk ns x ∧ evF T (k + 1) q [.scr (ns.map .int)] c = .ok (.ref c.length) (c ++ [.lst x]) := by
  obtain ⟨sl', c', h2, w, s, h3, h4, h5, h6⟩ := forR_inv (tg := asT (.nm 2)) (b := evSs (evF T k) bDealB) (fun sl c' => ∃ w s, 0 ≤ s ∧ s < 2147483587 ∧ sl = [some (.scr (ns.map D.int)), some (.int s), w] ∧ c' = c) (ns.map D.int) (fun d hd sl c2 hI => by
    obtain ⟨w, s, hs, hs2, rfl, rfl⟩ := hI
    obtain ⟨z, hz, rfl⟩ := List.mem_map.mp hd
    have hz3 := mod_nn (i := z) (j := 2147483629) (by omega)
    have hz4 := mod_nn (i := s * 52163 + z % 2147483629 + 7) (j := 2147483587) (by omega)
    refine ⟨_, _, _, rfl, ?_, some (.int z), (s * 52163 + z % 2147483629 + 7) % 2147483587, hz4.1, hz4.2, rfl, rfl⟩
    unfold bDealB
    simp only [evSs_cons, evSs_nil, seqK_nx, seqK_rt, seqK_ex, evS, evM, evA, evO, evI, evT, bnd_ok, ofR_ok, tst_f, tst_t, varK_some, Cst.d, bolK_bl, tru_bl', truK_bl, and_bl, or_bl, notK_bl, bin_add, bin_sub, cmp_lt, cmp_le, cmp_gt, cmp_ge, cmp_eqI, cmp_neI, cmp_eqB, cmp_neB, cmp_eqS, cmp_neS, cmp_isN, cmp_isnN, cmp_isB, len_lst, len_tup, isNon, intO, seqD, asT, asTs, Option.bind_some, List.getElem?_cons_zero, List.getElem?_cons_succ, List.set_cons_zero, List.set_cons_succ, fin_rt, fin_nx, fin_ex, if_true, callK, arrD, List.cons_append, List.nil_append, Option.map_some, retK_f, eq_self, decide_true, decide_false, Bool.false_eq_true, if_false, mulD' (i := s) (j := 52163) 31 20 (by omega) (by decide) (by omega) (by omega) (by omega), modD (i := z) (j := 2147483629) (by omega), modD (j := 2147483587) (by omega : (0 : Int) < 2147483587)])
    [some (.scr (ns.map D.int)), some (.int s0), none] c ⟨none, s0, h0, h1, rfl, rfl⟩
  subst h5 h6
  refine ⟨deal ns 0 0 s 0, ⟨0, 0, s, 0, rfl, by omega, by omega, h3, h4⟩, ?_⟩
  rw [evF_at hT]
  show gcK c' (fin (evSs (evF T k) (bDeal s0) [some (.scr (ns.map D.int)), none, none] c')) = _
  have hl : ∀ ds : List D, ds.length = 5 → ∀ c, lstK true ds c = .ok (.ref c.length) (c ++ [.lst ds]) := fun ds h c => lstK_t (by omega) c
  have hF : evS (evF T k) bDealF [some (.scr (ns.map D.int)), some (.int s0), none] c' = .ok (.nx [some (.scr (ns.map D.int)), some (.int s), w]) c' := by
    rw [bDealF, evS]
    simp only [evI, evM, evO, Cst.d, intO, tst_f, varK_some, bnd_ok, List.getElem?_cons_zero, cut63 (xs := ns.map D.int) (by simpa using hn), seqD, ofR_ok]
    exact h2
  unfold bDeal
  simp only [evSs_cons, evSs_nil, seqK_nx, seqK_rt, seqK_ex, evS, evM, evA, evO, evI, evT, bnd_ok, ofR_ok, tst_f, tst_t, varK_some, Cst.d, bolK_bl, tru_bl', truK_bl, and_bl, or_bl, notK_bl, bin_add, bin_sub, cmp_lt, cmp_le, cmp_gt, cmp_ge, cmp_eqI, cmp_neI, cmp_eqB, cmp_neB, cmp_eqS, cmp_neS, cmp_isN, cmp_isnN, cmp_isB, len_lst, len_tup, isNon, intO, seqD, asT, asTs, Option.bind_some, List.getElem?_cons_zero, List.getElem?_cons_succ, List.set_cons_zero, List.set_cons_succ, fin_rt, fin_nx, fin_ex, if_true, callK, arrD, List.cons_append, List.nil_append, Option.map_some, retK_f, eq_self, decide_true, decide_false, Bool.false_eq_true, if_false, cut63 (xs := ns.map D.int) (by simpa using hn), hF, show ∀ c, bltD .list [.lst (ns.map D.int)] c = .ok (.lst (ns.map D.int)) c from fun _ => rfl]
  rw [hl _ rfl]
  exact gcK_ref c' _ _ (Nat.le_refl _)
/-! ### a likeness -/
def eLike : IE := (.call false 6 [] [.arg 0, .arg 1] (.cons (.idx (.var 0) (.var 2)) (.cons (.idx (.var 1) (.var 2)) .nil)) .nil)
def cLike : IE := (.comp false [2] (.nm 2) (.rng1 (.blt .len (.cons (.var 1) .nil))) (.cst (.bl true)) eLike)
def bLike : ISs := (.cons (.ifs (.blt .isi (.cons (.var 1) (.cons (.tup (.cons (.typ "list") (.cons (.typ "tuple") .nil))) .nil))) (.cons (.ifs (.or (.cmp .ne (.blt .isi (.cons (.var 0) (.cons (.typ "list") .nil))) (.blt .isi (.cons (.var 1) (.cons (.typ "list") .nil)))) (.cmp .ne (.blt .isi (.cons (.var 0) (.cons (.typ "tuple") .nil))) (.blt .isi (.cons (.var 1) (.cons (.typ "tuple") .nil))))) (.cons (.ret (.cst (.bl false))) .nil) .nil) (.cons (.ret (.and (.cmp .eq (.blt .len (.cons (.var 0) .nil)) (.blt .len (.cons (.var 1) .nil))) (.blt .all (.cons cLike .nil)))) .nil)) .nil) (.cons (.ifs (.or (.cmp .is (.var 1) (.cst .non)) (.cmp .is (.var 0) (.cst .non))) (.cons (.ret (.and (.cmp .is (.var 1) (.cst .non)) (.cmp .is (.var 0) (.cst .non)))) .nil) .nil) (.cons (.ifs (.or (.cmp .ne (.blt .isi (.cons (.var 0) (.cons (.typ "bool") .nil))) (.blt .isi (.cons (.var 1) (.cons (.typ "bool") .nil)))) (.cmp .ne (.blt .isi (.cons (.var 0) (.cons (.typ "int") .nil))) (.blt .isi (.cons (.var 1) (.cons (.typ "int") .nil))))) (.cons (.ret (.cst (.bl false))) .nil) .nil) (.cons (.ret (.and (.cmp .eq (.blt .isi (.cons (.var 0) (.cons (.typ "str") .nil))) (.blt .isi (.cons (.var 1) (.cons (.typ "str") .nil)))) (.cmp .eq (.var 0) (.var 1)))) .nil))))
theorem like_is : P.b_l_like = bLike := rfl
/-- plain data of a depth -/
def plB : Nat → D → Bool
  | k + 1, .tup xs => decide (xs.length ≤ 100000) && xs.all (plB k)
  | k + 1, .lst xs => decide (xs.length ≤ 100000) && xs.all (plB k)
  | _, .non => true
  | _, .bl _ => true
  | _, .int _ => true
  | _, .str _ => true
  | _, _ => false
theorem isi_lt (x : D) (t : String) (c : Ct) (b : Bool) (h : tyD x c = some t) (n : String) (hk : kitB t n = some b) : bltD .isi [x, .ty n] c = .ok (.bl b) c := by
  show isiD x (.ty n) c = _
  unfold isiD
  rw [h]
  simp only
  rw [hk]
theorem isi_lt2 (x : D) (t : String) (c : Ct) (b : Bool) (h : tyD x c = some t) (hk : anyB t [.ty "list", .ty "tuple"] = some b) : bltD .isi [x, .tup [.ty "list", .ty "tuple"]] c = .ok (.bl b) c := by
  show isiD x (.tup _) c = _
  unfold isiD
  rw [h]
  simp only
  rw [hk]
theorem len_its {x : D} {c : Ct} {xs : List D} (h : itsD x c = some xs) : bltD .len [x] c = .ok (.int (xs.length : Int)) c := by
  have e : bltD .len [x] c = match itsD x c with | some xs => (Res.ok (D.int (xs.length : Int)) c : Res D) | none => .stuck := by
    cases x <;> first | rfl | cases h
  rw [e, h]
theorem all_lst {bs : List D} {c : Ct} {xs : List Bool} (h : blsD bs = some xs) : bltD .all [.lst bs] c = .ok (.bl (xs.all id)) c := by
  show (match (itsD (.lst bs) c).bind blsD with | some bs' => if isL (.lst bs) then (Res.ok (D.bl (bs'.all id)) c : Res D) else .stuck | none => .stuck) = _
  show (match blsD bs with | some bs' => if isL (.lst bs) then (Res.ok (D.bl (bs'.all id)) c : Res D) else .stuck | none => .stuck) = _
  rw [h]
  rfl
theorem bls_true {α : Type} : ∀ (l : List α), blsD (l.map fun _ => D.bl true) = some (l.map fun _ => true)
  | [] => rfl
  | a :: l => by
    show (blsD (l.map fun _ => D.bl true)).map (true :: ·) = _
    rw [bls_true l]
    rfl
theorem all_true {α : Type} (l : List α) : (l.map fun _ => true).all id = true := by simp
theorem k_ll : kitB "list" "list" = some true := by decide +kernel
theorem k_lt : kitB "list" "tuple" = some false := by decide +kernel
theorem k_tl : kitB "tuple" "list" = some false := by decide +kernel
theorem k_tt : kitB "tuple" "tuple" = some true := by decide +kernel
theorem mkD_f {ds : List D} (h : ds.length ≤ 100000) (c : Ct) : mkD false ds c = .ok (.lst ds) c := by unfold mkD; rw [if_pos h]; rfl
theorem rngD_len (i : Int) (n : Nat) : (rngD i n).length = n := by unfold rngD; rw [List.length_map, List.length_range]
theorem sm_len {n : Nat} (h : n ≤ 100000) : small (n : Int) := by
  constructor
  · exact Int.le_trans (by decide) (Int.natCast_nonneg n)
  · exact Int.lt_of_le_of_lt (show (n : Int) ≤ 100000 from Int.ofNat_le.mpr h) (by decide)
theorem rng1_len {n : Nat} {c : Ct} (h : n ≤ 100000) : rng1K (.int (n : Int)) c = .ok (rngD 0 n) c := by
  rw [rng1K, if_pos (sm_len h), Int.toNat_natCast]
end Hv

set_option Elab.async false
set_option linter.all false
set_option maxRecDepth 100000
set_option maxHeartbeats 4000000
/-! HvL: a likeness. -/
namespace Hv
open PySem PySem.Spec PyProof.Rows L2

theorem like_comp {T : Tab} {k : Nat} {x y : D} {xs ys : List D} {c : Ct} (hx : itsD x c = some xs) (hy : itsD y c = some ys) (hl : xs.length = ys.length)
    (h : ∀ (i : Nat) (u v : D), xs[i]? = some u → ys[i]? = some v → evF T k P.i_l_like [u, v] c = .ok (.bl true) c) :
    compR (asT (.nm 2)) (fun sl c => bnd (evM (evF T k) true (.cst (.bl true)) sl c) bolK) (evM (evF T k) false eLike) [some x, some y, none] (rngD 0 ys.length) c = .ok ((rngD 0 ys.length).map fun _ => .bl true) c := by
  refine compR_all _ fun d hd => ?_
  obtain ⟨i, hi, rfl⟩ := List.mem_map.mp hd
  have hi2 := List.mem_range.mp hi
  have h1 : xs[i]? = some (xs[i]'(by omega)) := List.getElem?_eq_getElem (by omega)
  have h2 : ys[i]? = some (ys[i]'(by omega)) := List.getElem?_eq_getElem (by omega)
  have h3 := h i _ _ h1 h2
  refine ⟨_, rfl, rfl, ?_⟩
  have e1 := idx_nat (i := (0 : Int) + (i : Int)) hx (by omega) (by rw [show ((0 : Int) + (i : Int)).toNat = i by omega]; exact h1)
  have e2 := idx_nat (i := (0 : Int) + (i : Int)) hy (by omega) (by rw [show ((0 : Int) + (i : Int)).toNat = i by omega]; exact h2)
  unfold eLike
  simp only [evSs_cons, evSs_nil, seqK_nx, seqK_rt, seqK_ex, evS, evM, evA, evO, evI, evT, bnd_ok, ofR_ok, tst_f, tst_t, varK_some, Cst.d, bolK_bl, tru_bl', truK_bl, and_bl, or_bl, notK_bl, bin_add, bin_sub, cmp_lt, cmp_le, cmp_gt, cmp_ge, cmp_eqI, cmp_neI, cmp_eqB, cmp_neB, cmp_eqS, cmp_neS, cmp_isN, cmp_isnN, cmp_isB, len_lst, len_tup, isNon, intO, seqD, asT, asTs, Option.bind_some, List.getElem?_cons_zero, List.getElem?_cons_succ, List.set_cons_zero, List.set_cons_succ, fin_rt, fin_nx, fin_ex, if_true, callK, arrD, List.cons_append, List.nil_append, Option.map_some, retK_f, eq_self, decide_true, decide_false, Bool.false_eq_true, if_false, e1, e2, h3]
theorem compK_f {t : IT} {fq : Sl → Ct → Res Bool} {fe : Sl → Ct → Res D} {sl : Sl} {its es : List D} {c c' : Ct} (h : compR (asT t) fq fe sl its c = .ok es c') (hl : es.length ≤ 100000) : compK false t fq fe sl its c = .ok (.lst es) c' := by
  delta compK
  rw [h]
  simp only [mkD_f hl]
theorem like_e0 {T : Tab} {k : Nat} {x y : D} {ys : List D} {c : Ct} (hy : itsD y c = some ys) (hl2 : ys.length ≤ 100000) : evI (evF T k) (.rng1 (.blt .len (.cons (.var 1) .nil))) [some x, some y, none] c = .ok (rngD 0 ys.length) c := by
  have h1 : evM (evF T k) false (.blt .len (.cons (.var 1) .nil)) [some x, some y, none] c = .ok (.int (ys.length : Int)) c := by
    simp only [evA, evM, tst_f, varK_some, bnd_ok, List.getElem?_cons_zero, List.getElem?_cons_succ, len_its hy]
  rw [evI, h1, bnd_ok, rng1_len hl2]
theorem like_wipe {x y : D} : wipeD [some x, some y, none] [2] = [some x, some y, none] := rfl
theorem rngM_len {n : Nat} {e : D} (h : n ≤ 100000) : ((rngD 0 n).map fun _ => e).length ≤ 100000 := by
  rw [List.length_map, rngD_len]
  exact h
theorem like_cE {T : Tab} {k : Nat} {x y : D} {xs ys : List D} {c : Ct} (hx : itsD x c = some xs) (hy : itsD y c = some ys) (hl : xs.length = ys.length) (hl2 : ys.length ≤ 100000)
    (h : ∀ (i : Nat) (u v : D), xs[i]? = some u → ys[i]? = some v → evF T k P.i_l_like [u, v] c = .ok (.bl true) c) :
    evM (evF T k) false cLike [some x, some y, none] c = .ok (.lst ((rngD 0 ys.length).map fun _ => D.bl true)) c := by
  rw [cLike, evM, tst_f, like_e0 hy hl2, bnd_ok, like_wipe, compK_f (like_comp hx hy hl h) (rngM_len hl2)]
theorem like_all {n : Nat} {c : Ct} : bltD .all [.lst ((rngD 0 n).map fun _ => D.bl true)] c = .ok (.bl true) c := by
  have hall := all_lst (c := c) (bls_true (rngD 0 n))
  rw [all_true] at hall
  exact hall
theorem like_seq {T : Tab} {k : Nat} (hT : T.lookup P.i_l_like = some P.fd_l_like) {x y : D} {xs ys : List D} {c : Ct} (hx : itsD x c = some xs) (hy : itsD y c = some ys) (hl : xs.length = ys.length) (hl2 : ys.length ≤ 100000)
    (ht : (tyD x c = some "list" ∧ tyD y c = some "list") ∨ (tyD x c = some "tuple" ∧ tyD y c = some "tuple"))
    (h : ∀ (i : Nat) (u v : D), xs[i]? = some u → ys[i]? = some v → evF T k P.i_l_like [u, v] c = .ok (.bl true) c) : evF T (k + 1) P.i_l_like [x, y] c = .ok (.bl true) c := by
  rw [evF_at hT]
  show gcK c (fin (evSs (evF T k) bLike [some x, some y, none] c)) = _
  suffices h0 : fin (evSs (evF T k) bLike [some x, some y, none] c) = .ok (.bl true) c by rw [h0, gcK_same]
  have hcE := like_cE hx hy hl hl2 h
  have hall := like_all (n := ys.length) (c := c)
  unfold bLike
  have hl3 : (xs.length : Int) = (ys.length : Int) := by omega
  have hl4 : tupK [.ty "list", .ty "tuple"] c = .ok (.tup [.ty "list", .ty "tuple"]) c := tupK_ok (by simp) c
  rcases ht with ⟨hx1, hy1⟩ | ⟨hx1, hy1⟩
  · simp only [evSs_cons, evSs_nil, evS, evT, evM, evA, evE, ofR_ok, bnd_ok, tst_t, tst_f, varK_some, List.getElem?_cons_zero, List.getElem?_cons_succ, hl4, isi_lt2 y _ c true hy1 (by decide +kernel), truK_bl, bolK_bl, isi_lt x _ c true hx1 "list" k_ll, isi_lt y _ c true hy1 "list" k_ll, isi_lt x _ c false hx1 "tuple" k_lt, isi_lt y _ c false hy1 "tuple" k_lt, cmp_neB, or_bl, decide_true, Bool.not_true, Bool.false_eq_true, if_false, if_true, seqK_nx, len_its hx, len_its hy, cmp_eqI, hl3, and_bl]
    simp only [hcE, bnd_ok, hall, ofR_ok, seqK_rt, fin_rt]
  · simp only [evSs_cons, evSs_nil, evS, evT, evM, evA, evE, ofR_ok, bnd_ok, tst_t, tst_f, varK_some, List.getElem?_cons_zero, List.getElem?_cons_succ, hl4, isi_lt2 y _ c true hy1 (by decide +kernel), truK_bl, bolK_bl, isi_lt x _ c false hx1 "list" k_tl, isi_lt y _ c false hy1 "list" k_tl, isi_lt x _ c true hx1 "tuple" k_tt, isi_lt y _ c true hy1 "tuple" k_tt, cmp_neB, or_bl, decide_true, Bool.not_true, Bool.false_eq_true, if_false, if_true, seqK_nx, len_its hx, len_its hy, cmp_eqI, hl3, and_bl]
    simp only [hcE, bnd_ok, hall, ofR_ok, seqK_rt, fin_rt]
end Hv

set_option Elab.async false
set_option linter.all false
set_option maxRecDepth 100000
set_option maxHeartbeats 4000000
/-! HvU: rules to run the inner form step by step; loops and comprehensions; draws. -/
namespace Hv
open PySem PySem.Spec PyProof.Rows L2

/-! ### rules -/
section
variable {call : CallF} {s : IS} {r : ISs} {sl sl' sl1 sl2 : Sl} {c c' c1 c2 c3 : Ct} {d : D} {e q a b : IE} {es kes : IEs}
theorem step_nx {X : RS} (h : evS call s sl c = .ok (.nx sl') c') (h2 : evSs call r sl' c' = X) : evSs call (.cons s r) sl c = X := by
  rw [evSs_cons, h]
  exact h2
theorem step_rt (h : evS call s sl c = .ok (.rt d sl') c') : evSs call (.cons s r) sl c = .ok (.rt d sl') c' := by
  rw [evSs_cons, h]
  rfl
theorem asg_ok {t : IT} (h : evM call false e sl c = .ok d c') (h2 : asT t d sl = some sl') : evS call (.asg t e) sl c = .ok (.nx sl') c' := by
  rw [evS]
  show ofR (evM call false e sl c) sl _ = _
  rw [h, ofR_ok, h2]
theorem ret_ok (h : evM call false e sl c = .ok d c') : evS call (.ret e) sl c = .ok (.rt d sl) c' := by
  rw [evS]
  show ofR (evM call false e sl c) sl _ = _
  rw [h, ofR_ok]
theorem expr_ok (h : evM call false e sl c = .ok d c') : evS call (.expr e) sl c = .ok (.nx sl) c' := by
  rw [evS]
  show ofR (evM call false e sl c) sl _ = _
  rw [h, ofR_ok]
theorem for_ok {t : IT} {i : II} {bd : ISs} {its : List D} {X : RS} (h : evI call i sl c = .ok its c1) (h2 : forR (asT t) (evSs call bd) its sl c1 = X) : evS call (.for t i bd) sl c = X := by
  rw [evS, h, ofR_ok]
  exact h2
theorem if_t {x y : ISs} {X : RS} (h : evT call q sl c = .ok true c1) (h2 : evSs call x sl c1 = X) : evS call (.ifs q x y) sl c = X := by
  rw [evS, h, ofR_ok, if_pos rfl]
  exact h2
theorem if_f {x y : ISs} {X : RS} (h : evT call q sl c = .ok false c1) (h2 : evSs call y sl c1 = X) : evS call (.ifs q x y) sl c = X := by
  rw [evS, h, ofR_ok, if_neg (by decide)]
  exact h2
theorem nil_ok : evSs call .nil sl c = .ok (.nx sl) c := rfl
theorem whl_eq {bd : ISs} : evS call (.whl q bd) sl c = whR (evT call q) (evSs call bd) sl c := by rw [evS]
theorem run_rt {T : Tab} {k i : Nat} {fd : FD} {as : List D} {rr : Res D} (hT : T.lookup i = some fd) (hl : as.length = fd.ps) (h : evSs (evF T k) fd.body (begin_ fd.n as) c = .ok (.rt d sl) c') (hg : gcK c (.ok d c') = rr) : evF T (k + 1) i as c = rr := by
  rw [evF_at hT]
  unfold runF
  rw [if_pos hl, h]
  exact hg
theorem run_nx {T : Tab} {k i : Nat} {fd : FD} {as : List D} {rr : Res D} (hT : T.lookup i = some fd) (hl : as.length = fd.ps) (h : evSs (evF T k) fd.body (begin_ fd.n as) c = .ok (.nx sl) c') (hg : gcK c (.ok .non c') = rr) : evF T (k + 1) i as c = rr := by
  rw [evF_at hT]
  unfold runF
  rw [if_pos hl, h]
  exact hg
theorem var_ok {i : Nat} (h : sl[i]? = some (some d)) : evM call false (.var i) sl c = .ok d c := by
  rw [evM, h]
  rfl
theorem call_ok {f : Nat} {ks : List Str} {src : List Src} {ds zs as : List D} (hA : evA call es sl c = .ok ds c1) (hK : evA call kes sl c1 = .ok zs c2) (hs : arrD Cst.d (ds ++ zs) src = some as) (hc : call f as c2 = .ok d c3) : evM call false (.call false f ks src es kes) sl c = .ok d c3 := by
  rw [evM, tst_f, hA, bnd_ok, hK, bnd_ok]
  unfold callK
  rw [hs]
  exact hc
theorem callz_ok {f : Nat} {ks : List Str} {src : List Src} {ds zs as : List D} {c4 : Ct} {d' : D} {rr : Res D} (hA : evA call es sl c = .ok ds c1) (hK : evA call kes sl c1 = .ok zs c2) (hs : arrD Cst.d (ds ++ zs) src = some as) (hc : call f as c2 = .ok d c3) (hf : frzK 9 d c3 = .ok d' c4) (hg : gcK c2 (.ok d' c4) = rr) : evM call false (.call true f ks src es kes) sl c = rr := by
  rw [evM, tst_f, hA, bnd_ok, hK, bnd_ok]
  unfold callK
  rw [hs]
  show retK true c2 (call f as c2) = _
  rw [retK_t, hc, bnd_ok, hf]
  exact hg
theorem mthE_ok {C m : Str} {f : Nat} {ks : List Str} {src : List Src} {ds zs as : List D} {x : D} {fs : List (Str × D)} (hX : evM call false a sl c = .ok x c) (hI : insD x c = some (C, fs)) (hm : fs.lookup m = none) (hA : evA call es sl c = .ok ds c1) (hK : evA call kes sl c1 = .ok zs c2) (hs : arrD Cst.d (x :: (ds ++ zs)) src = some as) (hc : call f as c2 = .ok d c3) : evM call false (.mth false C m f ks src a es kes) sl c = .ok d c3 := by
  rw [evM, tst_f, hX, bnd_ok]
  unfold okInsD
  rw [hI]
  show (if C = C ∧ fs.lookup m = none then _ else _) = _
  rw [if_pos ⟨rfl, hm⟩, hA, bnd_ok, hK, bnd_ok]
  unfold mthK
  rw [hs]
  exact hc
theorem mthzE_ok {C m : Str} {f : Nat} {ks : List Str} {src : List Src} {ds zs as : List D} {x d' : D} {c4 : Ct} {rr : Res D} {fs : List (Str × D)} (hX : evM call false a sl c = .ok x c) (hI : insD x c = some (C, fs)) (hm : fs.lookup m = none) (hA : evA call es sl c = .ok ds c1) (hK : evA call kes sl c1 = .ok zs c2) (hs : arrD Cst.d (x :: (ds ++ zs)) src = some as) (hc : call f as c2 = .ok d c3) (hf : frzK 9 d c3 = .ok d' c4) (hg : gcK c2 (.ok d' c4) = rr) : evM call false (.mth true C m f ks src a es kes) sl c = rr := by
  rw [evM, tst_f, hX, bnd_ok]
  unfold okInsD
  rw [hI]
  show (if C = C ∧ fs.lookup m = none then _ else _) = _
  rw [if_pos ⟨rfl, hm⟩, hA, bnd_ok, hK, bnd_ok]
  unfold mthK
  rw [hs]
  show retK true c2 (call f as c2) = _
  rw [retK_t, hc, bnd_ok, hf]
  exact hg
theorem args_nil : evA call .nil sl c = .ok [] c := rfl
theorem args_cons {ds : List D} (h : evM call false e sl c = .ok d c1) (h2 : evA call es sl c1 = .ok ds c2) : evA call (.cons e es) sl c = .ok (d :: ds) c2 := by
  rw [evA, h, bnd_ok, h2]
  rfl
theorem tup_ok {ds : List D} (h : evA call es sl c = .ok ds c1) (hl : ds.length ≤ 1000) : evM call false (.tup es) sl c = .ok (.tup ds) c1 := by
  rw [evM, tst_f, h, bnd_ok, tupK_ok hl]
theorem lstf_ok {ds : List D} (h : evA call es sl c = .ok ds c1) (hl : ds.length ≤ 1000) : evM call false (.lst false es) sl c = .ok (.lst ds) c1 := by
  rw [evM, tst_f, h, bnd_ok, lstK_f hl]
theorem lstt_ok {ds : List D} (h : evA call es sl c = .ok ds c1) (hl : ds.length ≤ 1000) : evM call false (.lst true es) sl c = .ok (.ref c1.length) (c1 ++ [.lst ds]) := by
  rw [evM, tst_f, h, bnd_ok, lstK_t hl]
theorem blt_ok {f : Blt} {ds : List D} {rr : Res D} (h : evA call es sl c = .ok ds c1) (h2 : bltD f ds c1 = rr) : evM call false (.blt f es) sl c = rr := by
  rw [evM, tst_f, h, bnd_ok]
  exact h2
theorem bin_ok {mu : Bool} {o : BOp} {x y : D} {rr : Res D} (h : evM call false a sl c = .ok x c1) (h2 : evM call false b sl c1 = .ok y c2) (h3 : binD mu o x y c2 = rr) : evM call false (.bin mu o a b) sl c = rr := by
  rw [evM, tst_f, h, bnd_ok, h2, bnd_ok]
  exact h3
theorem idx_ok {x y : D} {rr : Res D} (h : evM call false a sl c = .ok x c1) (h2 : evM call false b sl c1 = .ok y c2) (h3 : idxD x y c2 = rr) : evM call false (.idx a b) sl c = rr := by
  rw [evM, tst_f, h, bnd_ok, h2, bnd_ok]
  exact h3
theorem frzE_ok {n : Nat} {x : D} {rr : Res D} (h : evM call false a sl c = .ok x c1) (h2 : frzK n x c1 = rr) : evM call false (.frz n a) sl c = rr := by
  rw [evM, tst_f, h, bnd_ok]
  exact h2
theorem fld_ok {C f : Str} {x : D} {fs : List (Str × D)} (h : evM call false a sl c = .ok x c1) (hI : insD x c1 = some (C, fs)) (hl : fs.lookup f = some d) : evM call false (.fld C f a) sl c = .ok d c1 := by
  rw [evM, tst_f, h, bnd_ok]
  unfold fldD
  rw [hI]
  show (if C = C then _ else _) = _
  rw [if_pos rfl, hl]
  rfl
theorem bm_ok {m : Mth} {x : D} {ds : List D} {rr : Res D} (h : evM call false a sl c = .ok x c1) (hl : (lstD x c1).isSome = true) (h2 : evA call es sl c1 = .ok ds c2) (h3 : mthD m x ds c2 = rr) : evM call false (.bm m a es) sl c = rr := by
  rw [evM, tst_f, h, bnd_ok]
  unfold okLstD
  rw [if_pos hl, h2, bnd_ok]
  exact h3
theorem ifx_t {rr : Res D} (h : evT call q sl c = .ok true c1) (h2 : evM call false a sl c1 = rr) : evM call false (.ifx q a b) sl c = rr := by
  rw [evM, tst_f]
  show bnd (evT call q sl c) _ = _
  rw [h, bnd_ok]
  exact h2
theorem ifx_f {rr : Res D} (h : evT call q sl c = .ok false c1) (h2 : evM call false b sl c1 = rr) : evM call false (.ifx q a b) sl c = rr := by
  rw [evM, tst_f]
  show bnd (evT call q sl c) _ = _
  rw [h, bnd_ok]
  exact h2
theorem comp_ok {mu : Bool} {own : List Nat} {t : IT} {i : II} {its es' : List D} (hI : evI call i sl c = .ok its c1) (hR : compR (asT t) (fun sl c => bnd (evM call true q sl c) bolK) (evM call false e) (wipeD sl own) its c1 = .ok es' c2) (hl : es'.length ≤ 100000) : evM call false (.comp mu own t i q e) sl c = newL mu es' c2 := by
  rw [evM, tst_f, hI, bnd_ok]
  unfold compK
  rw [hR]
  show mkD mu es' c2 = _
  unfold mkD
  rw [if_pos hl]
theorem compf_ok {own : List Nat} {t : IT} {i : II} {its es' : List D} (hI : evI call i sl c = .ok its c1) (hR : compR (asT t) (fun sl c => bnd (evM call true q sl c) bolK) (evM call false e) (wipeD sl own) its c1 = .ok es' c2) (hl : es'.length ≤ 100000) : evM call false (.comp false own t i q e) sl c = .ok (.lst es') c2 := comp_ok hI hR hl
theorem seq_ok {its : List D} (h : evM call false e sl c = .ok d c1) (h2 : seqD d c1 = .ok its c2) : evI call (.seq e) sl c = .ok its c2 := by
  rw [evI, h, bnd_ok]
  exact h2
theorem rng1_ok {n : Nat} (h : evM call false a sl c = .ok (.int (n : Int)) c1) (hn : n ≤ 100000) : evI call (.rng1 a) sl c = .ok ((List.range n).map fun (i : Nat) => D.int (i : Int)) c1 := by
  rw [evI, h, bnd_ok, rng1_len hn]
  congr 1
  unfold rngD
  refine List.map_congr_left fun i _ => ?_
  rw [Int.zero_add]
theorem enum_ok {xs : List D} (h : evM call false a sl c = .ok (.lst xs) c1) : evI call (.enum a) sl c = .ok (enumD xs 0) c1 := by
  rw [evI, h, bnd_ok]
  rfl
theorem zip_ok {st : Bool} {ds its : List D} (h : evA call es sl c = .ok ds c1) (h2 : zipK ds c1 = .ok its c1) : evI call (.zip st es) sl c = .ok its c1 := by
  rw [evI, h, bnd_ok]
  exact h2
theorem true_ok : bnd (evM call true (.cst (.bl true)) sl c) bolK = .ok true c := by
  rw [evM]
  rfl
end
/-! ### loops -/
section
variable {tg : D → Sl → Option Sl} {b : Sl → Ct → RS} {q : Sl → Ct → Res Bool} {f : Sl → Ct → Res D} {sl : Sl} {c : Ct}
/-- an invariant by the turn -/
theorem forR_ix (I : Nat → Sl → Ct → Prop) : ∀ (ds : List D) (n : Nat), (∀ i d, ds[i]? = some d → ∀ sl c, I (n + i) sl c → ∃ sl1 sl' c', tg d sl = some sl1 ∧ b sl1 c = .ok (.nx sl') c' ∧ I (n + i + 1) sl' c') → ∀ sl c, I n sl c → ∃ sl' c', forR tg b ds sl c = .ok (.nx sl') c' ∧ I (n + ds.length) sl' c'
  | [], n, _, sl, c, hi => ⟨sl, c, rfl, hi⟩
  | d :: ds, n, h, sl, c, hi => by
    obtain ⟨sl1, sl', c', h1, h2, h3⟩ := h 0 d rfl sl c hi
    obtain ⟨s2, c2, h4, h5⟩ := forR_ix I ds (n + 1) (fun i d hd sl c hI => by
      have := h (i + 1) d hd sl c (by rw [show n + (i + 1) = n + 1 + i by omega]; exact hI)
      rw [show n + (i + 1) + 1 = n + 1 + i + 1 by omega] at this
      exact this) sl' c' h3
    refine ⟨s2, c2, ?_, by rw [show n + (d :: ds).length = n + 1 + ds.length by simp; omega]; exact h5⟩
    rw [forR, h1]
    simp only
    rw [h2]
    exact h4
theorem forR_i (I : Nat → Sl → Ct → Prop) (ds : List D) (h : ∀ i d, ds[i]? = some d → ∀ sl c, I i sl c → ∃ sl1 sl' c', tg d sl = some sl1 ∧ b sl1 c = .ok (.nx sl') c' ∧ I (i + 1) sl' c') {sl : Sl} {c : Ct} (h0 : I 0 sl c) : ∃ sl' c', forR tg b ds sl c = .ok (.nx sl') c' ∧ I ds.length sl' c' := by
  have := forR_ix (tg := tg) (b := b) I ds 0 (fun i d hd sl c hI => by rw [Nat.zero_add] at hI ⊢; exact h i d hd sl c hI) sl c h0
  rwa [Nat.zero_add] at this
/-- .. or an answer on the way -/
theorem forR_or (I : Nat → Sl → Ct → Prop) (R : Nat → D → Sl → Ct → Prop) : ∀ (ds : List D) (n : Nat), (∀ i d, ds[i]? = some d → ∀ sl c, I (n + i) sl c → ∃ sl1 sl' c', tg d sl = some sl1 ∧ ((b sl1 c = .ok (.nx sl') c' ∧ I (n + i + 1) sl' c') ∨ ∃ r, b sl1 c = .ok (.rt r sl') c' ∧ R (n + i) r sl' c')) → ∀ sl c, I n sl c →
    ∃ sl' c', (forR tg b ds sl c = .ok (.nx sl') c' ∧ I (n + ds.length) sl' c') ∨ ∃ i r, i < ds.length ∧ forR tg b ds sl c = .ok (.rt r sl') c' ∧ R (n + i) r sl' c'
  | [], n, _, sl, c, hi => ⟨sl, c, .inl ⟨rfl, hi⟩⟩
  | d :: ds, n, h, sl, c, hi => by
    obtain ⟨sl1, sl', c', h1, h2⟩ := h 0 d rfl sl c hi
    rcases h2 with ⟨h2, h3⟩ | ⟨r, h2, h3⟩
    · obtain ⟨s2, c2, h4⟩ := forR_or I R ds (n + 1) (fun i d hd sl c hI => by
        have := h (i + 1) d hd sl c (by rw [show n + (i + 1) = n + 1 + i by omega]; exact hI)
        rw [show n + (i + 1) + 1 = n + 1 + i + 1 by omega, show n + (i + 1) = n + 1 + i by omega] at this
        exact this) sl' c' h3
      refine ⟨s2, c2, ?_⟩
      have e : forR tg b (d :: ds) sl c = forR tg b ds sl' c' := by
        rw [forR, h1]
        simp only
        rw [h2]
      rw [e]
      rcases h4 with ⟨h4, h5⟩ | ⟨i, r, hi', h4, h5⟩
      · exact .inl ⟨h4, by rw [show n + (d :: ds).length = n + 1 + ds.length by simp; omega]; exact h5⟩
      · exact .inr ⟨i + 1, r, by simp; omega, h4, by rw [show n + (i + 1) = n + 1 + i by omega]; exact h5⟩
    · refine ⟨sl', c', .inr ⟨0, r, by simp, ?_, h3⟩⟩
      rw [forR, h1]
      simp only
      rw [h2]
theorem forR_o (I : Nat → Sl → Ct → Prop) (R : Nat → D → Sl → Ct → Prop) (ds : List D) (h : ∀ i d, ds[i]? = some d → ∀ sl c, I i sl c → ∃ sl1 sl' c', tg d sl = some sl1 ∧ ((b sl1 c = .ok (.nx sl') c' ∧ I (i + 1) sl' c') ∨ ∃ r, b sl1 c = .ok (.rt r sl') c' ∧ R i r sl' c')) {sl : Sl} {c : Ct} (h0 : I 0 sl c) :
    ∃ sl' c', (forR tg b ds sl c = .ok (.nx sl') c' ∧ I ds.length sl' c') ∨ ∃ i r, i < ds.length ∧ forR tg b ds sl c = .ok (.rt r sl') c' ∧ R i r sl' c' := by
  have := forR_or (tg := tg) (b := b) I R ds 0 (fun i d hd sl c hI => by rw [Nat.zero_add] at hI ⊢; exact h i d hd sl c hI) sl c h0
  simpa only [Nat.zero_add] using this
theorem compR_map (g : D → D) : ∀ (ds : List D), (∀ d ∈ ds, ∃ sl', tg d sl = some sl' ∧ q sl' c = .ok true c ∧ f sl' c = .ok (g d) c) → compR tg q f sl ds c = .ok (ds.map g) c
  | [], _ => rfl
  | d :: ds, h => by
    obtain ⟨sl', h1, h2, h3⟩ := h d List.mem_cons_self
    rw [compR, h1]
    simp only
    rw [h2]
    simp only
    rw [h3]
    simp only
    rw [compR_map g ds (fun d hd => h d (List.mem_cons_of_mem _ hd))]
    rfl
theorem compR_filter (p : D → Bool) (g : D → D) : ∀ (ds : List D), (∀ d ∈ ds, ∃ sl', tg d sl = some sl' ∧ q sl' c = .ok (p d) c ∧ (p d = true → f sl' c = .ok (g d) c)) → compR tg q f sl ds c = .ok ((ds.filter p).map g) c
  | [], _ => rfl
  | d :: ds, h => by
    obtain ⟨sl', h1, h2, h3⟩ := h d List.mem_cons_self
    have ih := compR_filter p g ds (fun d hd => h d (List.mem_cons_of_mem _ hd))
    rw [compR, h1]
    simp only
    rw [h2]
    cases hp : p d with
    | false =>
      simp only
      rw [ih, List.filter_cons_of_neg (by simp [hp])]
    | true =>
      simp only
      rw [h3 hp]
      simp only
      rw [ih, List.filter_cons_of_pos hp]
      rfl
/-- over things of Lean's -/
theorem compR_lst {α : Type} (e : α → D) (g : α → D) : ∀ (l : List α), (∀ a ∈ l, ∃ sl', tg (e a) sl = some sl' ∧ q sl' c = .ok true c ∧ f sl' c = .ok (g a) c) → compR tg q f sl (l.map e) c = .ok (l.map g) c
  | [], _ => rfl
  | a :: l, h => by
    obtain ⟨sl', h1, h2, h3⟩ := h a List.mem_cons_self
    rw [List.map_cons, compR, h1]
    simp only
    rw [h2]
    simp only
    rw [h3]
    simp only
    rw [compR_lst e g l (fun d hd => h d (List.mem_cons_of_mem _ hd))]
    rfl
theorem compR_lstf {α : Type} (e : α → D) (p : α → Bool) (g : α → D) : ∀ (l : List α), (∀ a ∈ l, ∃ sl', tg (e a) sl = some sl' ∧ q sl' c = .ok (p a) c ∧ (p a = true → f sl' c = .ok (g a) c)) → compR tg q f sl (l.map e) c = .ok ((l.filter p).map g) c
  | [], _ => rfl
  | a :: l, h => by
    obtain ⟨sl', h1, h2, h3⟩ := h a List.mem_cons_self
    have ih := compR_lstf e p g l (fun d hd => h d (List.mem_cons_of_mem _ hd))
    rw [List.map_cons, compR, h1]
    simp only
    rw [h2]
    cases hp : p a with
    | false =>
      simp only
      rw [ih, List.filter_cons_of_neg (by simp [hp])]
    | true =>
      simp only
      rw [h3 hp]
      simp only
      rw [ih, List.filter_cons_of_pos hp]
      rfl
theorem rngD_eq (n : Nat) : rngD 0 n = (List.range n).map fun (i : Nat) => D.int (i : Int) := by
  unfold rngD
  refine List.map_congr_left fun i _ => ?_
  rw [Int.zero_add]
/-- with draws -/
theorem compR_st (I : Ct → Prop) (P : D → D → Prop) : ∀ (ds : List D), (∀ d ∈ ds, ∀ c, I c → ∃ sl' c1 e c2, tg d sl = some sl' ∧ q sl' c = .ok true c1 ∧ f sl' c1 = .ok e c2 ∧ I c2 ∧ P d e) → ∀ c, I c → ∃ (es : List D) (c' : Ct), compR tg q f sl ds c = .ok es c' ∧ I c' ∧ es.length = ds.length ∧ ∀ (i : Nat) d e, ds[i]? = some d → es[i]? = some e → P d e
  | [], _, c, hI => ⟨[], c, rfl, hI, rfl, fun i d e h => by cases h⟩
  | d :: ds, h, c, hI => by
    obtain ⟨sl', c1, e, c2, h1, h2, h3, h4, h5⟩ := h d List.mem_cons_self c hI
    obtain ⟨es, c', g1, g2, g3, g4⟩ := compR_st I P ds (fun d hd => h d (List.mem_cons_of_mem _ hd)) c2 h4
    refine ⟨e :: es, c', ?_, g2, by simp [g3], fun i a b ha hb => ?_⟩
    · rw [compR, h1]
      simp only
      rw [h2]
      simp only
      rw [h3]
      simp only
      rw [g1]
    · cases i with
      | zero => cases ha; cases hb; exact h5
      | succ i => exact g4 i a b ha hb
/-- a choice of the things walked, by draws -/
theorem compR_pick (I : Ct → Prop) (g : D → D) : ∀ (ds : List D), (∀ d ∈ ds, ∀ c, I c → ∃ sl' b c1, tg d sl = some sl' ∧ q sl' c = .ok b c1 ∧ I c1 ∧ (b = true → f sl' c1 = .ok (g d) c1)) → ∀ c, I c → ∃ (es : List D) (c' : Ct), compR tg q f sl ds c = .ok (es.map g) c' ∧ I c' ∧ es.Sublist ds
  | [], _, c, hI => ⟨[], c, rfl, hI, .slnil⟩
  | d :: ds, h, c, hI => by
    obtain ⟨sl', b, c1, h1, h2, h3, h4⟩ := h d List.mem_cons_self c hI
    obtain ⟨es, c', g1, g2, g3⟩ := compR_pick I g ds (fun d hd => h d (List.mem_cons_of_mem _ hd)) c1 h3
    cases b with
    | false =>
      refine ⟨es, c', ?_, g2, g3.cons _⟩
      rw [compR, h1]
      simp only
      rw [h2]
      exact g1
    | true =>
      refine ⟨d :: es, c', ?_, g2, g3.cons₂ _⟩
      rw [compR, h1]
      simp only
      rw [h2]
      simp only
      rw [h4 rfl]
      simp only
      rw [g1]
      rfl
end
/-! ### texts -/
theorem len_str {s : Str} {c : Ct} (h : s.length ≤ 100000) : bltD .len [.str s] c = .ok (.int (s.length : Int)) c := by
  unfold bltD
  dsimp only
  rw [if_pos h]
theorem idx_str {s : Str} {i : Int} {n : Nat} {c : Ct} (h : s.length ≤ 100000) (h2 : atI s.cps.toList i = some n) : idxD (.str s) (.int i) c = .ok (sigD n) c := by
  unfold idxD
  dsimp only
  rw [if_pos h, h2]
  rfl
theorem slc_str {s : Str} {l r : Option Int} {c : Ct} (h : s.length ≤ 100000) : slcD (.str s) l r c = .ok (.str (cutS s l r)) c := by
  unfold slcD
  dsimp only
  rw [if_pos h]
theorem cat_str {mu : Bool} {s t : Str} {c : Ct} (h : s.length + t.length ≤ 100000) : binD mu .add (.str s) (.str t) c = .ok (.str (s ++ t)) c := by
  unfold binD
  dsimp only
  rw [if_pos ⟨rfl, h⟩]
/-! ### cells -/
theorem at_last (u v : Cell) (c0 : Ct) : (u :: (c0 ++ [v]))[c0.length + 1]? = some v := by
  rw [List.getElem?_cons_succ, List.getElem?_append_right (Nat.le_refl _), Nat.sub_self]
  rfl
theorem set_last (u v w : Cell) (c0 : Ct) : (u :: (c0 ++ [v])).set (c0.length + 1) w = u :: (c0 ++ [w]) := by
  rw [List.set_cons_succ, List.set_append_right _ _ (Nat.le_refl _), Nat.sub_self]
  rfl
theorem frzD_pl (k : Nat) {d : D} {c : Ct} (h : rLt 0 d = true) : frzD k d c = some (d, c) := by
  cases k <;> unfold frzD <;> rw [if_pos h]
/-- freezing a changing list of things that stand still -/
theorem frz_ref {n m : Nat} {c : Ct} {xs : List D} (h : c[n]? = some (.lst xs)) (hp : rLts 0 xs = true) : frzK (m + 1) (.ref n) c = .ok (.lst xs) (c.set n .dead) := by
  have hl : ∀ (k : Nat) (xs : List D) (c : Ct), rLts 0 xs = true → frzL (frzD k) xs c = some (xs, c) := fun k xs => by
    induction xs with
    | nil => intro c _; rfl
    | cons d ds ih =>
      intro c hp
      rw [rLts, Bool.and_eq_true] at hp
      rw [frzL, frzD_pl k hp.1]
      show (frzL (frzD k) ds c).map _ = _
      rw [ih c hp.2]
      rfl
  unfold frzK
  have hr : rLt 0 (.ref n) = false := by rw [rLt]; exact decide_eq_false (by omega)
  unfold frzD
  rw [if_neg (by rw [hr]; decide)]
  simp only [h]
  rw [hl m xs _ hp]
  rfl
theorem frz_pl {m : Nat} {c : Ct} {d : D} (hp : rLt 0 d = true) : frzK m d c = .ok d c := by
  unfold frzK
  rw [frzD_pl m hp]
/-! ### a deal in the first cell -/
def Dl (x : List D) : Prop := ∃ ns, DealOk ns x
theorem Dl.pl {x : List D} (h : Dl x) : rLts 0 x = true := by
  obtain ⟨ns, i, b, s, n, rfl, _⟩ := h
  have h1 : rLts 0 (ns.map D.int) = true := rLts_all fun d hd => by
    obtain ⟨z, _, rfl⟩ := List.mem_map.mp hd
    rw [rLt]
  unfold deal
  simp only [rLts, rLt, h1, Bool.and_self]
/-- a call that draws, and leaves a thing that stands still -/
theorem gcD {x x' : List D} {c0 g : Ct} {d : D} (hx : Dl x') (hd : rLt 0 d = true) : gcK (.lst x :: c0) (.ok d (.lst x' :: (c0 ++ g))) = .ok d (.lst x' :: c0) :=
  gcK_drop0 (rLt_mono (Nat.zero_le _) _ hd) (rLts_mono (Nat.zero_le _) _ hx.pl)
theorem gcD0 {x x' : List D} {c0 : Ct} {d : D} : gcK (.lst x :: c0) (.ok d (.lst x' :: c0)) = .ok d (.lst x' :: c0) := gcK_len (c := .lst x :: c0) (c' := .lst x' :: c0) rfl d
/-- the prelude's defs of draws -/
structure Lib (T : Tab) : Prop where
  pick : T.lookup P.i_l_pick = some P.fd_l_pick
  of : T.lookup P.i_l_of = some P.fd_l_of
  names : T.lookup P.i_l_names = some P.fd_l_names
  shuffled : T.lookup P.i_l_shuffled = some P.fd_l_shuffled
  rule : T.lookup P.i_l_rule = some P.fd_l_rule
  down : T.lookup P.i_l_down = some P.fd_l_down
  times_of : T.lookup P.i_l_times_of = some P.fd_l_times_of
  weight : T.lookup P.i_l_weight = some P.fd_l_weight
  gain : T.lookup P.i_l_gain = some P.fd_l_gain
  raw : T.lookup P.i_l_raw = some P.fd_l_raw
  renumbered : T.lookup P.i_l_renumbered = some P.fd_l_renumbered
  device : T.lookup P.i_l_device = some P.fd_l_device
  any_device : T.lookup P.i_l_any_device = some P.fd_l_any_device
section
variable {T : Tab} {k : Nat} {x : List D} {c0 : Ct}
theorem pick0 (L : Lib T) (hk : 1 ≤ k) (hx : Dl x) {m : Int} (hm : 0 < m) (hm2 : m < 2 ^ 64) : ∃ x' v, Dl x' ∧ 0 ≤ v ∧ v < m ∧ evF T k P.i_l_pick [.ref 0, .int m] (.lst x :: c0) = .ok (.int v) (.lst x' :: c0) := by
  obtain ⟨k, rfl⟩ : ∃ j, k = j + 1 := ⟨k - 1, by omega⟩
  obtain ⟨ns, hx⟩ := hx
  obtain ⟨x', v, h1, h2, h3, h4⟩ := pick_ok (k := k) (c := .lst x :: c0) (r := 0) L.pick rfl hx hm (Nat.lt_of_lt_of_le (log2_lt (n := 64) (by omega) (by omega)) (by decide))
  exact ⟨x', v, ⟨ns, h1⟩, h2, h3, h4⟩
theorem of0 (L : Lib T) (hk : 2 ≤ k) (hx : Dl x) {ds : List D} (hd : ds ≠ []) (hl : ds.length ≤ 1000) : ∃ x' d, Dl x' ∧ d ∈ ds ∧ evF T k P.i_l_of [.ref 0, .lst ds] (.lst x :: c0) = .ok d (.lst x' :: c0) := by
  obtain ⟨k, rfl⟩ : ∃ j, k = j + 2 := ⟨k - 2, by omega⟩
  obtain ⟨ns, hx⟩ := hx
  obtain ⟨x', v, h1, h2, h3⟩ := of_ok (k := k) (c := .lst x :: c0) (r := 0) L.pick L.of rfl hx hd hl
  exact ⟨x', v, ⟨ns, h1⟩, h2, h3⟩
end
end Hv

set_option Elab.async false
set_option linter.all false
set_option maxRecDepth 100000
set_option maxHeartbeats 4000000
/-! HvV: the prelude of drawn machines: names, a drawn order, rules. -/
namespace Hv
open PySem PySem.Spec PyProof.Rows L2

def tails : List Str := ["", "b", "zz", "xy", "mmmmm", "bbbbb"]
abbrev signs : Str := "abcdefghijklmnopqrstuvwxyz"
def nameAt (t : Str) (a s : Nat) : Str := cutS t none (some (a : Int)) ++ ⟨#[signs.cps.toList.getD s 0]⟩ ++ cutS t (some (a : Int)) none
/-- what is_name asks -/
def goodB (s : Str) : Bool := decide (1 ≤ s.length) && decide (s.length ≤ 6) && s.cps.toList.all fun k => decide (k ∈ signs.cps.toList)
def NamesOk (ss : List Str) : Prop := ss.Nodup ∧ ∀ s ∈ ss, goodB s = true
theorem names_fin : ∀ t ∈ tails, ∀ a < 6, a ≤ t.length → ∀ s < 26, goodB (nameAt t a s) = true := by decide +kernel
theorem signs_inj : ∀ s : Nat, s < 26 → ∀ s' : Nat, s' < 26 → signs.cps.toList.getD s 0 = signs.cps.toList.getD s' 0 → s = s' := by decide +kernel
theorem names_ne {t : Str} {a s s' : Nat} (hs : s < 26) (hs' : s' < 26) (h : nameAt t a s = nameAt t a s') : s = s' := by
  unfold nameAt at h
  have h1 := congrArg (fun z : Str => z.cps.toList) h
  have app : ∀ u v : Str, (u ++ v).cps.toList = u.cps.toList ++ v.cps.toList := fun u v => Array.toList_append
  simp only [app] at h1
  rw [List.append_assoc, List.append_assoc] at h1
  have h2 := List.append_cancel_left h1
  have h3 := List.append_cancel_right h2
  exact signs_inj s hs s' hs' (List.cons.inj h3).1
theorem tails_len : ∀ t ∈ tails, t.length ≤ 5 := by decide +kernel
theorem signs_at : ∀ i : Nat, i < 26 → atI signs.cps.toList (i : Int) = some (signs.cps.toList.getD i 0) := by decide +kernel
theorem cut_lenS : ∀ t ∈ tails, ∀ a : Nat, a < 6 → (cutS t none (some (a : Int))).length ≤ 5 ∧ (cutS t (some (a : Int)) none).length ≤ 5 := by decide +kernel
theorem Str.len_app (a b : Str) : (a ++ b).length = a.length + b.length := by
  show (a.cps ++ b.cps).size = _
  rw [Array.size_append]
  rfl
theorem rLts_strs (ss : List Str) (n : Nat) : rLts n (ss.map D.str) = true := rLts_all fun d hd => by
  obtain ⟨s, _, rfl⟩ := List.mem_map.mp hd
  rw [rLt]
theorem rLts_ints (ss : List Int) (n : Nat) : rLts n (ss.map D.int) = true := rLts_all fun d hd => by
  obtain ⟨s, _, rfl⟩ := List.mem_map.mp hd
  rw [rLt]
theorem rLt_strs (ss : List Str) (n : Nat) : rLt n (.lst (ss.map D.str)) = true := by rw [rLt]; exact rLts_strs ss n
theorem rng1K_ok {n : Nat} {c : Ct} (h : n ≤ 100000) : rng1K (.int (n : Int)) c = .ok (rngD 0 n) c := rng1_len h
section
variable {T : Tab} {k : Nat} {x : List D} {c0 : Ct}
set_option maxHeartbeats 16000000 in
theorem names_ok (L : Lib T) (hk : 3 ≤ k) (hx : Dl x) {n : Nat} (hn : n ≤ 4) : ∃ x' ss, Dl x' ∧ ss.length = n ∧ NamesOk ss ∧ evF T k P.i_l_names [.ref 0, .int (n : Int)] (.lst x :: c0) = .ok (.lst (ss.map .str)) (.lst x' :: c0) := by
  obtain ⟨k, rfl⟩ : ∃ j, k = j + 1 := ⟨k - 1, by omega⟩
  obtain ⟨x1, d, hx1, hd, e1⟩ := of0 (k := k) (c0 := c0) L (by omega) hx (ds := tails.map .str) (by decide) (by decide)
  obtain ⟨t, ht, rfl⟩ := List.mem_map.mp hd
  have ht5 := tails_len t ht
  obtain ⟨x2, a, hx2, ha0, ha1, e2⟩ := pick0 (k := k) (c0 := c0) L (by omega) hx1 (m := (t.length : Int) + 1) (by omega) (by omega)
  obtain ⟨x3, s, hx3, hs0, hs1, e3⟩ := pick0 (k := k) (c0 := c0) L (by omega) hx2 (m := 26) (by omega) (by omega)
  obtain ⟨a, rfl⟩ : ∃ j : Nat, a = j := ⟨a.toNat, by omega⟩
  obtain ⟨s, rfl⟩ : ∃ j : Nat, s = j := ⟨s.toNat, by omega⟩
  refine ⟨x3, (List.range n).map fun i => nameAt t a ((s + 5 * i) % 26), hx3, by simp, ⟨?_, fun z hz => ?_⟩, ?_⟩
  · refine List.pairwise_map.mpr (List.Pairwise.imp_of_mem ?_ List.nodup_range)
    intro i j hi hj hij h
    have hi := List.mem_range.mp hi
    have hj := List.mem_range.mp hj
    refine hij ?_
    have := names_ne (Nat.mod_lt _ (by omega)) (Nat.mod_lt _ (by omega)) h
    omega
  · obtain ⟨i, _, rfl⟩ := List.mem_map.mp hz
    exact names_fin t ht a (by omega) (by omega) _ (Nat.mod_lt _ (by omega))
  · refine run_rt (d := .lst (((List.range n).map fun i => nameAt t a ((s + 5 * i) % 26)).map .str)) (sl := [some (.ref 0), some (.int n), some (.str t), some (.int a), some (.int s), some (.str signs), none]) (c' := .lst x3 :: c0) L.names rfl ?_ gcD0
    show evSs (evF T k) P.b_l_names [some (.ref 0), some (.int n), none, none, none, none, none] (.lst x :: c0) = _
    unfold P.b_l_names
    refine step_nx (sl' := [some (.ref 0), some (.int n), some (.str t), none, none, none, none]) (c' := .lst x1 :: c0) (asg_ok (d := .str t) ?_ rfl) ?_
    · refine call_ok (ds := [.ref 0, .lst (tails.map .str)]) (zs := []) (c2 := .lst x :: c0) ?_ rfl rfl e1
      simp only [evSs_cons, evSs_nil, seqK_nx, seqK_rt, seqK_ex, evS, evM, evA, evO, evI, evT, bnd_ok, ofR_ok, tst_f, tst_t, varK_some, Cst.d, bolK_bl, tru_bl', truK_bl, and_bl, or_bl, notK_bl, bin_add, bin_sub, cmp_lt, cmp_le, cmp_gt, cmp_ge, cmp_eqI, cmp_neI, cmp_eqB, cmp_neB, cmp_eqS, cmp_neS, cmp_isN, cmp_isnN, cmp_isB, len_lst, len_tup, isNon, intO, seqD, asT, asTs, Option.bind_some, List.getElem?_cons_zero, List.getElem?_cons_succ, List.set_cons_zero, List.set_cons_succ, fin_rt, fin_nx, fin_ex, if_true, callK, arrD, List.cons_append, List.nil_append, Option.map_some, retK_f, eq_self, decide_true, decide_false, Bool.false_eq_true, if_false, lstK_f (ds := [D.str "", .str "b", .str "zz", .str "xy", .str "mmmmm", .str "bbbbb"]) (by simp)]
      rfl
    refine step_nx (sl' := [some (.ref 0), some (.int n), some (.str t), some (.int a), some (.int s), none, none]) (c' := .lst x3 :: c0) (asg_ok (d := .tup [.int a, .int s]) ?_ rfl) ?_
    · have hl : ∀ c, bltD .len [.str t] c = .ok (.int (t.length : Int)) c := fun c => len_str (by omega)
      simp only [evSs_cons, evSs_nil, seqK_nx, seqK_rt, seqK_ex, evS, evM, evA, evO, evI, evT, bnd_ok, ofR_ok, tst_f, tst_t, varK_some, Cst.d, bolK_bl, tru_bl', truK_bl, and_bl, or_bl, notK_bl, bin_add, bin_sub, cmp_lt, cmp_le, cmp_gt, cmp_ge, cmp_eqI, cmp_neI, cmp_eqB, cmp_neB, cmp_eqS, cmp_neS, cmp_isN, cmp_isnN, cmp_isB, len_lst, len_tup, isNon, intO, seqD, asT, asTs, Option.bind_some, List.getElem?_cons_zero, List.getElem?_cons_succ, List.set_cons_zero, List.set_cons_succ, fin_rt, fin_nx, fin_ex, if_true, callK, arrD, List.cons_append, List.nil_append, Option.map_some, retK_f, eq_self, decide_true, decide_false, Bool.false_eq_true, if_false, hl, e2, e3]
      exact tupK_ok (by simp) _
    refine step_nx (sl' := [some (.ref 0), some (.int n), some (.str t), some (.int a), some (.int s), some (.str signs), none]) (c' := .lst x3 :: c0) (asg_ok (d := .str signs) rfl rfl) ?_
    refine step_rt (ret_ok (compf_ok (rng1_ok (n := n) (var_ok rfl) (by omega)) ?_ ?_))
    · rw [List.map_map]
      refine compR_lst _ _ _ fun i hi => ?_
      have hi := List.mem_range.mp hi
      refine ⟨_, rfl, true_ok, ?_⟩
      have h1 := cut_lenS t ht a (by omega)
      have hm : ∀ c, binD false .mul (.int 5) (.int (i : Int)) c = .ok (.int (5 * (i : Int))) c := fun c => mulD' 10 10 (by decide) (by omega) (by omega) (by omega) (by omega) c
      have hmod : ∀ c, binD false .mod (.int ((s : Int) + 5 * (i : Int))) (.int 26) c = .ok (.int (((s + 5 * i) % 26 : Nat) : Int)) c := fun c => by
        have e : ((s : Int) + 5 * (i : Int)) % 26 = (((s + 5 * i) % 26 : Nat) : Int) := by omega
        rw [modD (by omega), e]
      have hix : ∀ c, idxD (.str signs) (.int (((s + 5 * i) % 26 : Nat) : Int)) c = .ok (sigD (signs.cps.toList.getD ((s + 5 * i) % 26) 0)) c := fun c => idx_str (by decide +kernel) (signs_at _ (Nat.mod_lt _ (by omega)))
      have hs1 : ∀ c, slcD (.str t) none (some (a : Int)) c = .ok (.str (cutS t none (some (a : Int)))) c := fun c => slc_str (by omega)
      have hs2 : ∀ c, slcD (.str t) (some (a : Int)) none c = .ok (.str (cutS t (some (a : Int)) none)) c := fun c => slc_str (by omega)
      have hone : (⟨#[signs.cps.toList.getD ((s + 5 * i) % 26) 0]⟩ : Str).length = 1 := rfl
      simp only [evSs_cons, evSs_nil, seqK_nx, seqK_rt, seqK_ex, evS, evM, evA, evO, evI, evT, bnd_ok, ofR_ok, tst_f, tst_t, varK_some, Cst.d, bolK_bl, tru_bl', truK_bl, and_bl, or_bl, notK_bl, bin_add, bin_sub, cmp_lt, cmp_le, cmp_gt, cmp_ge, cmp_eqI, cmp_neI, cmp_eqB, cmp_neB, cmp_eqS, cmp_neS, cmp_isN, cmp_isnN, cmp_isB, len_lst, len_tup, isNon, intO, seqD, asT, asTs, Option.bind_some, List.getElem?_cons_zero, List.getElem?_cons_succ, List.set_cons_zero, List.set_cons_succ, fin_rt, fin_nx, fin_ex, if_true, callK, arrD, List.cons_append, List.nil_append, Option.map_some, retK_f, eq_self, decide_true, decide_false, Bool.false_eq_true, if_false, wipeD, hs1, hs2, hm, hmod, hix, sigD]
      rw [cat_str (by omega), bnd_ok, cat_str (by rw [Str.len_app]; omega)]
      rfl
    · simp
      omega
theorem ins_perm {α : Type} (l : List α) (i : Nat) (d : α) : (l.take i ++ [d] ++ l.drop i).Perm (d :: l) := by
  have h : (l.take i ++ d :: l.drop i).Perm (d :: (l.take i ++ l.drop i)) := List.perm_middle
  rw [List.take_append_drop] at h
  rw [List.append_assoc]
  exact h
set_option maxHeartbeats 16000000 in
/-- a drawn order -/
theorem shuffled_ok (L : Lib T) (hk : 2 ≤ k) (hx : Dl x) {ds : List D} (hp : rLts 0 ds = true) (hl : ds.length ≤ 1000) : ∃ x' ys, Dl x' ∧ ys.Perm ds ∧ evF T k P.i_l_shuffled [.ref 0, .lst ds] (.lst x :: c0) = .ok (.lst ys) (.lst x' :: c0) := by
  obtain ⟨k, rfl⟩ : ∃ j, k = j + 1 := ⟨k - 1, by omega⟩
  obtain ⟨sl', c', h1, w, x', ys, hx', hy, hsl, hc⟩ := forR_i (tg := asT (.nm 3)) (b := evSs (evF T k) (.cons (.expr (.bm .insert (.var 2) (.cons (.call false 10 [] [.arg 0, .arg 1] (.cons (.var 0) (.cons (.bin false .add (.blt .len (.cons (.var 2) .nil)) (.cst (.int 1))) .nil)) .nil) (.cons (.var 3) .nil)))) .nil))
    (fun i sl c => ∃ w x' ys, Dl x' ∧ ys.Perm (ds.take i) ∧ sl = [some (.ref 0), some (.lst ds), some (.ref (c0.length + 1)), w] ∧ c = .lst x' :: (c0 ++ [.lst ys])) ds (fun i d hd sl c hI => by
      obtain ⟨w, x1, ys, hx1, hy, rfl, rfl⟩ := hI
      have hi : i < ds.length := (List.getElem?_eq_some_iff.mp hd).1
      have hyl : ys.length = i := by rw [hy.length_eq, List.length_take]; omega
      obtain ⟨x2, v, hx2, hv0, hv1, e2⟩ := pick0 (k := k) (c0 := c0 ++ [.lst ys]) L (by omega) hx1 (m := (ys.length : Int) + 1) (by omega) (by omega)
      refine ⟨_, _, _, rfl, step_nx (sl' := [some (.ref 0), some (.lst ds), some (.ref (c0.length + 1)), some d]) (c' := .lst x2 :: (c0 ++ [.lst (ys.take v.toNat ++ [d] ++ ys.drop v.toNat)])) (expr_ok (d := .non) ?_) rfl, some d, x2, _, hx2, ?_, rfl, rfl⟩
      · have hlen : bltD .len [.ref (c0.length + 1)] (.lst x1 :: (c0 ++ [.lst ys])) = .ok (.int (ys.length : Int)) (.lst x1 :: (c0 ++ [.lst ys])) := len_its (its_ref (at_last _ _ _))
        refine bm_ok (x := .ref (c0.length + 1)) (ds := [.int v, d]) (c1 := .lst x1 :: (c0 ++ [.lst ys])) (c2 := .lst x2 :: (c0 ++ [.lst ys])) rfl ?_ ?_ ?_
        · unfold lstD
          dsimp only
          rw [at_last]
          rfl
        · simp only [evSs_cons, evSs_nil, seqK_nx, seqK_rt, seqK_ex, evS, evM, evA, evO, evI, evT, bnd_ok, ofR_ok, tst_f, tst_t, varK_some, Cst.d, bolK_bl, tru_bl', truK_bl, and_bl, or_bl, notK_bl, bin_add, bin_sub, cmp_lt, cmp_le, cmp_gt, cmp_ge, cmp_eqI, cmp_neI, cmp_eqB, cmp_neB, cmp_eqS, cmp_neS, cmp_isN, cmp_isnN, cmp_isB, len_lst, len_tup, isNon, intO, seqD, asT, asTs, Option.bind_some, List.getElem?_cons_zero, List.getElem?_cons_succ, List.set_cons_zero, List.set_cons_succ, fin_rt, fin_nx, fin_ex, if_true, callK, arrD, List.cons_append, List.nil_append, Option.map_some, retK_f, eq_self, decide_true, decide_false, Bool.false_eq_true, if_false, hlen, e2]
        · unfold mthD
          dsimp only
          rw [at_last]
          dsimp only
          rw [if_pos ⟨by omega, by omega, by omega⟩, set_last]
      · rw [List.take_add_one, hd]
        refine (ins_perm ys v.toNat d).trans ?_
        exact (List.Perm.cons d hy).trans (List.perm_append_comm (l₁ := [d]))) (sl := [some (.ref 0), some (.lst ds), some (.ref (c0.length + 1)), none]) (c := .lst x :: (c0 ++ [.lst []])) ⟨none, x, [], hx, by simp, rfl, rfl⟩
  rw [List.take_length] at hy
  refine ⟨x', ys, hx', hy, ?_⟩
  have hys : rLts 0 ys = true := rLts_all fun d hd => rLts_get hp d (hy.mem_iff.mp hd)
  refine run_rt (d := .lst ys) (sl := sl') (c' := .lst x' :: (c0 ++ [.dead])) L.shuffled rfl ?_ (gcD hx' (by rw [rLt]; exact hys))
  show evSs (evF T k) P.b_l_shuffled [some (.ref 0), some (.lst ds), none, none] (.lst x :: c0) = _
  unfold P.b_l_shuffled
  refine step_nx (sl' := [some (.ref 0), some (.lst ds), some (.ref (c0.length + 1)), none]) (c' := .lst x :: (c0 ++ [.lst []])) (asg_ok (d := .ref (c0.length + 1)) (lstt_ok (c1 := .lst x :: c0) args_nil (by simp)) rfl) ?_
  refine step_nx (sl' := sl') (c' := c') (for_ok (its := ds) (c1 := .lst x :: (c0 ++ [.lst []])) (seq_ok (d := .lst ds) rfl rfl) h1) ?_
  subst hsl hc
  refine step_rt (ret_ok (frzE_ok (x := .ref (c0.length + 1)) rfl ?_))
  rw [frz_ref (at_last _ _ _) hys, set_last]
end
end Hv

set_option Elab.async false
set_option linter.all false
set_option maxRecDepth 100000
set_option maxHeartbeats 4000000
/-! HvX: plain data as Lean's own: deep ==, in, index. -/
namespace Hv
open PySem PySem.Spec PyProof.Rows L2

/-- things of Lean's as data: ok ones are told apart by == -/
structure Cod {α : Type} [DecidableEq α] (e : α → D) (p : α → PyData) (n : Nat) (ok : α → Prop) : Prop where
  to : ∀ (k : Nat) (c : Ct) (a : α), n ≤ k → ok a → toP k (e a) c = some (p a)
  eqv : ∀ a b, ok a → ok b → PyData.eqv (p a) (p b) = decide (a = b)
  lay : ∀ a, ok a → (p a).canLay0 = true
  dep : ∀ a, ok a → (p a).depth ≤ n
theorem cod_int : Cod D.int PyData.int 0 (fun _ => True) where
  to k c a _ _ := by cases k <;> rfl
  eqv a b _ _ := by
    rw [PyData.eqv]
    by_cases h : a = b
    · simp [h]
    · simp [h]
  lay a _ := rfl
  dep a _ := by rw [PyData.depth]; exact Nat.le_refl _
theorem cod_str : Cod D.str PyData.str 0 (fun s => PyData.strOk s = true) where
  to k c a _ _ := by cases k <;> rfl
  eqv a b _ _ := by
    rw [PyData.eqv]
    by_cases h : a = b
    · simp [h]
    · simp [h]
  lay a h := by rw [PyData.canLay0]; exact h
  dep a _ := by rw [PyData.depth]; exact Nat.le_refl _
theorem mapO_map {α β γ : Type} (f : β → Option γ) (e : α → β) (p : α → γ) : ∀ (l : List α), (∀ a ∈ l, f (e a) = some (p a)) → mapO f (l.map e) = some (l.map p)
  | [], _ => rfl
  | a :: l, h => by
    rw [List.map_cons, mapO, h a List.mem_cons_self]
    show (mapO f (l.map e)).map _ = _
    rw [mapO_map f e p l fun b hb => h b (List.mem_cons_of_mem _ hb)]
    rfl
theorem eqvAll_map {α : Type} [DecidableEq α] {p : α → PyData} {ok : α → Prop} (h : ∀ a b, ok a → ok b → PyData.eqv (p a) (p b) = decide (a = b)) : ∀ (l m : List α), (∀ a ∈ l, ok a) → (∀ a ∈ m, ok a) → PyData.eqvAll (l.map p) (m.map p) = decide (l = m)
  | [], [], _, _ => by rw [List.map_nil, PyData.eqvAll]; simp
  | [], b :: m, _, _ => by rw [List.map_nil, List.map_cons, PyData.eqvAll]; simp
  | a :: l, [], _, _ => by rw [List.map_nil, List.map_cons, PyData.eqvAll]; simp
  | a :: l, b :: m, hl, hm => by
    rw [List.map_cons, List.map_cons, PyData.eqvAll, h a b (hl a List.mem_cons_self) (hm b List.mem_cons_self), eqvAll_map h l m (fun x hx => hl x (List.mem_cons_of_mem _ hx)) (fun x hx => hm x (List.mem_cons_of_mem _ hx))]
    by_cases h1 : a = b
    · by_cases h2 : l = m
      · simp [h1, h2]
      · simp [h1, h2]
    · simp [h1]
theorem layAll_map {α : Type} {p : α → PyData} : ∀ (l : List α), (∀ a ∈ l, (p a).canLay0 = true) → PyData.canLayAll0 (l.map p) = true
  | [], _ => by rw [List.map_nil, PyData.canLayAll0]
  | a :: l, h => by
    rw [List.map_cons, PyData.canLayAll0, h a List.mem_cons_self, layAll_map l fun b hb => h b (List.mem_cons_of_mem _ hb)]
    rfl
theorem depAll_map {α : Type} {p : α → PyData} {n : Nat} : ∀ (l : List α), (∀ a ∈ l, (p a).depth ≤ n) → PyData.depthAll (l.map p) ≤ n
  | [], _ => by rw [List.map_nil, PyData.depthAll]; omega
  | a :: l, h => by
    rw [List.map_cons, PyData.depthAll]
    have := h a List.mem_cons_self
    have := depAll_map l fun b hb => h b (List.mem_cons_of_mem _ hb)
    omega
section
variable {α β : Type} [DecidableEq α] [DecidableEq β] {e : α → D} {p : α → PyData} {n : Nat} {ok : α → Prop} {e' : β → D} {p' : β → PyData} {n' : Nat} {ok' : β → Prop}
theorem Cod.lst (C : Cod e p n ok) : Cod (fun l : List α => D.lst (l.map e)) (fun l => PyData.list (l.map p)) (n + 1) (fun l => ∀ a ∈ l, ok a) where
  to k c l hk hl := by
    obtain ⟨k, rfl⟩ : ∃ j, k = j + 1 := ⟨k - 1, by omega⟩
    rw [toP, mapO_map _ e p l fun a ha => C.to k c a (by omega) (hl a ha)]
    rfl
  eqv a b ha hb := by
    rw [PyData.eqv]
    exact eqvAll_map C.eqv a b ha hb
  lay a ha := by rw [PyData.canLay0]; exact layAll_map a fun b hb => C.lay b (ha b hb)
  dep a ha := by
    rw [PyData.depth]
    have := depAll_map a fun b hb => C.dep b (ha b hb)
    omega
theorem Cod.tup (C : Cod e p n ok) : Cod (fun l : List α => D.tup (l.map e)) (fun l => PyData.tuple (l.map p)) (n + 1) (fun l => ∀ a ∈ l, ok a) where
  to k c l hk hl := by
    obtain ⟨k, rfl⟩ : ∃ j, k = j + 1 := ⟨k - 1, by omega⟩
    rw [toP, mapO_map _ e p l fun a ha => C.to k c a (by omega) (hl a ha)]
    rfl
  eqv a b ha hb := by
    rw [PyData.eqv]
    exact eqvAll_map C.eqv a b ha hb
  lay a ha := by rw [PyData.canLay0]; exact layAll_map a fun b hb => C.lay b (ha b hb)
  dep a ha := by
    rw [PyData.depth]
    have := depAll_map a fun b hb => C.dep b (ha b hb)
    omega
theorem Cod.pair (C : Cod e p n ok) (C' : Cod e' p' n' ok') : Cod (fun q : α × β => D.tup [e q.1, e' q.2]) (fun q => PyData.tuple [p q.1, p' q.2]) (max n n' + 1) (fun q => ok q.1 ∧ ok' q.2) where
  to k c q hk hl := by
    obtain ⟨k, rfl⟩ : ∃ j, k = j + 1 := ⟨k - 1, by omega⟩
    rw [toP, mapO, C.to k c q.1 (by omega) hl.1]
    show (Option.map _ (Option.map _ ((toP k (e' q.2) c).bind _))) = _
    rw [C'.to k c q.2 (by omega) hl.2]
    rfl
  eqv a b ha hb := by
    rw [PyData.eqv, PyData.eqvAll, PyData.eqvAll, PyData.eqvAll, C.eqv _ _ ha.1 hb.1, C'.eqv _ _ ha.2 hb.2]
    obtain ⟨a1, a2⟩ := a
    obtain ⟨b1, b2⟩ := b
    by_cases h1 : a1 = b1
    · by_cases h2 : a2 = b2
      · simp [h1, h2]
      · simp [h1, h2]
    · simp [h1]
  lay a ha := by rw [PyData.canLay0, PyData.canLayAll0, PyData.canLayAll0, PyData.canLayAll0, C.lay _ ha.1, C'.lay _ ha.2]; rfl
  dep a ha := by
    rw [PyData.depth, PyData.depthAll, PyData.depthAll, PyData.depthAll]
    have := C.dep _ ha.1
    have := C'.dep _ ha.2
    omega
theorem Cod.weak (C : Cod e p n ok) {ok2 : α → Prop} (h : ∀ a, ok2 a → ok a) {m : Nat} (hm : n ≤ m) : Cod e p m ok2 where
  to k c a hk ha := C.to k c a (by omega) (h a ha)
  eqv a b ha hb := C.eqv a b (h a ha) (h b hb)
  lay a ha := C.lay a (h a ha)
  dep a ha := Nat.le_trans (C.dep a (h a ha)) hm
theorem Cod.shaped (C : Cod e p n ok) (hn : n ≤ 9) {a : α} (ha : ok a) : SeqAt.shaped (p a) = true := by
  unfold SeqAt.shaped
  rw [C.lay a ha, Bool.true_and]
  exact decide_eq_true (by have := C.dep a ha; omega)
theorem Cod.deep (C : Cod e p n ok) (hn : n ≤ 9) {a b : α} (ha : ok a) (hb : ok b) (c : Ct) : deepD (e a) (e b) c = some (decide (a = b)) := by
  unfold deepD
  rw [C.to 9 c a hn ha, C.to 9 c b hn hb]
  show (if _ then _ else _) = _
  rw [if_pos ⟨C.shaped hn ha, C.shaped hn hb⟩, C.eqv a b ha hb]
theorem Cod.eq (C : Cod e p n ok) (hn : n ≤ 9) {a b : α} (ha : ok a) (hb : ok b) (hx : eqD (e a) (e b) = none) (c : Ct) : cmpD .eq (e a) (e b) c = .ok (.bl (decide (a = b))) c := by
  show bO (orO (eqD (e a) (e b)) (deepD (e a) (e b) c)) c = _
  rw [hx, C.deep hn ha hb]
  rfl
theorem Cod.ne (C : Cod e p n ok) (hn : n ≤ 9) {a b : α} (ha : ok a) (hb : ok b) (hx : eqD (e a) (e b) = none) (c : Ct) : cmpD .ne (e a) (e b) c = .ok (.bl (!decide (a = b))) c := by
  show bO ((orO (eqD (e a) (e b)) (deepD (e a) (e b) c)).map (!·)) c = _
  rw [hx, C.deep hn ha hb]
  rfl
theorem any_map {q : α → PyData} (h : ∀ a b, ok a → ok b → PyData.eqv (q a) (q b) = decide (a = b)) {a : α} (ha : ok a) : ∀ (l : List α), (∀ b ∈ l, ok b) → ((l.map q).any fun z => PyData.eqv z (q a)) = decide (a ∈ l)
  | [], _ => by simp
  | b :: l, hl => by
    rw [List.map_cons, List.any_cons, h b a (hl b List.mem_cons_self) ha, any_map h ha l fun x hx => hl x (List.mem_cons_of_mem _ hx)]
    by_cases h1 : b = a
    · simp [h1]
    · have h2 : ¬ a = b := fun z => h1 z.symm
      simp [h1, h2]
/-- a list's data, as it stands -/
def LstAt (y : D) (c : Ct) (xs : List D) : Prop := (y = .lst xs) ∨ (∃ m, y = .ref m ∧ c[m]? = some (.lst xs))
theorem LstAt.toP {y : D} {c : Ct} {l : List α} (C : Cod e p n ok) (hn : n + 1 ≤ 9) (h : LstAt y c (l.map e)) (hl : ∀ a ∈ l, ok a) : toP 9 y c = some (.list (l.map p)) := by
  rcases h with rfl | ⟨m, rfl, hm⟩
  · exact C.lst.to 9 c l hn hl
  · rw [Hv.toP, hm]
    show (mapO _ (l.map e)).map _ = _
    rw [mapO_map _ e p l fun a ha => C.to 8 c a (by omega) (hl a ha)]
    rfl
theorem LstAt.notStr {y : D} {c : Ct} {xs : List D} (h : LstAt y c xs) (s : Str) : y ≠ .str s := by
  rcases h with rfl | ⟨m, rfl, hm⟩ <;> simp
theorem Cod.inn (C : Cod e p n ok) (hn : n + 1 ≤ 9) {y : D} {c : Ct} {l : List α} {a : α} (h : LstAt y c (l.map e)) (ha : ok a) (hl : ∀ b ∈ l, ok b) : inD (e a) y c = some (decide (a ∈ l)) := by
  have e1 : inD (e a) y c = match Hv.toP 9 (e a) c, Hv.toP 9 y c with
      | some a, some (.list bs) => if SeqAt.shaped a = true ∧ SeqAt.shaped (.list bs) = true then some (bs.any fun z => PyData.eqv z a) else none
      | _, _ => none := by
    unfold inD
    split
    · exact absurd rfl (h.notStr _)
    · rfl
  rw [e1, C.to 9 c a (by omega) ha, h.toP C hn hl]
  show (if _ then _ else _) = _
  rw [if_pos ⟨C.shaped (by omega) ha, C.lst.shaped hn (a := l) hl⟩, any_map C.eqv ha l hl]
theorem Cod.inB (C : Cod e p n ok) (hn : n + 1 ≤ 9) {y : D} {c : Ct} {l : List α} {a : α} (h : LstAt y c (l.map e)) (ha : ok a) (hl : ∀ b ∈ l, ok b) : cmpD .inn (e a) y c = .ok (.bl (decide (a ∈ l))) c := by
  show bO (inD (e a) y c) c = _
  rw [C.inn hn h ha hl]
  rfl
theorem Cod.ninB (C : Cod e p n ok) (hn : n + 1 ≤ 9) {y : D} {c : Ct} {l : List α} {a : α} (h : LstAt y c (l.map e)) (ha : ok a) (hl : ∀ b ∈ l, ok b) : cmpD .nin (e a) y c = .ok (.bl (!decide (a ∈ l))) c := by
  show bO ((inD (e a) y c).map (!·)) c = _
  rw [C.inn hn h ha hl]
  rfl
theorem place_map {q : α → PyData} (h : ∀ a b, ok a → ok b → PyData.eqv (q a) (q b) = decide (a = b)) {a : α} (ha : ok a) : ∀ (l : List α) (m : Nat), (∀ b ∈ l, ok b) → a ∈ l → placeP (q a) (l.map q) m = some (m + l.idxOf a)
  | b :: l, m, hl, hm => by
    rw [List.map_cons, placeP, h b a (hl b List.mem_cons_self) ha]
    by_cases h1 : b = a
    · subst h1
      simp
    · have hm : a ∈ l := (List.mem_cons.mp hm).resolve_left fun z => h1 z.symm
      rw [if_neg (by simpa using h1), place_map h ha l (m + 1) (fun x hx => hl x (List.mem_cons_of_mem _ hx)) hm, List.idxOf_cons]
      have : (b == a) = false := by simpa using h1
      rw [this]
      simp
      omega
theorem Cod.index (C : Cod e p n ok) (hn : n + 1 ≤ 9) {y : D} {c : Ct} {l : List α} {a : α} (h : LstAt y c (l.map e)) (ha : ok a) (hl : ∀ b ∈ l, ok b) (hm : a ∈ l) : mthD .index y [e a] c = .ok (.int (l.idxOf a : Nat)) c := by
  unfold mthD
  dsimp only
  rw [h.toP C hn hl, C.to 9 c a (by omega) ha]
  dsimp only
  rw [if_pos ⟨C.shaped (by omega) ha, C.lst.shaped hn (a := l) hl⟩, place_map C.eqv ha l 0 hl hm, Nat.zero_add]
end
end Hv

set_option Elab.async false
set_option linter.all false
set_option maxRecDepth 100000
set_option maxHeartbeats 4000000
/-! HvY: rules of drawn machines: stands, times, weights, what is sent. -/
namespace Hv
open PySem PySem.Spec PyProof.Rows L2

structure Rl where
  e : Int
  a : Int
  ws : List (Str × Int)
  gs : List (Str × Int)
  m : Option Int
def optD : Option Int → D
  | none => .non
  | some i => .int i
def pairD (p : Str × Int) : D := .tup [.str p.1, .int p.2]
def Rl.d (r : Rl) : D := .tup [.str "each", .int r.e, .int r.a, .tup (r.ws.map pairD), .tup (r.gs.map pairD), optD r.m]
def Rl.down (r : Rl) (x : Int) : Int := match r.m with
  | some m => if r.a + r.e * m < x then r.a + r.e * m else x
  | none => if x < r.a then x else r.a + (x - r.a) % r.e
def mx0 (i : Int) : Int := if i > 0 then i else 0
def Rl.times (r : Rl) (x : Int) : Int := match r.m with
  | some m => if m < mx0 (x - r.a) / r.e then m else mx0 (x - r.a) / r.e
  | none => mx0 (x - r.a) / r.e
def Rl.weight (r : Rl) (n : Str) : Int := ((r.ws.filter fun q => decide (q.1 = n)).map (·.2)).sum
structure RlOk (outs : List Str) (r : Rl) : Prop where
  e1 : 1 ≤ r.e
  e2 : r.e ≤ 8
  a1 : 0 ≤ r.a
  a2 : r.a ≤ 8
  ws : ∀ p ∈ r.ws, 0 ≤ p.2 ∧ p.2 ≤ 3
  wl : r.ws.length ≤ 3
  wn : ∀ p ∈ r.ws, PyData.strOk p.1 = true
  gs : ∀ p ∈ r.gs, 0 ≤ p.2 ∧ p.2 ≤ 3 ∧ p.1 ∈ outs
  gl : r.gs.length ≤ 3
  m1 : ∀ m, r.m = some m → 0 ≤ m ∧ m ≤ 8
section
variable {T : Tab} {k : Nat} {c : Ct} {r : Rl} {outs : List Str}
theorem rl0 : idxD r.d (.int 0) c = .ok (.str "each") c := rfl
theorem rl1 : idxD r.d (.int 1) c = .ok (.int r.e) c := rfl
theorem rl2 : idxD r.d (.int 2) c = .ok (.int r.a) c := rfl
theorem rl3 : idxD r.d (.int 3) c = .ok (.tup (r.ws.map pairD)) c := rfl
theorem rl4 : idxD r.d (.int 4) c = .ok (.tup (r.gs.map pairD)) c := rfl
theorem rl5 : idxD r.d (.int 5) c = .ok (optD r.m) c := rfl
theorem sm10 {i : Int} (h0 : 0 ≤ i) (h : i < 1024) : i.natAbs < 2 ^ 10 := by omega
theorem min_ok {i j : Int} : bltD .min [.int i, .int j] c = .ok (.int (if j < i then j else i)) c := rfl
theorem max_ok {i j : Int} : bltD .max [.int i, .int j] c = .ok (.int (if j > i then j else i)) c := rfl
theorem down_ok (L : Lib T) (hk : 1 ≤ k) (hr : RlOk outs r) (x : Int) : evF T k P.i_l_down [r.d, .int x] c = .ok (.int (r.down x)) c := by
  obtain ⟨k, rfl⟩ : ∃ j, k = j + 1 := ⟨k - 1, by omega⟩
  refine run_rt (d := .int (r.down x)) (sl := [some r.d, some (.int x)]) (c' := c) L.down rfl ?_ (gcK_same _ _)
  show evSs (evF T k) P.b_l_down [some r.d, some (.int x)] c = _
  unfold P.b_l_down Rl.down
  have := hr.e1; have := hr.e2; have := hr.a1; have := hr.a2
  cases hm : r.m with
  | none =>
    have h5 : idxD r.d (.int 5) c = .ok .non c := by rw [rl5, hm]; rfl
    by_cases hx : x < r.a
    · simp only [evSs_cons, evSs_nil, seqK_nx, seqK_rt, seqK_ex, evS, evM, evA, evO, evI, evT, bnd_ok, ofR_ok, tst_f, tst_t, varK_some, Cst.d, bolK_bl, tru_bl', truK_bl, and_bl, or_bl, notK_bl, bin_add, bin_sub, cmp_lt, cmp_le, cmp_gt, cmp_ge, cmp_eqI, cmp_neI, cmp_eqB, cmp_neB, cmp_eqS, cmp_neS, cmp_isN, cmp_isnN, cmp_isB, len_lst, len_tup, isNon, intO, seqD, asT, asTs, Option.bind_some, List.getElem?_cons_zero, List.getElem?_cons_succ, List.set_cons_zero, List.set_cons_succ, fin_rt, fin_nx, fin_ex, if_true, callK, arrD, List.cons_append, List.nil_append, Option.map_some, retK_f, eq_self, decide_true, decide_false, Bool.false_eq_true, if_false, h5, rl2, rl1, Bool.not_true, hx, ifK]
    · simp only [evSs_cons, evSs_nil, seqK_nx, seqK_rt, seqK_ex, evS, evM, evA, evO, evI, evT, bnd_ok, ofR_ok, tst_f, tst_t, varK_some, Cst.d, bolK_bl, tru_bl', truK_bl, and_bl, or_bl, notK_bl, bin_add, bin_sub, cmp_lt, cmp_le, cmp_gt, cmp_ge, cmp_eqI, cmp_neI, cmp_eqB, cmp_neB, cmp_eqS, cmp_neS, cmp_isN, cmp_isnN, cmp_isB, len_lst, len_tup, isNon, intO, seqD, asT, asTs, Option.bind_some, List.getElem?_cons_zero, List.getElem?_cons_succ, List.set_cons_zero, List.set_cons_succ, fin_rt, fin_nx, fin_ex, if_true, callK, arrD, List.cons_append, List.nil_append, Option.map_some, retK_f, eq_self, decide_true, decide_false, Bool.false_eq_true, if_false, h5, rl2, rl1, Bool.not_true, hx, ifK, modD (i := x - r.a) (j := r.e) (by omega)]
  | some m =>
    have h5 : idxD r.d (.int 5) c = .ok (.int m) c := by rw [rl5, hm]; rfl
    have := hr.m1 m hm
    simp only [evSs_cons, evSs_nil, seqK_nx, seqK_rt, seqK_ex, evS, evM, evA, evO, evI, evT, bnd_ok, ofR_ok, tst_f, tst_t, varK_some, Cst.d, bolK_bl, tru_bl', truK_bl, and_bl, or_bl, notK_bl, bin_add, bin_sub, cmp_lt, cmp_le, cmp_gt, cmp_ge, cmp_eqI, cmp_neI, cmp_eqB, cmp_neB, cmp_eqS, cmp_neS, cmp_isN, cmp_isnN, cmp_isB, len_lst, len_tup, isNon, intO, seqD, asT, asTs, Option.bind_some, List.getElem?_cons_zero, List.getElem?_cons_succ, List.set_cons_zero, List.set_cons_succ, fin_rt, fin_nx, fin_ex, if_true, callK, arrD, List.cons_append, List.nil_append, Option.map_some, retK_f, eq_self, decide_true, decide_false, Bool.false_eq_true, if_false, h5, rl2, rl1, Bool.not_false, mulD' (i := r.e) (j := m) 10 10 (sm10 (by omega) (by omega)) (sm10 (by omega) (by omega)) (by decide) (by decide) (by decide), min_ok]
theorem times_ok (L : Lib T) (hk : 1 ≤ k) (hr : RlOk outs r) (x : Int) : evF T k P.i_l_times_of [r.d, .int x] c = .ok (.int (r.times x)) c := by
  obtain ⟨k, rfl⟩ : ∃ j, k = j + 1 := ⟨k - 1, by omega⟩
  refine run_rt (d := .int (r.times x)) (sl := [some r.d, some (.int x), some (.int (mx0 (x - r.a) / r.e))]) (c' := c) L.times_of rfl ?_ (gcK_same _ _)
  show evSs (evF T k) P.b_l_times_of [some r.d, some (.int x), none] c = _
  unfold P.b_l_times_of Rl.times
  have := hr.e1; have := hr.e2
  have hmx : ∀ i : Int, (if i > 0 then i else 0) = mx0 i := fun _ => rfl
  have hd : r.e.natAbs.log2 < 9000 := Nat.lt_of_lt_of_le (log2_lt (n := 10) (by decide) (sm10 (by omega) (by omega))) (by decide)
  cases hm : r.m with
  | none =>
    have h5 : idxD r.d (.int 5) c = .ok .non c := by rw [rl5, hm]; rfl
    simp only [evSs_cons, evSs_nil, seqK_nx, seqK_rt, seqK_ex, evS, evM, evA, evO, evI, evT, bnd_ok, ofR_ok, tst_f, tst_t, varK_some, Cst.d, bolK_bl, tru_bl', truK_bl, and_bl, or_bl, notK_bl, bin_add, bin_sub, cmp_lt, cmp_le, cmp_gt, cmp_ge, cmp_eqI, cmp_neI, cmp_eqB, cmp_neB, cmp_eqS, cmp_neS, cmp_isN, cmp_isnN, cmp_isB, len_lst, len_tup, isNon, intO, seqD, asT, asTs, Option.bind_some, List.getElem?_cons_zero, List.getElem?_cons_succ, List.set_cons_zero, List.set_cons_succ, fin_rt, fin_nx, fin_ex, if_true, callK, arrD, List.cons_append, List.nil_append, Option.map_some, retK_f, eq_self, decide_true, decide_false, Bool.false_eq_true, if_false, h5, rl2, rl1, ifK, max_ok, hmx, divD (i := mx0 (x - r.a)) (j := r.e) (by omega) hd]
  | some m =>
    have h5 : idxD r.d (.int 5) c = .ok (.int m) c := by rw [rl5, hm]; rfl
    simp only [evSs_cons, evSs_nil, seqK_nx, seqK_rt, seqK_ex, evS, evM, evA, evO, evI, evT, bnd_ok, ofR_ok, tst_f, tst_t, varK_some, Cst.d, bolK_bl, tru_bl', truK_bl, and_bl, or_bl, notK_bl, bin_add, bin_sub, cmp_lt, cmp_le, cmp_gt, cmp_ge, cmp_eqI, cmp_neI, cmp_eqB, cmp_neB, cmp_eqS, cmp_neS, cmp_isN, cmp_isnN, cmp_isB, len_lst, len_tup, isNon, intO, seqD, asT, asTs, Option.bind_some, List.getElem?_cons_zero, List.getElem?_cons_succ, List.set_cons_zero, List.set_cons_succ, fin_rt, fin_nx, fin_ex, if_true, callK, arrD, List.cons_append, List.nil_append, Option.map_some, retK_f, eq_self, decide_true, decide_false, Bool.false_eq_true, if_false, h5, rl2, rl1, ifK, max_ok, min_ok, hmx, divD (i := mx0 (x - r.a)) (j := r.e) (by omega) hd]
theorem sum_ints (ns : List Int) : bltD .sum [.lst (ns.map D.int)] c = .ok (.int ns.sum) c := by
  have h : ∀ ns : List Int, intsD (ns.map D.int) = some ns := fun ns => by
    induction ns with
    | nil => rfl
    | cons a l ih => rw [List.map_cons, intsD, ih]; rfl
  show (match (itsD (.lst (ns.map D.int)) c).bind intsD with | some bs => if isL (.lst (ns.map D.int)) then (Res.ok (D.int bs.sum) c : Res D) else .stuck | none => .stuck) = _
  show (match intsD (ns.map D.int) with | some bs => if isL (.lst (ns.map D.int)) then (Res.ok (D.int bs.sum) c : Res D) else .stuck | none => .stuck) = _
  rw [h]
  rfl
theorem weight_ok (L : Lib T) (hk : 1 ≤ k) (hr : RlOk outs r) (n : Str) : evF T k P.i_l_weight [r.d, .str n] c = .ok (.int (r.weight n)) c := by
  obtain ⟨k, rfl⟩ : ∃ j, k = j + 1 := ⟨k - 1, by omega⟩
  refine run_rt (d := .int (r.weight n)) (sl := [some r.d, some (.str n), none, none]) (c' := c) L.weight rfl ?_ (gcK_same _ _)
  show evSs (evF T k) P.b_l_weight [some r.d, some (.str n), none, none] c = _
  unfold P.b_l_weight
  refine step_rt (ret_ok (blt_ok (ds := [.lst ((r.ws.filter fun q => decide (q.1 = n)).map fun q => D.int q.2)]) (c1 := c) (args_cons (compf_ok (its := r.ws.map pairD) (c1 := c) (seq_ok (d := .tup (r.ws.map pairD)) (c1 := c) ?_ rfl) (compR_lstf pairD (fun q => decide (q.1 = n)) (fun q => .int q.2) _ fun q hq => ?_) ?_) args_nil) ?_))
  · simp only [evSs_cons, evSs_nil, seqK_nx, seqK_rt, seqK_ex, evS, evM, evA, evO, evI, evT, bnd_ok, ofR_ok, tst_f, tst_t, varK_some, Cst.d, bolK_bl, tru_bl', truK_bl, and_bl, or_bl, notK_bl, bin_add, bin_sub, cmp_lt, cmp_le, cmp_gt, cmp_ge, cmp_eqI, cmp_neI, cmp_eqB, cmp_neB, cmp_eqS, cmp_neS, cmp_isN, cmp_isnN, cmp_isB, len_lst, len_tup, isNon, intO, seqD, asT, asTs, Option.bind_some, List.getElem?_cons_zero, List.getElem?_cons_succ, List.set_cons_zero, List.set_cons_succ, fin_rt, fin_nx, fin_ex, if_true, callK, arrD, List.cons_append, List.nil_append, Option.map_some, retK_f, eq_self, decide_true, decide_false, Bool.false_eq_true, if_false, rl3]
  · refine ⟨[some r.d, some (.str n), some (.str q.1), some (.int q.2)], rfl, ?_, fun _ => ?_⟩
    · simp only [evSs_cons, evSs_nil, seqK_nx, seqK_rt, seqK_ex, evS, evM, evA, evO, evI, evT, bnd_ok, ofR_ok, tst_f, tst_t, varK_some, Cst.d, bolK_bl, tru_bl', truK_bl, and_bl, or_bl, notK_bl, bin_add, bin_sub, cmp_lt, cmp_le, cmp_gt, cmp_ge, cmp_eqI, cmp_neI, cmp_eqB, cmp_neB, cmp_eqS, cmp_neS, cmp_isN, cmp_isnN, cmp_isB, len_lst, len_tup, isNon, intO, seqD, asT, asTs, Option.bind_some, List.getElem?_cons_zero, List.getElem?_cons_succ, List.set_cons_zero, List.set_cons_succ, fin_rt, fin_nx, fin_ex, if_true, callK, arrD, List.cons_append, List.nil_append, Option.map_some, retK_f, eq_self, decide_true, decide_false, Bool.false_eq_true, if_false]
    · simp only [evSs_cons, evSs_nil, seqK_nx, seqK_rt, seqK_ex, evS, evM, evA, evO, evI, evT, bnd_ok, ofR_ok, tst_f, tst_t, varK_some, Cst.d, bolK_bl, tru_bl', truK_bl, and_bl, or_bl, notK_bl, bin_add, bin_sub, cmp_lt, cmp_le, cmp_gt, cmp_ge, cmp_eqI, cmp_neI, cmp_eqB, cmp_neB, cmp_eqS, cmp_neS, cmp_isN, cmp_isnN, cmp_isB, len_lst, len_tup, isNon, intO, seqD, asT, asTs, Option.bind_some, List.getElem?_cons_zero, List.getElem?_cons_succ, List.set_cons_zero, List.set_cons_succ, fin_rt, fin_nx, fin_ex, if_true, callK, arrD, List.cons_append, List.nil_append, Option.map_some, retK_f, eq_self, decide_true, decide_false, Bool.false_eq_true, if_false]
  · have := List.length_filter_le (fun q : Str × Int => decide (q.1 = n)) r.ws
    have := hr.wl
    simp only [List.length_map]
    omega
  · rw [show ((r.ws.filter fun q => decide (q.1 = n)).map fun q => D.int q.2) = ((r.ws.filter fun q => decide (q.1 = n)).map (·.2)).map D.int from by rw [List.map_map]; rfl, sum_ints]
    rfl
theorem weight_le (hr : RlOk outs r) (n : Str) : 0 ≤ r.weight n ∧ r.weight n ≤ 9 := by
  have key : ∀ l : List Int, (∀ i ∈ l, 0 ≤ i ∧ i ≤ 3) → 0 ≤ l.sum ∧ l.sum ≤ 3 * (l.length : Int) := fun l => by
    induction l with
    | nil => intro _; simp
    | cons a l ih =>
      intro h
      have h1 := h a List.mem_cons_self
      have h2 := ih fun i hi => h i (List.mem_cons_of_mem _ hi)
      rw [List.sum_cons, List.length_cons]
      constructor
      · omega
      · omega
  have h := key ((r.ws.filter fun q => decide (q.1 = n)).map (·.2)) fun i hi => by
    obtain ⟨q, hq, rfl⟩ := List.mem_map.mp hi
    exact hr.ws q (List.mem_filter.mp hq).1
  have := List.length_filter_le (fun q : Str × Int => decide (q.1 = n)) r.ws
  have := hr.wl
  rw [List.length_map] at h
  unfold Rl.weight
  omega
/-! ### what is sent -/
def gsum (o : Str) : List (Str × Int) → Int
  | [] => 0
  | q :: l => (if q.1 = o then q.2 else 0) + gsum o l
theorem gsum_app (o : Str) : ∀ (l m : List (Str × Int)), gsum o (l ++ m) = gsum o l + gsum o m
  | [], m => by rw [List.nil_append, gsum, Int.zero_add]
  | q :: l, m => by rw [List.cons_append, gsum, gsum, gsum_app o l m, Int.add_assoc]
theorem map_set_idx {α : Type} (f : Str → α) (v : α) (n : Str) : ∀ (outs : List Str), outs.Nodup → n ∈ outs → (outs.map f).set (outs.idxOf n) v = outs.map fun o => if o = n then v else f o
  | o :: outs, hd, hn => by
    rw [List.nodup_cons] at hd
    rw [List.idxOf_cons]
    by_cases h : o = n
    · subst h
      simp only [BEq.rfl, cond_true, List.map_cons, List.set_cons_zero, if_true]
      refine congrArg _ (List.map_congr_left fun z hz => ?_)
      rw [if_neg fun (e : z = o) => hd.1 (e ▸ hz)]
    · have hb : (o == n) = false := by simpa using h
      have hn := (List.mem_cons.mp hn).resolve_left fun e => h e.symm
      rw [hb]
      simp only [cond_false, List.map_cons, List.set_cons_succ, if_neg h]
      rw [map_set_idx f v n outs hd.2 hn]
/-- what rules give at o between two stands -/
def gAt : List Rl → List Int → List Int → Str → Int
  | r :: rs, x :: xs, y :: ys, o => gsum o r.gs * (r.times y - r.times x) + gAt rs xs ys o
  | _, _, _, _ => 0
def gainV (rs : List Rl) (outs : List Str) (xs ys : List Int) : List Int := outs.map (gAt rs xs ys)
theorem idx_get {α : Type} [DecidableEq α] {a : α} : ∀ {l : List α}, a ∈ l → l[l.idxOf a]? = some a
  | b :: l, h => by
    rw [List.idxOf_cons]
    by_cases hb : b = a
    · subst hb
      simp
    · have h := (List.mem_cons.mp h).resolve_left fun z => hb z.symm
      have e : (b == a) = false := by simpa using hb
      rw [e]
      simp only [cond_false, List.getElem?_cons_succ]
      exact idx_get h
theorem gAt_snoc (o : Str) : ∀ (i : Nat) (rs : List Rl) (xs ys : List Int) (r : Rl) (x y : Int), rs[i]? = some r → xs[i]? = some x → ys[i]? = some y → gAt (rs.take (i + 1)) (xs.take (i + 1)) (ys.take (i + 1)) o = gAt (rs.take i) (xs.take i) (ys.take i) o + gsum o r.gs * (r.times y - r.times x)
  | 0, r :: rs, x :: xs, y :: ys, _, _, _, h1, h2, h3 => by
    cases h1; cases h2; cases h3
    simp only [List.take_succ_cons, List.take_zero, gAt]
    omega
  | i + 1, r :: rs, x :: xs, y :: ys, r', x', y', h1, h2, h3 => by
    have ih := gAt_snoc o i rs xs ys r' x' y' h1 h2 h3
    simp only [List.take_succ_cons, gAt] at ih ⊢
    omega
theorem rowsD_get {n : Nat} {xss : List (List D)} {i : Nat} {d : D} (h : (rowsD n xss)[i]? = some d) : i < n ∧ d = .tup (xss.map fun xs => xs.getD i .non) := by
  unfold rowsD at h
  rw [List.getElem?_map] at h
  cases hr : (List.range n)[i]? with
  | none => rw [hr] at h; cases h
  | some j =>
    rw [hr] at h
    cases h
    have hi := (List.getElem?_eq_some_iff.mp hr)
    obtain ⟨hi, hj⟩ := hi
    rw [List.length_range] at hi
    rw [List.getElem_range] at hj
    subst hj
    exact ⟨hi, rfl⟩
theorem rowsD_len (n : Nat) (xss : List (List D)) : (rowsD n xss).length = n := by simp [rowsD]
theorem zip3 {a b d : List D} (h1 : b.length = a.length) (h2 : d.length = a.length) : zipK [.lst a, .lst b, .lst d] c = .ok (rowsD a.length [a, b, d]) c := by
  unfold zipK
  show (if _ then _ else _) = _
  rw [if_pos ⟨by simp [h1, h2], by simp, by simp⟩]
theorem zip2 {a b : List D} (h1 : b.length = a.length) : zipK [.lst a, .lst b] c = .ok (rowsD a.length [a, b]) c := by
  unfold zipK
  show (if _ then _ else _) = _
  rw [if_pos ⟨by simp [h1], by simp, by simp⟩]
theorem rep_ok {n : Nat} {d : D} (h : n ≤ 1000) : binD true .mul (.lst [d]) (.int (n : Int)) c = .ok (.ref c.length) (c ++ [Cell.lst (List.replicate n d)]) := by
  have e : binD true .mul (.lst [d]) (.int (n : Int)) c = if BOp.mul = BOp.mul then repD true (.lst [d]) (n : Int) c else .stuck := rfl
  rw [e, if_pos rfl]
  unfold repD lstD
  dsimp only
  rw [if_pos ⟨by omega, by omega, by rw [Int.toNat_natCast, List.length_singleton]; omega⟩, Int.toNat_natCast]
  have hf : ∀ n : Nat, (List.replicate n [d]).flatten = List.replicate n d := fun n => by
    induction n with
    | zero => rfl
    | succ n ih => rw [List.replicate_succ, List.flatten_cons, ih]; rfl
  rw [hf]
  rfl
theorem repf_ok {n : Nat} {d : D} (h : n ≤ 1000) : binD false .mul (.lst [d]) (.int (n : Int)) c = .ok (.lst (List.replicate n d)) c := by
  have e : binD false .mul (.lst [d]) (.int (n : Int)) c = if BOp.mul = BOp.mul then repD false (.lst [d]) (n : Int) c else .stuck := rfl
  rw [e, if_pos rfl]
  unfold repD lstD
  dsimp only
  rw [if_pos ⟨by omega, by omega, by rw [Int.toNat_natCast, List.length_singleton]; omega⟩, Int.toNat_natCast]
  have hf : ∀ n : Nat, (List.replicate n [d]).flatten = List.replicate n d := fun n => by
    induction n with
    | zero => rfl
    | succ n ih => rw [List.replicate_succ, List.flatten_cons, ih]; rfl
  rw [hf]
  rfl
theorem augI_ok {call : CallF} {sl : Sl} {c' : Ct} {o i e : IE} {op : BOp} {x y u v z : D} (hO : evM call false o sl c = .ok x c) (hI : evM call false i sl c = .ok y c) (hg : getA x y c = .ok u c) (he : evM call false e sl c = .ok v c) (ha : augD op u v c = .ok z c) (hp : putD x y z c = some c') : evS call (.augI o i op e) sl c = .ok (.nx sl) c' := by
  rw [evS]
  show ofR (evM call false o sl c) sl _ = _
  rw [hO, ofR_ok]
  show ofR (evM call false i sl c) sl _ = _
  rw [hI, ofR_ok, hg, ofR_ok]
  show ofR (evM call false e sl c) sl _ = _
  rw [he, ofR_ok, ha, ofR_ok, hp]
theorem at_end (u : Cell) (c : Ct) : (c ++ [u])[c.length]? = some u := by
  rw [List.getElem?_append_right (Nat.le_refl _), Nat.sub_self]
  rfl
theorem set_end (u w : Cell) (c : Ct) : (c ++ [u]).set c.length w = c ++ [w] := by
  rw [List.set_append_right _ _ (Nat.le_refl _), Nat.sub_self]
  rfl
set_option maxHeartbeats 16000000 in
theorem gain_ok (L : Lib T) (hk : 2 ≤ k) {rs : List Rl} {xs ys : List Int} (hr : ∀ r ∈ rs, RlOk outs r) (ho : NamesOk outs) (hol : outs.length ≤ 100) (hx : xs.length = rs.length) (hy : ys.length = rs.length) (hst : ∀ s ∈ outs, PyData.strOk s = true)
    (hb : ∀ (i : Nat) r x y, rs[i]? = some r → xs[i]? = some x → ys[i]? = some y → (r.times y - r.times x).natAbs < 1024) :
    evF T k P.i_l_gain [.lst (rs.map Rl.d), .lst (outs.map .str), .lst (xs.map .int), .lst (ys.map .int)] c = .ok (.tup ((gainV rs outs xs ys).map .int)) c := by
  obtain ⟨k, rfl⟩ : ∃ j, k = j + 1 := ⟨k - 1, by omega⟩
  -- one pair of a rule's
  have inner : ∀ (f : Str → Int) (r : Rl) (x y : Int), RlOk outs r → (r.times y - r.times x).natAbs < 1024 → ∀ w8 w9, ∃ w8' w9',
      forR (asT (.tp [(.nm 8), (.nm 9)])) (evSs (evF T k) (.cons (.augI (.var 4) (.bm .index (.var 1) (.cons (.var 8) .nil)) .add (.bin false .mul (.var 9) (.bin false .sub (.call false 35 [] [.arg 0, .arg 1] (.cons (.var 5) (.cons (.var 7) .nil)) .nil) (.call false 35 [] [.arg 0, .arg 1] (.cons (.var 5) (.cons (.var 6) .nil)) .nil)))) .nil)) (r.gs.map pairD) [some (.lst (rs.map Rl.d)), some (.lst (outs.map .str)), some (.lst (xs.map .int)), some (.lst (ys.map .int)), some (.ref c.length), some r.d, some (.int x), some (.int y), w8, w9] (c ++ [Cell.lst ((outs.map f).map .int)])
      = .ok (.nx [some (.lst (rs.map Rl.d)), some (.lst (outs.map .str)), some (.lst (xs.map .int)), some (.lst (ys.map .int)), some (.ref c.length), some r.d, some (.int x), some (.int y), w8', w9']) (c ++ [Cell.lst ((outs.map fun o => f o + gsum o r.gs * (r.times y - r.times x)).map .int)]) := fun f r x y hro hdb w8 w9 => by
    obtain ⟨sl', c', h1, a8, a9, h2, h3⟩ := forR_i (tg := asT (.tp [(.nm 8), (.nm 9)])) (b := evSs (evF T k) (.cons (.augI (.var 4) (.bm .index (.var 1) (.cons (.var 8) .nil)) .add (.bin false .mul (.var 9) (.bin false .sub (.call false 35 [] [.arg 0, .arg 1] (.cons (.var 5) (.cons (.var 7) .nil)) .nil) (.call false 35 [] [.arg 0, .arg 1] (.cons (.var 5) (.cons (.var 6) .nil)) .nil)))) .nil))
      (fun j sl c' => ∃ w8 w9, sl = [some (.lst (rs.map Rl.d)), some (.lst (outs.map .str)), some (.lst (xs.map .int)), some (.lst (ys.map .int)), some (.ref c.length), some r.d, some (.int x), some (.int y), w8, w9] ∧ c' = c ++ [Cell.lst ((outs.map fun o => f o + gsum o (r.gs.take j) * (r.times y - r.times x)).map .int)]) (r.gs.map pairD) (fun j d hd sl c' hI => by
        obtain ⟨w8, w9, rfl, rfl⟩ := hI
        rw [List.getElem?_map] at hd
        cases hq : r.gs[j]? with
        | none => rw [hq] at hd; cases hd
        | some q =>
          rw [hq] at hd
          cases hd
          have hqm : q ∈ r.gs := List.mem_of_getElem? hq
          obtain ⟨g1, g2, g3⟩ := hro.gs q hqm
          refine ⟨_, _, _, rfl, step_nx (sl' := [some (.lst (rs.map Rl.d)), some (.lst (outs.map .str)), some (.lst (xs.map .int)), some (.lst (ys.map .int)), some (.ref c.length), some r.d, some (.int x), some (.int y), some (.str q.1), some (.int q.2)]) (augI_ok (x := .ref c.length) (y := .int (outs.idxOf q.1 : Nat)) (u := .int (f q.1 + gsum q.1 (r.gs.take j) * (r.times y - r.times x))) (v := .int (q.2 * (r.times y - r.times x))) (z := .int (f q.1 + gsum q.1 (r.gs.take j) * (r.times y - r.times x) + q.2 * (r.times y - r.times x))) ?_ ?_ ?_ ?_ ?_ ?_) rfl, _, _, rfl, rfl⟩
          · exact var_ok rfl
          · refine bm_ok (x := .lst (outs.map .str)) (ds := [.str q.1]) (var_ok rfl) rfl (args_cons (var_ok rfl) args_nil) ?_
            exact cod_str.index (by decide) (.inl rfl) (hst _ g3) hst g3
          · unfold getA
            dsimp only
            rw [at_end]
            dsimp only
            rw [if_pos (by omega), Int.toNat_natCast, List.getElem?_map, List.getElem?_map, idx_get g3]
            rfl
          · have e1 := fun c => times_ok (c := c) L (by omega : 1 ≤ k) hro y
            have e2 := fun c => times_ok (c := c) L (by omega : 1 ≤ k) hro x
            simp only [evSs_cons, evSs_nil, seqK_nx, seqK_rt, seqK_ex, evS, evM, evA, evO, evI, evT, bnd_ok, ofR_ok, tst_f, tst_t, varK_some, Cst.d, bolK_bl, tru_bl', truK_bl, and_bl, or_bl, notK_bl, bin_add, bin_sub, cmp_lt, cmp_le, cmp_gt, cmp_ge, cmp_eqI, cmp_neI, cmp_eqB, cmp_neB, cmp_eqS, cmp_neS, cmp_isN, cmp_isnN, cmp_isB, len_lst, len_tup, isNon, intO, seqD, asT, asTs, Option.bind_some, List.getElem?_cons_zero, List.getElem?_cons_succ, List.set_cons_zero, List.set_cons_succ, fin_rt, fin_nx, fin_ex, if_true, callK, arrD, List.cons_append, List.nil_append, Option.map_some, retK_f, eq_self, decide_true, decide_false, Bool.false_eq_true, if_false, e1, e2, mulD' (i := q.2) (j := r.times y - r.times x) 10 10 (sm10 (by omega) (by omega)) (by omega) (by decide) (by decide) (by decide)]
          · rfl
          · rw [put_ref (at_end _ _) (j := outs.idxOf q.1) (by unfold ixN; rw [if_pos (by omega), if_pos (by have := List.idxOf_lt_length_of_mem g3; simp; omega), Int.toNat_natCast]), set_end, ← List.map_set, map_set_idx _ _ _ _ ho.1 g3]
            refine congrArg (fun l : List Int => some (c ++ [Cell.lst (l.map D.int)])) (List.map_congr_left fun o _ => ?_)
            rw [List.take_add_one, hq, gsum_app]
            show _ = f o + (gsum o (r.gs.take j) + gsum o [q]) * (r.times y - r.times x)
            rw [gsum, gsum]
            by_cases h : o = q.1
            · subst h
              rw [if_pos rfl, if_pos rfl, Int.add_zero, Int.add_mul]
              omega
            · rw [if_neg h, if_neg fun z => h z.symm]
              simp) (sl := [some (.lst (rs.map Rl.d)), some (.lst (outs.map .str)), some (.lst (xs.map .int)), some (.lst (ys.map .int)), some (.ref c.length), some r.d, some (.int x), some (.int y), w8, w9]) (c := c ++ [Cell.lst ((outs.map f).map .int)]) ⟨w8, w9, rfl, by simp [gsum]⟩
    subst h2 h3
    rw [List.length_map, List.take_length] at h1
    exact ⟨a8, a9, h1⟩
  obtain ⟨sl', c', h1, b5, b6, b7, b8, b9, h2, h3⟩ := forR_i (tg := asT (.tp [(.nm 5), (.nm 6), (.nm 7)])) (b := evSs (evF T k) (.cons (.for (.tp [(.nm 8), (.nm 9)]) (.seq (.idx (.var 5) (.cst (.int 4)))) (.cons (.augI (.var 4) (.bm .index (.var 1) (.cons (.var 8) .nil)) .add (.bin false .mul (.var 9) (.bin false .sub (.call false 35 [] [.arg 0, .arg 1] (.cons (.var 5) (.cons (.var 7) .nil)) .nil) (.call false 35 [] [.arg 0, .arg 1] (.cons (.var 5) (.cons (.var 6) .nil)) .nil)))) .nil)) .nil))
    (fun i sl c' => ∃ w5 w6 w7 w8 w9, sl = [some (.lst (rs.map Rl.d)), some (.lst (outs.map .str)), some (.lst (xs.map .int)), some (.lst (ys.map .int)), some (.ref c.length), w5, w6, w7, w8, w9] ∧ c' = c ++ [Cell.lst ((outs.map (gAt (rs.take i) (xs.take i) (ys.take i))).map .int)]) (rowsD (rs.map Rl.d).length [rs.map Rl.d, xs.map .int, ys.map .int]) (fun i d hd sl c' hI => by
      obtain ⟨w5, w6, w7, w8, w9, rfl, rfl⟩ := hI
      obtain ⟨hi, rfl⟩ := rowsD_get hd
      rw [List.length_map] at hi
      have hr1 : rs[i]? = some (rs[i]'hi) := List.getElem?_eq_getElem hi
      have hx1 : xs[i]? = some (xs[i]'(by omega)) := List.getElem?_eq_getElem (by omega)
      have hy1 : ys[i]? = some (ys[i]'(by omega)) := List.getElem?_eq_getElem (by omega)
      generalize rs[i]'hi = r at hr1
      generalize xs[i]'(by omega) = x at hx1
      generalize ys[i]'(by omega) = y at hy1
      have e : ([rs.map Rl.d, xs.map D.int, ys.map D.int].map fun xs => xs.getD i .non) = [r.d, .int x, .int y] := by
        simp [List.getD_eq_getElem?_getD, hr1, hx1, hy1]
      rw [e]
      have hro := hr r (List.mem_of_getElem? hr1)
      obtain ⟨a8, a9, hf⟩ := inner (gAt (rs.take i) (xs.take i) (ys.take i)) r x y hro (hb i r x y hr1 hx1 hy1) w8 w9
      refine ⟨[some (.lst (rs.map Rl.d)), some (.lst (outs.map .str)), some (.lst (xs.map .int)), some (.lst (ys.map .int)), some (.ref c.length), some r.d, some (.int x), some (.int y), w8, w9], _, _, rfl, step_nx (for_ok (its := r.gs.map pairD) (c1 := c ++ [Cell.lst ((outs.map (gAt (rs.take i) (xs.take i) (ys.take i))).map .int)]) (seq_ok (d := .tup (r.gs.map pairD)) (idx_ok (var_ok rfl) rfl rl4) rfl) hf) rfl, _, _, _, _, _, rfl, ?_⟩
      refine congrArg (fun l : List Int => c ++ [Cell.lst (l.map D.int)]) (List.map_congr_left fun o _ => ?_)
      exact (gAt_snoc o i rs xs ys r x y hr1 hx1 hy1).symm) (sl := [some (.lst (rs.map Rl.d)), some (.lst (outs.map .str)), some (.lst (xs.map .int)), some (.lst (ys.map .int)), some (.ref c.length), none, none, none, none, none]) (c := c ++ [Cell.lst (List.replicate outs.length (.int 0))]) ⟨none, none, none, none, none, rfl, by
        simp only [List.take_zero, gAt, List.map_map]
        refine congrArg (fun l : List D => c ++ [Cell.lst l]) ?_
        rw [show (D.int ∘ fun _ : Str => (0 : Int)) = fun _ => D.int 0 from rfl, List.map_const']⟩
  subst h2 h3
  have hm : (rowsD (rs.map Rl.d).length [rs.map Rl.d, xs.map D.int, ys.map D.int]).length = rs.length := by rw [rowsD_len, List.length_map]
  rw [hm, List.take_of_length_le (l := rs) (Nat.le_refl _), List.take_of_length_le (l := xs) (by omega), List.take_of_length_le (l := ys) (by omega)] at h1
  refine run_rt (d := .tup ((gainV rs outs xs ys).map .int)) (sl := [some (.lst (rs.map Rl.d)), some (.lst (outs.map .str)), some (.lst (xs.map .int)), some (.lst (ys.map .int)), some (.ref c.length), b5, b6, b7, b8, b9]) (c' := c ++ [Cell.lst ((gainV rs outs xs ys).map .int)]) L.gain rfl ?_ (gcK_drop (by rw [rLt]; exact rLts_ints _ _))
  show evSs (evF T k) P.b_l_gain [some (.lst (rs.map Rl.d)), some (.lst (outs.map .str)), some (.lst (xs.map .int)), some (.lst (ys.map .int)), none, none, none, none, none, none] c = _
  unfold P.b_l_gain
  refine step_nx (sl' := [some (.lst (rs.map Rl.d)), some (.lst (outs.map .str)), some (.lst (xs.map .int)), some (.lst (ys.map .int)), some (.ref c.length), none, none, none, none, none]) (c' := c ++ [Cell.lst (List.replicate outs.length (.int 0))]) (asg_ok (d := .ref c.length) (bin_ok (x := .lst [.int 0]) (y := .int (outs.length : Nat)) (c1 := c) (c2 := c) (lstf_ok (args_cons rfl args_nil) (by simp)) (blt_ok (args_cons (var_ok rfl) args_nil) (by rw [len_lst, List.length_map])) (rep_ok (by omega))) rfl) ?_
  refine step_nx (for_ok (its := rowsD (rs.map Rl.d).length [rs.map Rl.d, xs.map .int, ys.map .int]) (c1 := c ++ [Cell.lst (List.replicate outs.length (.int 0))]) (zip_ok (ds := [.lst (rs.map Rl.d), .lst (xs.map .int), .lst (ys.map .int)]) (args_cons (var_ok rfl) (args_cons (var_ok rfl) (args_cons (var_ok rfl) args_nil))) (zip3 (by simp [hx]) (by simp [hy]))) h1) ?_
  refine step_rt (ret_ok (blt_ok (args_cons (var_ok rfl) args_nil) ?_))
  show (match itsD (.ref c.length) (c ++ [Cell.lst ((gainV rs outs xs ys).map .int)]) with | some zs => (Res.ok (D.tup zs) (c ++ [Cell.lst ((gainV rs outs xs ys).map .int)]) : Res D) | none => .stuck) = _
  rw [its_ref (at_end _ _)]
end
end Hv

set_option Elab.async false
set_option linter.all false
set_option maxRecDepth 100000
set_option maxHeartbeats 4000000
/-! HvY2: rules don't heed the order of letters. -/
namespace Hv
open PySem PySem.Spec PyProof.Rows L2

section
variable {outs : List Str} {r : Rl} {rs : List Rl}
theorem ediv_add_emod_div {e y w : Int} (he : 0 < e) : (y + w) / e = y / e + (y % e + w) / e := by
  have h1 := Int.mul_ediv_add_emod y e
  have : y + w = (y % e + w) + e * (y / e) := by omega
  rw [this, Int.add_mul_ediv_left _ _ (by omega)]
  omega
theorem emod_add_emod' {e y w : Int} : (y % e + w) % e = (y + w) % e := Int.emod_add_emod y e w
theorem mx0_nn {i : Int} (h : 0 ≤ i) : mx0 i = i := by unfold mx0; split <;> omega
theorem mx0_neg {i : Int} (h : i ≤ 0) : mx0 i = 0 := by unfold mx0; split <;> omega
theorem down_none (hm : r.m = none) (z : Int) : r.down z = if z < r.a then z else r.a + (z - r.a) % r.e := by unfold Rl.down; rw [hm]
theorem down_some {m : Int} (hm : r.m = some m) (z : Int) : r.down z = if r.a + r.e * m < z then r.a + r.e * m else z := by unfold Rl.down; rw [hm]
theorem times_none (hm : r.m = none) (z : Int) : r.times z = mx0 (z - r.a) / r.e := by unfold Rl.times; rw [hm]
theorem times_some {m : Int} (hm : r.m = some m) (z : Int) : r.times z = if m < mx0 (z - r.a) / r.e then m else mx0 (z - r.a) / r.e := by unfold Rl.times; rw [hm]
theorem rl_down (hr : RlOk outs r) {x w : Int} (hx : 0 ≤ x) (hw : 0 ≤ w) : r.down (r.down x + w) = r.down (x + w) := by
  have := hr.e1; have := hr.a1
  cases hm : r.m with
  | none =>
    rw [down_none hm x]
    by_cases h : x < r.a
    · rw [if_pos h]
    · rw [if_neg h]
      have h1 := Int.emod_nonneg (x - r.a) (show r.e ≠ 0 by omega)
      rw [down_none hm, down_none hm, if_neg (by omega), if_neg (by omega), show r.a + (x - r.a) % r.e + w - r.a = (x - r.a) % r.e + w by omega, emod_add_emod', show x - r.a + w = x + w - r.a by omega]
  | some m =>
    rw [down_some hm x]
    by_cases h : r.a + r.e * m < x
    · rw [if_pos h, down_some hm, down_some hm, if_pos (by omega : r.a + r.e * m < x + w)]
      split <;> omega
    · rw [if_neg h]
theorem rl_times (hr : RlOk outs r) {x w : Int} (hx : 0 ≤ x) (hw : 0 ≤ w) : r.times (r.down x + w) - r.times (r.down x) = r.times (x + w) - r.times x := by
  have := hr.e1; have := hr.a1
  cases hm : r.m with
  | none =>
    rw [down_none hm x]
    by_cases h : x < r.a
    · rw [if_pos h]
    · rw [if_neg h]
      have h1 := Int.emod_nonneg (x - r.a) (show r.e ≠ 0 by omega)
      have h2 := Int.emod_lt_of_pos (x - r.a) (show 0 < r.e by omega)
      rw [times_none hm, times_none hm, times_none hm, times_none hm, show r.a + (x - r.a) % r.e + w - r.a = (x - r.a) % r.e + w by omega, show r.a + (x - r.a) % r.e - r.a = (x - r.a) % r.e by omega, mx0_nn (by omega), mx0_nn h1, mx0_nn (by omega), mx0_nn (by omega)]
      rw [Int.ediv_eq_zero_of_lt h1 h2, show x + w - r.a = (x - r.a) + w by omega, ediv_add_emod_div (y := x - r.a) (w := w) (by omega)]
      omega
  | some m =>
    have hm1 := hr.m1 m hm
    rw [down_some hm x]
    by_cases h : r.a + r.e * m < x
    · rw [if_pos h]
      have hem : 0 ≤ r.e * m := Int.mul_nonneg (by omega) hm1.1
      have q : ∀ z : Int, r.a + r.e * m ≤ z → r.times z = m := fun z hz => by
        rw [times_some hm, mx0_nn (by omega)]
        have : m ≤ (z - r.a) / r.e := (Int.le_ediv_iff_mul_le (by omega)).mpr (by rw [Int.mul_comm]; omega)
        split <;> omega
      rw [q _ (by omega), q _ (by omega), q _ (by omega), q _ (by omega)]
    · rw [if_neg h]
theorem times_diff (hr : RlOk outs r) {x w : Int} (hw : 0 ≤ w) : 0 ≤ r.times (x + w) - r.times x ∧ r.times (x + w) - r.times x ≤ w := by
  have := hr.e1
  have h1 : mx0 (x - r.a) ≤ mx0 (x + w - r.a) ∧ mx0 (x + w - r.a) ≤ mx0 (x - r.a) + w := by
    unfold mx0
    split <;> split <;> omega
  have h2 : mx0 (x - r.a) / r.e ≤ mx0 (x + w - r.a) / r.e := Int.ediv_le_ediv (by omega) h1.1
  have h3 : mx0 (x + w - r.a) / r.e ≤ mx0 (x - r.a) / r.e + w := by
    refine Int.le_trans (Int.ediv_le_ediv (by omega) h1.2) ?_
    have h4 : mx0 (x - r.a) + w ≤ mx0 (x - r.a) + r.e * w := by
      have : 1 * w ≤ r.e * w := Int.mul_le_mul_of_nonneg_right (by omega) hw
      omega
    refine Int.le_trans (Int.ediv_le_ediv (by omega) h4) ?_
    rw [Int.add_mul_ediv_left _ _ (by omega)]
    omega
  unfold Rl.times
  cases hm : r.m with
  | none =>
    dsimp only
    omega
  | some m =>
    dsimp only
    split <;> split <;> omega
theorem down_rng (hr : RlOk outs r) {x : Int} (hx : 0 ≤ x) : 0 ≤ r.down x ∧ r.down x ≤ 100 := by
  have := hr.e1; have := hr.e2; have := hr.a1; have := hr.a2
  unfold Rl.down
  cases hm : r.m with
  | none =>
    dsimp only
    have h1 := Int.emod_nonneg (x - r.a) (show r.e ≠ 0 by omega)
    have h2 := Int.emod_lt_of_pos (x - r.a) (show 0 < r.e by omega)
    split <;> omega
  | some m =>
    have hm1 := hr.m1 m hm
    have h3 : 0 ≤ r.e * m := Int.mul_nonneg (by omega) hm1.1
    have h4 : r.e * m ≤ 8 * 8 := Int.mul_le_mul (by omega) (by omega) (by omega) (by omega)
    dsimp only
    split <;> omega
/-! ### stands -/
def risen (n : Str) : List Rl → List Int → List Int
  | r :: rs, x :: xs => (x + r.weight n) :: risen n rs xs
  | _, _ => []
def downs : List Rl → List Int → List Int
  | r :: rs, x :: xs => r.down x :: downs rs xs
  | _, _ => []
def nxS (rs : List Rl) (xs : List Int) (n : Str) : List Int := downs rs (risen n rs xs)
theorem risen_len (n : Str) : ∀ (rs : List Rl) (xs : List Int), xs.length = rs.length → (risen n rs xs).length = rs.length
  | [], [], _ => rfl
  | r :: rs, x :: xs, h => by
    rw [risen, List.length_cons, List.length_cons, risen_len n rs xs (by simpa using h)]
theorem downs_len : ∀ (rs : List Rl) (xs : List Int), xs.length = rs.length → (downs rs xs).length = rs.length
  | [], [], _ => rfl
  | r :: rs, x :: xs, h => by
    rw [downs, List.length_cons, List.length_cons, downs_len rs xs (by simpa using h)]
theorem nxS_len {rs : List Rl} {xs : List Int} (n : Str) (h : xs.length = rs.length) : (nxS rs xs n).length = rs.length := downs_len _ _ (risen_len n _ _ h)
theorem risen_nn (n : Str) : ∀ (rs : List Rl) (xs : List Int), (∀ r ∈ rs, RlOk outs r) → (∀ x ∈ xs, 0 ≤ x) → ∀ x ∈ risen n rs xs, 0 ≤ x
  | [], _, _, _, x, hx => by simp [risen] at hx
  | _ :: _, [], _, _, x, hx => by simp [risen] at hx
  | r :: rs, y :: xs, hr, hn, x, hx => by
    rw [risen] at hx
    rcases List.mem_cons.mp hx with e | hx
    · rw [e]
      have := weight_le (hr r List.mem_cons_self) n
      have := hn y List.mem_cons_self
      omega
    · exact risen_nn n rs xs (fun r h => hr r (List.mem_cons_of_mem _ h)) (fun x h => hn x (List.mem_cons_of_mem _ h)) x hx
theorem downs_rng : ∀ (rs : List Rl) (xs : List Int), (∀ r ∈ rs, RlOk outs r) → (∀ x ∈ xs, 0 ≤ x) → ∀ x ∈ downs rs xs, 0 ≤ x ∧ x ≤ 100
  | [], _, _, _, x, hx => by simp [downs] at hx
  | _ :: _, [], _, _, x, hx => by simp [downs] at hx
  | r :: rs, y :: xs, hr, hn, x, hx => by
    rw [downs] at hx
    rcases List.mem_cons.mp hx with e | hx
    · rw [e]
      exact down_rng (hr r List.mem_cons_self) (hn y List.mem_cons_self)
    · exact downs_rng rs xs (fun r h => hr r (List.mem_cons_of_mem _ h)) (fun x h => hn x (List.mem_cons_of_mem _ h)) x hx
theorem next_comm (a b : Str) : ∀ (rs : List Rl) (xs : List Int), (∀ r ∈ rs, RlOk outs r) → (∀ x ∈ xs, 0 ≤ x) → nxS rs (nxS rs xs a) b = nxS rs (nxS rs xs b) a
  | [], _, _, _ => rfl
  | _ :: _, [], _, _ => rfl
  | r :: rs, x :: xs, hr, hn => by
    have ih := next_comm a b rs xs (fun r h => hr r (List.mem_cons_of_mem _ h)) (fun x h => hn x (List.mem_cons_of_mem _ h))
    unfold nxS at ih ⊢
    have h0 := hr r List.mem_cons_self
    have hx := hn x List.mem_cons_self
    have ha := weight_le h0 a
    have hb := weight_le h0 b
    simp only [risen, downs]
    rw [ih, rl_down h0 (by omega) hb.1, rl_down h0 (by omega) ha.1, show x + r.weight a + r.weight b = x + r.weight b + r.weight a by omega]
theorem gain_comm (a b o : Str) : ∀ (rs : List Rl) (xs : List Int), (∀ r ∈ rs, RlOk outs r) → (∀ x ∈ xs, 0 ≤ x) →
    gAt rs xs (risen a rs xs) o + gAt rs (nxS rs xs a) (risen b rs (nxS rs xs a)) o = gAt rs xs (risen b rs xs) o + gAt rs (nxS rs xs b) (risen a rs (nxS rs xs b)) o
  | [], _, _, _ => by simp [gAt]
  | _ :: _, [], _, _ => by simp [gAt, nxS, risen, downs]
  | r :: rs, x :: xs, hr, hn => by
    have ih := gain_comm a b o rs xs (fun r h => hr r (List.mem_cons_of_mem _ h)) (fun x h => hn x (List.mem_cons_of_mem _ h))
    unfold nxS at ih ⊢
    have h0 := hr r List.mem_cons_self
    have hx := hn x List.mem_cons_self
    have ha := weight_le h0 a
    have hb := weight_le h0 b
    simp only [risen, downs, gAt]
    rw [rl_times h0 (by omega) hb.1, rl_times h0 (by omega) ha.1, show x + r.weight b + r.weight a = x + r.weight a + r.weight b by omega]
    have e : gsum o r.gs * (r.times (x + r.weight a) - r.times x) + gsum o r.gs * (r.times (x + r.weight a + r.weight b) - r.times (x + r.weight a)) = gsum o r.gs * (r.times (x + r.weight b) - r.times x) + gsum o r.gs * (r.times (x + r.weight a + r.weight b) - r.times (x + r.weight b)) := by
      rw [← Int.mul_add, ← Int.mul_add]
      congr 1
      omega
    omega
theorem gsum_rng (o : Str) : ∀ (l : List (Str × Int)), (∀ q ∈ l, 0 ≤ q.2 ∧ q.2 ≤ 3) → 0 ≤ gsum o l ∧ gsum o l ≤ 3 * (l.length : Int)
  | [], _ => by simp [gsum]
  | q :: l, h => by
    have h1 := h q List.mem_cons_self
    have h2 := gsum_rng o l fun q hq => h q (List.mem_cons_of_mem _ hq)
    rw [gsum, List.length_cons]
    constructor
    · split <;> omega
    · split <;> omega
theorem gAt_rng (a o : Str) : ∀ (rs : List Rl) (xs : List Int), (∀ r ∈ rs, RlOk outs r) → (∀ x ∈ xs, 0 ≤ x) → 0 ≤ gAt rs xs (risen a rs xs) o ∧ gAt rs xs (risen a rs xs) o ≤ 100 * (rs.length : Int)
  | [], _, _, _ => by simp [gAt]
  | _ :: _, [], _, _ => by
    simp only [gAt, risen]
    omega
  | r :: rs, x :: xs, hr, hn => by
    have ih := gAt_rng a o rs xs (fun r h => hr r (List.mem_cons_of_mem _ h)) (fun x h => hn x (List.mem_cons_of_mem _ h))
    have h0 := hr r List.mem_cons_self
    have ha := weight_le h0 a
    have ht := times_diff h0 (x := x) ha.1
    have hg := gsum_rng o r.gs fun q hq => ⟨(h0.gs q hq).1, (h0.gs q hq).2.1⟩
    have hl := h0.gl
    simp only [risen, gAt, List.length_cons]
    have h1 : 0 ≤ gsum o r.gs * (r.times (x + r.weight a) - r.times x) := Int.mul_nonneg hg.1 ht.1
    have h2 : gsum o r.gs * (r.times (x + r.weight a) - r.times x) ≤ 9 * 9 := Int.mul_le_mul (by omega) (by omega) ht.1 (by omega)
    constructor
    · omega
    · omega
end
end Hv

set_option Elab.async false
set_option linter.all false
set_option maxRecDepth 100000
set_option maxHeartbeats 4000000
/-! HvY3: the stands that rules lead to. -/
namespace Hv
open PySem PySem.Spec PyProof.Rows L2

theorem whR_inv {q : Sl → Ct → Res Bool} {b : Sl → Ct → RS} (I : Nat → Sl → Ct → Prop) (Dn : Sl → Ct → Prop)
    (h : ∀ n sl c, I n sl c → (q sl c = .ok false c ∧ Dn sl c) ∨ (q sl c = .ok true c ∧ ∃ m sl' c', m < n ∧ b sl c = .ok (.nx sl') c' ∧ I m sl' c')) : ∀ n sl c, I n sl c → ∃ sl' c', whR q b sl c = .ok (.nx sl') c' ∧ Dn sl' c' := by
  intro n
  induction n using Nat.strongRecOn with
  | ind n ih =>
    intro sl c hI
    rcases h n sl c hI with ⟨h1, h2⟩ | ⟨h1, m, sl', c', hm, h2, h3⟩
    · refine ⟨sl, c, ?_, h2⟩
      rw [whR_eq, h1]
    · obtain ⟨s2, c2, e, d⟩ := ih m hm sl' c' h3
      refine ⟨s2, c2, ?_, d⟩
      rw [whR_eq, h1]
      simp only
      rw [h2]
      exact e
theorem rowsD2 {a b : List D} (h : b.length = a.length) : rowsD a.length [a, b] = (a.zip b).map fun p => D.tup [p.1, p.2] := by
  refine List.ext_getElem? fun i => ?_
  by_cases hi : i < a.length
  · have h1 : (rowsD a.length [a, b])[i]? = some (.tup [a[i], b[i]]) := by
      unfold rowsD
      rw [List.getElem?_map, List.getElem?_range hi]
      simp [List.getD_eq_getElem?_getD, List.getElem?_eq_getElem hi, List.getElem?_eq_getElem (show i < b.length by omega)]
    rw [h1, List.getElem?_map, (List.getElem?_zip_eq_some (z := (a[i], b[i]))).mpr ⟨List.getElem?_eq_getElem hi, List.getElem?_eq_getElem (show i < b.length by omega)⟩]
    rfl
  · rw [List.getElem?_eq_none (by rw [rowsD_len]; omega), List.getElem?_eq_none (by simp; omega)]
theorem risen_zip (n : Str) : ∀ (rs : List Rl) (xs : List Int), risen n rs xs = (rs.zip xs).map fun p => p.2 + p.1.weight n
  | [], _ => by simp [risen]
  | _ :: _, [] => by simp [risen]
  | r :: rs, x :: xs => by rw [risen, risen_zip n rs xs]; rfl
theorem downs_zip : ∀ (rs : List Rl) (xs : List Int), downs rs xs = (rs.zip xs).map fun p => p.1.down p.2
  | [], _ => by simp [downs]
  | _ :: _, [] => by simp [downs]
  | r :: rs, x :: xs => by rw [downs, downs_zip rs xs]; rfl
def dS (s : List Int) : D := .lst (s.map .int)
def dE (p : Nat × List Int) : D := .tup [.int (p.1 : Int), .tup (p.2.map .int)]
def dR (r : List (Nat × List Int)) : D := .lst (r.map dE)
def dRows (rows : List (List (Nat × List Int))) : D := .lst (rows.map dR)
theorem cod_S : Cod dS (fun l => PyData.list (l.map PyData.int)) 1 (fun _ => True) := cod_int.lst.weak (fun _ _ _ _ => trivial) (Nat.le_refl _)
theorem pl_E (p : Nat × List Int) : rLt 0 (dE p) = true := by
  have h := rLts_ints p.2 0
  unfold dE
  simp only [rLt, rLts, h, Bool.and_self]
theorem pl_Es (r : List (Nat × List Int)) : rLts 0 (r.map dE) = true := rLts_all fun d hd => by
  obtain ⟨p, _, rfl⟩ := List.mem_map.mp hd
  exact pl_E p
theorem pl_rows (rows : List (List (Nat × List Int))) : rLt 0 (dRows rows) = true := by
  unfold dRows
  rw [rLt]
  refine rLts_all fun d hd => ?_
  obtain ⟨p, _, rfl⟩ := List.mem_map.mp hd
  unfold dR
  rw [rLt]
  exact pl_Es p
section
variable {c : Ct} {u v u' v' z z' : Cell} {w : Ct}
theorem c_at0 : (c ++ (u :: w))[c.length]? = some u := by
  rw [List.getElem?_append_right (Nat.le_refl _), Nat.sub_self]
  rfl
theorem c_set0 : (c ++ (u :: w)).set c.length u' = c ++ (u' :: w) := by
  rw [List.set_append_right _ _ (Nat.le_refl _), Nat.sub_self]
  rfl
theorem c_at (n : Nat) : (c ++ w)[c.length + n]? = w[n]? := by
  rw [List.getElem?_append_right (by omega)]
  congr 1
  omega
theorem c_set (n : Nat) : (c ++ w).set (c.length + n) u' = c ++ w.set n u' := by
  rw [List.set_append_right _ _ (by omega)]
  congr 2
  omega
theorem w_at (n : Nat) (h : w.length = n) : (u :: v :: (w ++ [z]))[2 + n]? = some z := by
  subst h
  rw [Nat.add_comm, List.getElem?_cons_succ, List.getElem?_cons_succ, List.getElem?_append_right (Nat.le_refl _), Nat.sub_self]
  rfl
theorem w_set (n : Nat) (h : w.length = n) : (u :: v :: (w ++ [z])).set (2 + n) z' = u :: v :: (w ++ [z']) := by
  subst h
  rw [Nat.add_comm, List.set_cons_succ, List.set_cons_succ, List.set_append_right _ _ (Nat.le_refl _), Nat.sub_self]
  rfl
/-- freezing a list of rows -/
theorem frz_rows (k : Nat) : ∀ (rows : List (List (Nat × List Int))) (off : Nat) (w : Ct), (∀ (t : Nat) r, rows[t]? = some r → w[off + t]? = some (.lst (r.map dE))) → ∃ w', frzL (frzD (k + 1)) ((List.range' off rows.length).map fun t => D.ref (c.length + t)) (c ++ w) = some (rows.map dR, c ++ w')
  | [], off, w, _ => ⟨w, rfl⟩
  | r :: rows, off, w, h => by
    have h0 := h 0 r rfl
    rw [Nat.add_zero] at h0
    obtain ⟨w', ih⟩ := frz_rows k rows (off + 1) (w.set off .dead) (fun t r' ht => by
      rw [List.getElem?_set_ne (by omega), show off + 1 + t = off + (t + 1) by omega]
      exact h (t + 1) r' ht)
    refine ⟨w', ?_⟩
    have hf := frz_ref (m := k) (n := c.length + off) (c := c ++ w) (xs := r.map dE) (by rw [c_at]; exact h0) (pl_Es r)
    have hf2 : frzD (k + 1) (.ref (c.length + off)) (c ++ w) = some (.lst (r.map dE), c ++ w.set off .dead) := by
      unfold frzK at hf
      cases hq : frzD (k + 1) (.ref (c.length + off)) (c ++ w) with
      | none => rw [hq] at hf; cases hf
      | some q =>
        obtain ⟨y, c'⟩ := q
        rw [hq] at hf
        rw [c_set] at hf
        cases hf
        rfl
    rw [List.length_cons, List.range'_succ, List.map_cons, frzL, hf2]
    show (frzL (frzD (k + 1)) _ (c ++ w.set off .dead)).map _ = _
    rw [ih]
    rfl
end
/-! ### the search -/
structure SOk (rs : List Rl) (ins : List Str) (S : List (List Int)) : Prop where
  nd : S.Nodup
  s0 : S[0]? = some (List.replicate rs.length 0)
  len : ∀ s ∈ S, s.length = rs.length
  nn : ∀ s ∈ S, ∀ x ∈ s, 0 ≤ x ∧ x ≤ 100
  rch : ∀ (j : Nat) s, S[j]? = some s → j ≠ 0 → ∃ t, t < j ∧ ∃ here, S[t]? = some here ∧ ∃ nm ∈ ins, s = nxS rs here nm
def posS (S : List (List Int)) (x : List Int) : Nat := @List.idxOf (List Int) instBEqOfDecidableEq x S
def entry (rs : List Rl) (outs : List Str) (S : List (List Int)) (here : List Int) (nm : Str) : Nat × List Int := (posS S (nxS rs here nm), gainV rs outs here (risen nm rs here))
def RowAt (rs : List Rl) (ins outs : List Str) (S : List (List Int)) (rows : List (List (Nat × List Int))) (t : Nat) : Prop :=
  ∀ here, S[t]? = some here → rows[t]? = some (ins.map (entry rs outs S here)) ∧ ∀ nm ∈ ins, nxS rs here nm ∈ S
theorem SOk.grow {rs : List Rl} {ins outs : List Str} {S : List (List Int)} (h : SOk rs ins S) (hr : ∀ r ∈ rs, RlOk outs r) {i : Nat} {here : List Int} (hh : S[i]? = some here) {nm : Str} (hn : nm ∈ ins) (hx : nxS rs here nm ∉ S) : SOk rs ins (S ++ [nxS rs here nm]) where
  nd := by
    rw [List.nodup_append]
    refine ⟨h.nd, by simp, fun a ha b hb => ?_⟩
    rw [List.mem_singleton] at hb
    subst hb
    exact fun e => hx (e ▸ ha)
  s0 := by
    have := (List.getElem?_eq_some_iff.mp h.s0).1
    rw [List.getElem?_append_left this]
    exact h.s0
  len s hs := by
    rcases List.mem_append.mp hs with hs | hs
    · exact h.len s hs
    · rw [List.mem_singleton.mp hs]
      exact nxS_len nm (h.len here (List.mem_of_getElem? hh))
  nn s hs := by
    rcases List.mem_append.mp hs with hs | hs
    · exact h.nn s hs
    · rw [List.mem_singleton.mp hs]
      exact downs_rng rs _ hr (risen_nn nm rs here hr fun x hx => (h.nn here (List.mem_of_getElem? hh) x hx).1)
  rch j s hj h0 := by
    have hi := (List.getElem?_eq_some_iff.mp hh).1
    by_cases hlt : j < S.length
    · rw [List.getElem?_append_left hlt] at hj
      obtain ⟨t, ht, here', h1, h2⟩ := h.rch j s hj h0
      exact ⟨t, ht, here', by rw [List.getElem?_append_left (by omega)]; exact h1, h2⟩
    · rw [List.getElem?_append_right (by omega)] at hj
      have hj0 : j - S.length = 0 := by
        have := (List.getElem?_eq_some_iff.mp hj).1
        simp at this
        omega
      rw [hj0] at hj
      cases hj
      exact ⟨i, by omega, here, by rw [List.getElem?_append_left hi]; exact hh, nm, hn, rfl⟩
theorem idx_app {α : Type} [DecidableEq α] {a : α} {l m : List α} (h : a ∈ l) : (l ++ m).idxOf a = l.idxOf a := by
  rw [List.idxOf_append, if_pos h]
theorem RowAt.grow {rs : List Rl} {ins outs : List Str} {S m : List (List Int)} {rows : List (List (Nat × List Int))} {t : Nat} (h : RowAt rs ins outs S rows t) (ht : t < S.length) : RowAt rs ins outs (S ++ m) rows t := fun here hh => by
  rw [List.getElem?_append_left ht] at hh
  obtain ⟨h1, h2⟩ := h here hh
  refine ⟨?_, fun nm hn => List.mem_append_left _ (h2 nm hn)⟩
  rw [h1]
  refine congrArg some (List.map_congr_left fun nm hn => ?_)
  unfold entry posS
  rw [idx_app (h2 nm hn)]
end Hv

set_option Elab.async false
set_option linter.all false
set_option maxRecDepth 100000
set_option maxHeartbeats 4000000
/-! HvY4: the search runs. -/
namespace Hv
open PySem PySem.Spec PyProof.Rows L2

def rawF : ISs := (.cons (.asg (.nm 9) (.comp false [10, 11] (.tp [(.nm 10), (.nm 11)]) (.zip false (.cons (.var 0) (.cons (.var 6) .nil))) (.cst (.bl true)) (.bin false .add (.var 11) (.call false 27 [] [.arg 0, .arg 1] (.cons (.var 10) (.cons (.var 8) .nil)) .nil)))) (.cons (.asg (.nm 12) (.comp false [10, 11] (.tp [(.nm 10), (.nm 11)]) (.zip false (.cons (.var 0) (.cons (.var 9) .nil))) (.cst (.bl true)) (.call false 28 [] [.arg 0, .arg 1] (.cons (.var 10) (.cons (.var 11) .nil)) .nil))) (.cons (.ifs (.cmp .nin (.var 12) (.var 4)) (.cons (.expr (.bm .append (.var 4) (.cons (.var 12) .nil))) .nil) .nil) (.cons (.expr (.bm .append (.var 7) (.cons (.tup (.cons (.bm .index (.var 4) (.cons (.var 12) .nil)) (.cons (.call false 29 [] [.arg 0, .arg 1, .arg 2, .arg 3] (.cons (.var 0) (.cons (.var 2) (.cons (.var 6) (.cons (.var 9) .nil)))) .nil) .nil))) .nil))) .nil))))
def rawW : ISs := .cons (.par 6 7 (.idx (.var 4) (.blt .len (.cons (.var 5) .nil))) (.lst true .nil)) (.cons (.for (.nm 8) (.seq (.var 1)) rawF) (.cons (.expr (.bm .append (.var 5) (.cons (.var 7) .nil))) .nil))
def rawQ : IE := (.and (.cmp .lt (.blt .len (.cons (.var 5) .nil)) (.blt .len (.cons (.var 4) .nil))) (.cmp .le (.blt .len (.cons (.var 4) .nil)) (.var 3)))
def rawA : IS := (.par 4 5 (.lst true (.cons (.bin false .mul (.lst false (.cons (.cst (.int 0)) .nil)) (.blt .len (.cons (.var 0) .nil))) .nil)) (.lst true .nil))
def rawZ : IS := (.ret (.frz 9 (.ifx (.cmp .le (.blt .len (.cons (.var 4) .nil)) (.var 3)) (.var 5) (.cst .non))))
theorem raw_is : P.b_l_raw = .cons rawA (.cons (.whl rawQ rawW) (.cons rawZ .nil)) := rfl
theorem good_strOk {s : Str} (h : goodB s = true) : PyData.strOk s = true := by
  unfold goodB at h
  simp only [Bool.and_eq_true] at h
  have h2 : ∀ k ∈ signs.cps.toList, k < 0x110000 := by decide +kernel
  unfold PyData.strOk
  rw [← Array.all_toList]
  exact List.all_eq_true.mpr fun k hk => decide_eq_true (h2 k (of_decide_eq_true (List.all_eq_true.mp h.2 k hk)))
theorem cmpT_ok {call : CallF} {o : COp} {a b : IE} {sl : Sl} {c c1 c2 c3 : Ct} {x y : D} {v : Bool} (h : evM call false a sl c = .ok x c1) (h2 : evM call false b sl c1 = .ok y c2) (h3 : cmpD o x y c2 = .ok (.bl v) c3) : evT call (.cmp o a b) sl c = .ok v c3 := by
  show bnd (evM call true (.cmp o a b) sl c) bolK = _
  rw [evM, h, bnd_ok, h2, bnd_ok, h3]
  rfl
theorem par_ok {call : CallF} {i j : Nat} {a b : IE} {sl : Sl} {c c1 c2 : Ct} {x y : D} (h : evM call false a sl c = .ok x c1) (h2 : evM call false b sl c1 = .ok y c2) : evS call (.par i j a b) sl c = .ok (.nx ((sl.set i (some x)).set j (some y))) c2 := by
  rw [evS]
  show ofR (evM call false a sl c) sl _ = _
  rw [h, ofR_ok]
  show ofR (evM call false b sl c1) sl _ = _
  rw [h2, ofR_ok]
theorem app_ok' {n : Nat} {d : D} {c : Ct} {xs : List D} (h : c[n]? = some (.lst xs)) (hl : xs.length < 100000) : mthD .append (.ref n) [d] c = .ok .non (c.set n (.lst (xs ++ [d]))) := by
  unfold mthD
  dsimp only
  rw [h]
  dsimp only
  rw [if_pos hl]
theorem lst_ref {n : Nat} {c : Ct} {xs : List D} (h : c[n]? = some (.lst xs)) : (lstD (.ref n) c).isSome = true := by
  unfold lstD
  dsimp only
  rw [h]
  rfl
theorem len_ref {n : Nat} {c : Ct} {xs : List D} (h : c[n]? = some (.lst xs)) : bltD .len [.ref n] c = .ok (.int (xs.length : Int)) c := len_its (its_ref h)
theorem zip_rs {rs : List Rl} {xs : List Int} {c : Ct} (h : xs.length = rs.length) : zipK [.lst (rs.map Rl.d), .lst (xs.map .int)] c = .ok ((rs.zip xs).map fun p => D.tup [p.1.d, .int p.2]) c := by
  rw [zip2 (by simp [h]), rowsD2 (by simp [h]), List.zip_map, List.map_map]
  rfl
theorem risen_get {nm : Str} {rs : List Rl} {xs : List Int} {i : Nat} {r : Rl} {x y : Int} (h1 : rs[i]? = some r) (h2 : xs[i]? = some x) (h3 : (risen nm rs xs)[i]? = some y) : y = x + r.weight nm := by
  rw [risen_zip, List.getElem?_map, (List.getElem?_zip_eq_some (z := (r, x))).mpr ⟨h1, h2⟩] at h3
  cases h3
  rfl
abbrev sl13 (rs : List Rl) (ins outs : List Str) (most n0 : Nat) (w6 w7 w8 w9 w10 w11 w12 : Option D) : Sl := [some (.lst (rs.map Rl.d)), some (.lst (ins.map .str)), some (.lst (outs.map .str)), some (.int (most : Int)), some (.ref n0), some (.ref (n0 + 1)), w6, w7, w8, w9, w10, w11, w12]
def refsF (n0 i : Nat) : List D := (List.range' 2 i).map fun t => D.ref (n0 + t)
theorem refs_succ (n0 i : Nat) : refsF n0 (i + 1) = refsF n0 i ++ [.ref (n0 + (2 + i))] := by
  unfold refsF
  rw [List.range'_concat, List.map_append]
  simp
theorem refs_len (n0 i : Nat) : (refsF n0 i).length = i := by simp [refsF]
def rcF (rows : List (List (Nat × List Int))) : Ct := rows.map fun r => Cell.lst (r.map dE)
section
variable {T : Tab} {k : Nat} {c : Ct} {rs : List Rl} {ins outs : List Str} {most : Nat}
theorem risen_ev (L : Lib T) (hk : 1 ≤ k) (hr : ∀ r ∈ rs, RlOk outs r) (hrl : rs.length ≤ 100) {here : List Int} (hh : here.length = rs.length) {n0 : Nat} {nm : Str} {w7 w9 w10 w11 w12 : Option D} {cc : Ct} :
    evM (evF T k) false (.comp false [10, 11] (.tp [(.nm 10), (.nm 11)]) (.zip false (.cons (.var 0) (.cons (.var 6) .nil))) (.cst (.bl true)) (.bin false .add (.var 11) (.call false 27 [] [.arg 0, .arg 1] (.cons (.var 10) (.cons (.var 8) .nil)) .nil))) (sl13 rs ins outs most n0 (some (dS here)) w7 (some (.str nm)) w9 w10 w11 w12) cc = .ok (dS (risen nm rs here)) cc := by
  have e : dS (risen nm rs here) = .lst ((rs.zip here).map fun p => D.int (p.2 + p.1.weight nm)) := by
    unfold dS
    rw [risen_zip, List.map_map]
    rfl
  rw [e]
  refine compf_ok (zip_ok (ds := [.lst (rs.map Rl.d), .lst (here.map .int)]) (args_cons (var_ok rfl) (args_cons (var_ok rfl) args_nil)) (zip_rs hh)) (compR_lst _ _ _ fun p hp => ⟨sl13 rs ins outs most n0 (some (dS here)) w7 (some (.str nm)) w9 (some p.1.d) (some (.int p.2)) w12, rfl, true_ok, ?_⟩) (by simp; omega)
  have hw := fun c => weight_ok (c := c) L hk (hr p.1 (List.of_mem_zip hp).1) nm
  simp only [evSs_cons, evSs_nil, seqK_nx, seqK_rt, seqK_ex, evS, evM, evA, evO, evI, evT, bnd_ok, ofR_ok, tst_f, tst_t, varK_some, Cst.d, bolK_bl, tru_bl', truK_bl, and_bl, or_bl, notK_bl, bin_add, bin_sub, cmp_lt, cmp_le, cmp_gt, cmp_ge, cmp_eqI, cmp_neI, cmp_eqB, cmp_neB, cmp_eqS, cmp_neS, cmp_isN, cmp_isnN, cmp_isB, len_lst, len_tup, isNon, intO, seqD, asT, asTs, Option.bind_some, List.getElem?_cons_zero, List.getElem?_cons_succ, List.set_cons_zero, List.set_cons_succ, fin_rt, fin_nx, fin_ex, if_true, callK, arrD, List.cons_append, List.nil_append, Option.map_some, retK_f, eq_self, decide_true, decide_false, Bool.false_eq_true, if_false, hw]
theorem downs_ev (L : Lib T) (hk : 1 ≤ k) (hr : ∀ r ∈ rs, RlOk outs r) (hrl : rs.length ≤ 100) {xs : List Int} (hh : xs.length = rs.length) {n0 : Nat} {w6 w7 w8 w10 w11 w12 : Option D} {cc : Ct} :
    evM (evF T k) false (.comp false [10, 11] (.tp [(.nm 10), (.nm 11)]) (.zip false (.cons (.var 0) (.cons (.var 9) .nil))) (.cst (.bl true)) (.call false 28 [] [.arg 0, .arg 1] (.cons (.var 10) (.cons (.var 11) .nil)) .nil)) (sl13 rs ins outs most n0 w6 w7 w8 (some (dS xs)) w10 w11 w12) cc = .ok (dS (downs rs xs)) cc := by
  have e : dS (downs rs xs) = .lst ((rs.zip xs).map fun p => D.int (p.1.down p.2)) := by
    unfold dS
    rw [downs_zip, List.map_map]
    rfl
  rw [e]
  refine compf_ok (zip_ok (ds := [.lst (rs.map Rl.d), .lst (xs.map .int)]) (args_cons (var_ok rfl) (args_cons (var_ok rfl) args_nil)) (zip_rs hh)) (compR_lst _ _ _ fun p hp => ⟨sl13 rs ins outs most n0 w6 w7 w8 (some (dS xs)) (some p.1.d) (some (.int p.2)) w12, rfl, true_ok, ?_⟩) (by simp; omega)
  have hw := fun c => down_ok (c := c) L hk (hr p.1 (List.of_mem_zip hp).1) p.2
  simp only [evSs_cons, evSs_nil, seqK_nx, seqK_rt, seqK_ex, evS, evM, evA, evO, evI, evT, bnd_ok, ofR_ok, tst_f, tst_t, varK_some, Cst.d, bolK_bl, tru_bl', truK_bl, and_bl, or_bl, notK_bl, bin_add, bin_sub, cmp_lt, cmp_le, cmp_gt, cmp_ge, cmp_eqI, cmp_neI, cmp_eqB, cmp_neB, cmp_eqS, cmp_neS, cmp_isN, cmp_isnN, cmp_isB, len_lst, len_tup, isNon, intO, seqD, asT, asTs, Option.bind_some, List.getElem?_cons_zero, List.getElem?_cons_succ, List.set_cons_zero, List.set_cons_succ, fin_rt, fin_nx, fin_ex, if_true, callK, arrD, List.cons_append, List.nil_append, Option.map_some, retK_f, eq_self, decide_true, decide_false, Bool.false_eq_true, if_false, hw]
set_option maxHeartbeats 16000000 in
/-- a stand's row -/
theorem row_ev (L : Lib T) (hk : 2 ≤ k) (hr : ∀ r ∈ rs, RlOk outs r) (hrl : rs.length ≤ 100) (ho : NamesOk outs) (hol : outs.length ≤ 100) (hil : ins.length ≤ 100) {S0 : List (List Int)} (hS0 : SOk rs ins S0) (hSl : S0.length ≤ 1000) {i : Nat} {here : List Int} (hh : S0[i]? = some here) {refs : List D} {rc : Ct} (hrc : rc.length = i) {w8 w9 w10 w11 w12 : Option D} :
    ∃ S w8' w9' w10' w11' w12', SOk rs ins S ∧ (∃ m, S = S0 ++ m) ∧ S.length ≤ S0.length + ins.length ∧ (∀ nm ∈ ins, nxS rs here nm ∈ S) ∧
      forR (asT (.nm 8)) (evSs (evF T k) rawF) (ins.map .str) (sl13 rs ins outs most c.length (some (dS here)) (some (.ref (c.length + (2 + i)))) w8 w9 w10 w11 w12) (c ++ (Cell.lst (S0.map dS) :: Cell.lst refs :: (rc ++ [Cell.lst []])))
      = .ok (.nx (sl13 rs ins outs most c.length (some (dS here)) (some (.ref (c.length + (2 + i)))) w8' w9' w10' w11' w12')) (c ++ (Cell.lst (S.map dS) :: Cell.lst refs :: (rc ++ [Cell.lst ((ins.map (entry rs outs S here)).map dE)]))) := by
  have hhl := hS0.len here (List.mem_of_getElem? hh)
  have hhn := fun x hx => (hS0.nn here (List.mem_of_getElem? hh) x hx).1
  obtain ⟨sl', c', h1, S, a8, a9, a10, a11, a12, h2, h3, h4, h5, h6, h7⟩ := forR_i (tg := asT (.nm 8)) (b := evSs (evF T k) rawF)
    (fun j sl cc => ∃ S w8 w9 w10 w11 w12, SOk rs ins S ∧ (∃ m, S = S0 ++ m) ∧ S.length ≤ S0.length + j ∧ (∀ nm ∈ ins.take j, nxS rs here nm ∈ S) ∧ sl = sl13 rs ins outs most c.length (some (dS here)) (some (.ref (c.length + (2 + i)))) w8 w9 w10 w11 w12 ∧
      cc = c ++ (Cell.lst (S.map dS) :: Cell.lst refs :: (rc ++ [Cell.lst (((ins.take j).map (entry rs outs S here)).map dE)]))) (ins.map .str) (fun j d hd sl cc hI => by
      obtain ⟨S, w8, w9, w10, w11, w12, hS, hm, hl, hmem, rfl, rfl⟩ := hI
      rw [List.getElem?_map] at hd
      cases hn : ins[j]? with
      | none => rw [hn] at hd; cases hd
      | some nm =>
      rw [hn] at hd
      cases hd
      have hnm : nm ∈ ins := List.mem_of_getElem? hn
      have hj : j < ins.length := (List.getElem?_eq_some_iff.mp hn).1
      have hhS : S[i]? = some here := by
        obtain ⟨m, rfl⟩ := hm
        rw [List.getElem?_append_left (List.getElem?_eq_some_iff.mp hh).1]
        exact hh
      have hrl2 := risen_len nm rs here hhl
      have g1 : ∀ (t : Cell), (c ++ (t :: Cell.lst refs :: (rc ++ [Cell.lst (((ins.take j).map (entry rs outs S here)).map dE)])))[c.length + (2 + i)]? = some (Cell.lst (((ins.take j).map (entry rs outs S here)).map dE)) := fun t => by
        rw [c_at, w_at i hrc]
      -- the stands behind it
      have step : ∃ S', SOk rs ins S' ∧ (∃ m, S' = S ++ m) ∧ S'.length ≤ S.length + 1 ∧ nxS rs here nm ∈ S' ∧ evS (evF T k) (.ifs (.cmp .nin (.var 12) (.var 4)) (.cons (.expr (.bm .append (.var 4) (.cons (.var 12) .nil))) .nil) .nil) (sl13 rs ins outs most c.length (some (dS here)) (some (.ref (c.length + (2 + i)))) (some (.str nm)) (some (dS (risen nm rs here))) w10 w11 (some (dS (nxS rs here nm)))) (c ++ (Cell.lst (S.map dS) :: Cell.lst refs :: (rc ++ [Cell.lst (((ins.take j).map (entry rs outs S here)).map dE)])))
          = .ok (.nx (sl13 rs ins outs most c.length (some (dS here)) (some (.ref (c.length + (2 + i)))) (some (.str nm)) (some (dS (risen nm rs here))) w10 w11 (some (dS (nxS rs here nm))))) (c ++ (Cell.lst (S'.map dS) :: Cell.lst refs :: (rc ++ [Cell.lst (((ins.take j).map (entry rs outs S here)).map dE)]))) := by
        have hq := cod_S.ninB (by decide) (y := .ref c.length) (c := c ++ (Cell.lst (S.map dS) :: Cell.lst refs :: (rc ++ [Cell.lst (((ins.take j).map (entry rs outs S here)).map dE)]))) (l := S) (a := nxS rs here nm) (.inr ⟨c.length, rfl, c_at0⟩) trivial (fun _ _ => trivial)
        by_cases hx : nxS rs here nm ∈ S
        · simp only [hx, decide_true, Bool.not_true] at hq
          exact ⟨S, hS, ⟨[], by simp⟩, by omega, hx, if_f (cmpT_ok (var_ok rfl) (var_ok rfl) hq) rfl⟩
        · simp only [hx, decide_false, Bool.not_false] at hq
          refine ⟨S ++ [nxS rs here nm], hS.grow hr hhS hnm hx, ⟨_, rfl⟩, by simp, by simp, if_t (cmpT_ok (var_ok rfl) (var_ok rfl) hq) (step_nx (expr_ok (d := .non) (bm_ok (x := .ref c.length) (ds := [dS (nxS rs here nm)]) (var_ok rfl) (lst_ref c_at0) (args_cons (var_ok rfl) args_nil) ?_)) nil_ok)⟩
          rw [app_ok' c_at0 (by simp; omega), c_set0, List.map_append]
          rfl
      obtain ⟨S', hS', hm', hl', hx', hst⟩ := step
      have hb : ∀ (a : Nat) r x y, rs[a]? = some r → here[a]? = some x → (risen nm rs here)[a]? = some y → (r.times y - r.times x).natAbs < 1024 := fun a r x y q1 q2 q3 => by
        rw [risen_get q1 q2 q3]
        have w := weight_le (hr r (List.mem_of_getElem? q1)) nm
        have := times_diff (hr r (List.mem_of_getElem? q1)) (x := x) w.1
        omega
      have hg := fun c => gain_ok (c := c) L hk hr ho hol hhl hrl2 (fun s hs => good_strOk (ho.2 s hs)) hb
      have hent : (ins.take j).map (entry rs outs S here) = (ins.take j).map (entry rs outs S' here) := List.map_congr_left fun n hn => by
        obtain ⟨m, rfl⟩ := hm'
        unfold entry posS
        rw [idx_app (hmem n hn)]
      refine ⟨_, _, _, rfl, step_nx (sl' := sl13 rs ins outs most c.length (some (dS here)) (some (.ref (c.length + (2 + i)))) (some (.str nm)) (some (dS (risen nm rs here))) w10 w11 w12) (asg_ok (risen_ev L (by omega) hr hrl hhl) rfl) (step_nx (sl' := sl13 rs ins outs most c.length (some (dS here)) (some (.ref (c.length + (2 + i)))) (some (.str nm)) (some (dS (risen nm rs here))) w10 w11 (some (dS (nxS rs here nm)))) (asg_ok (downs_ev L (by omega) hr hrl hrl2) rfl) (step_nx hst (step_nx (expr_ok (d := .non) (bm_ok (x := .ref (c.length + (2 + i))) (ds := [dE (entry rs outs S' here nm)]) (c2 := c ++ (Cell.lst (S'.map dS) :: Cell.lst refs :: (rc ++ [Cell.lst (((ins.take j).map (entry rs outs S here)).map dE)]))) (var_ok rfl) (lst_ref (g1 _)) ?_ ?_)) nil_ok))), S', _, _, _, _, _, hS', ?_, ?_, ?_, rfl, rfl⟩
      · refine args_cons (tup_ok (ds := [.int (posS S' (nxS rs here nm) : Nat), .tup ((gainV rs outs here (risen nm rs here)).map .int)]) (args_cons (bm_ok (x := .ref c.length) (ds := [dS (nxS rs here nm)]) (var_ok rfl) (lst_ref c_at0) (args_cons (var_ok rfl) args_nil) ?_) (args_cons (call_ok (ds := [.lst (rs.map Rl.d), .lst (outs.map .str), .lst (here.map .int), .lst ((risen nm rs here).map .int)]) (args_cons (var_ok rfl) (args_cons (var_ok rfl) (args_cons (var_ok rfl) (args_cons (var_ok rfl) args_nil)))) args_nil rfl (hg _)) args_nil)) (by simp)) args_nil
        exact cod_S.index (by decide) (.inr ⟨c.length, rfl, c_at0⟩) trivial (fun _ _ => trivial) hx'
      · rw [app_ok' (g1 _) (by simp; omega), c_set, w_set i hrc, List.take_add_one, hn, hent]
        simp only [List.map_append, Option.toList, List.map_cons, List.map_nil]
      · obtain ⟨m, rfl⟩ := hm
        obtain ⟨m', rfl⟩ := hm'
        exact ⟨m ++ m', by rw [List.append_assoc]⟩
      · omega
      · intro n hn'
        rw [List.take_add_one, hn] at hn'
        rcases List.mem_append.mp hn' with z | z
        · obtain ⟨m', rfl⟩ := hm'
          exact List.mem_append_left _ (hmem n z)
        · simp at z
          rw [z]
          exact hx') (sl := sl13 rs ins outs most c.length (some (dS here)) (some (.ref (c.length + (2 + i)))) w8 w9 w10 w11 w12) (c := c ++ (Cell.lst (S0.map dS) :: Cell.lst refs :: (rc ++ [Cell.lst []]))) ⟨S0, w8, w9, w10, w11, w12, hS0, ⟨[], by simp⟩, by omega, by simp, rfl, by simp⟩
  rw [List.length_map] at h4 h5 h7
  rw [List.take_length] at h5 h7
  subst h6 h7
  exact ⟨S, a8, a9, a10, a11, a12, h2, h3, h4, h5, h1⟩
end
end Hv

set_option Elab.async false
set_option linter.all false
set_option maxRecDepth 100000
set_option maxHeartbeats 4000000
/-! HvY5: the search runs to its end. -/
namespace Hv
open PySem PySem.Spec PyProof.Rows L2

section
variable {T : Tab} {k : Nat} {c : Ct} {rs : List Rl} {ins outs : List Str} {most : Nat}
abbrev rawC (c : Ct) (S : List (List Int)) (rows : List (List (Nat × List Int))) : Ct := c ++ (Cell.lst (S.map dS) :: Cell.lst (refsF c.length rows.length) :: rcF rows)
theorem rawC4 {S : List (List Int)} {rows : List (List (Nat × List Int))} : (rawC c S rows)[c.length]? = some (Cell.lst (S.map dS)) := c_at0
theorem rawC5 {S : List (List Int)} {rows : List (List (Nat × List Int))} : (rawC c S rows)[c.length + 1]? = some (Cell.lst (refsF c.length rows.length)) := by
  unfold rawC
  rw [c_at]
  rfl
theorem rawQ_ev {S : List (List Int)} {rows : List (List (Nat × List Int))} {w6 w7 w8 w9 w10 w11 w12 : Option D} : evT (evF T k) rawQ (sl13 rs ins outs most c.length w6 w7 w8 w9 w10 w11 w12) (rawC c S rows) = .ok (decide (rows.length < S.length ∧ S.length ≤ most)) (rawC c S rows) := by
  have h4 := len_ref (rawC4 (c := c) (S := S) (rows := rows))
  have h5 := len_ref (rawC5 (c := c) (S := S) (rows := rows))
  rw [List.length_map] at h4
  rw [refs_len] at h5
  have e1 : evM (evF T k) true (.cmp .lt (.blt .len (.cons (.var 5) .nil)) (.blt .len (.cons (.var 4) .nil))) (sl13 rs ins outs most c.length w6 w7 w8 w9 w10 w11 w12) (rawC c S rows) = .ok (.bl (decide ((rows.length : Int) < (S.length : Int)))) (rawC c S rows) := by
    rw [evM, blt_ok (args_cons (var_ok rfl) args_nil) h5, bnd_ok, blt_ok (args_cons (var_ok rfl) args_nil) h4, bnd_ok, cmp_lt]
  have e2 : evM (evF T k) true (.cmp .le (.blt .len (.cons (.var 4) .nil)) (.var 3)) (sl13 rs ins outs most c.length w6 w7 w8 w9 w10 w11 w12) (rawC c S rows) = .ok (.bl (decide ((S.length : Int) ≤ (most : Int)))) (rawC c S rows) := by
    rw [evM, blt_ok (args_cons (var_ok rfl) args_nil) h4, bnd_ok, var_ok rfl, bnd_ok, cmp_le]
  unfold rawQ evT
  rw [evM, e1, bnd_ok, and_bl, e2]
  by_cases h1 : rows.length < S.length
  · have h1' : (rows.length : Int) < (S.length : Int) := by omega
    simp only [h1', decide_true, if_true, bnd_ok, bolK_bl, h1, true_and]
    have h2 : ((S.length : Int) ≤ (most : Int)) ↔ S.length ≤ most := by omega
    simp only [h2]
  · have h1' : ¬ (rows.length : Int) < (S.length : Int) := by omega
    simp only [h1', decide_false, Bool.false_eq_true, if_false, bnd_ok, bolK_bl, h1, false_and]
theorem sok0 : SOk rs ins [List.replicate rs.length 0] where
  nd := by simp
  s0 := rfl
  len s hs := by rw [List.mem_singleton.mp hs, List.length_replicate]
  nn s hs x hx := by
    rw [List.mem_singleton.mp hs] at hx
    rw [List.eq_of_mem_replicate hx]
    omega
  rch j s hj h0 := by
    cases j with
    | zero => exact absurd rfl h0
    | succ j => cases hj
set_option maxHeartbeats 16000000 in
theorem raw_ok (L : Lib T) (hk : 3 ≤ k) (hr : ∀ r ∈ rs, RlOk outs r) (hrl : rs.length ≤ 100) (ho : NamesOk outs) (hol : outs.length ≤ 100) (hil : ins.length ≤ 100) (hm1 : 1 ≤ most) (hm2 : most ≤ 800) :
    (∃ S rows, SOk rs ins S ∧ rows.length = S.length ∧ (∀ t, t < S.length → RowAt rs ins outs S rows t) ∧ S.length ≤ most ∧ evF T k P.i_l_raw [.lst (rs.map Rl.d), .lst (ins.map .str), .lst (outs.map .str), .int (most : Int)] c = .ok (dRows rows) c) ∨
    (∃ S, SOk rs ins S ∧ most < S.length ∧ evF T k P.i_l_raw [.lst (rs.map Rl.d), .lst (ins.map .str), .lst (outs.map .str), .int (most : Int)] c = .ok .non c) := by
  obtain ⟨k, rfl⟩ : ∃ j, k = j + 1 := ⟨k - 1, by omega⟩
  obtain ⟨sl', c', h1, S, rows, a6, a7, a8, a9, a10, a11, a12, hS, hle, hrow, hsl, hcc, hend⟩ := whR_inv (q := evT (evF T k) rawQ) (b := evSs (evF T k) rawW)
    (fun n sl cc => ∃ S rows w6 w7 w8 w9 w10 w11 w12, SOk rs ins S ∧ rows.length ≤ S.length ∧ rows.length ≤ most ∧ S.length ≤ most + ins.length ∧ (∀ t, t < rows.length → RowAt rs ins outs S rows t) ∧ n = most - rows.length ∧ sl = sl13 rs ins outs most c.length w6 w7 w8 w9 w10 w11 w12 ∧ cc = rawC c S rows)
    (fun sl cc => ∃ S rows w6 w7 w8 w9 w10 w11 w12, SOk rs ins S ∧ rows.length ≤ S.length ∧ (∀ t, t < rows.length → RowAt rs ins outs S rows t) ∧ sl = sl13 rs ins outs most c.length w6 w7 w8 w9 w10 w11 w12 ∧ cc = rawC c S rows ∧ ¬ (rows.length < S.length ∧ S.length ≤ most))
    (fun n sl cc hI => by
      obtain ⟨S, rows, w6, w7, w8, w9, w10, w11, w12, hS, hle, hlm, hSm, hrow, rfl, rfl, rfl⟩ := hI
      by_cases hq : rows.length < S.length ∧ S.length ≤ most
      · refine .inr ⟨by rw [rawQ_ev, decide_eq_true hq], ?_⟩
        have hh : S[rows.length]? = some (S[rows.length]'hq.1) := List.getElem?_eq_getElem hq.1
        generalize S[rows.length]'hq.1 = here at hh
        have hrcl : (rcF rows).length = rows.length := by simp [rcF]
        obtain ⟨S', b8, b9, b10, b11, b12, g1, ⟨m, hm⟩, g3, g4, g5⟩ := row_ev (k := k) (c := c) (most := most) L (by omega) hr hrl ho hol hil hS (by omega) hh (refs := refsF c.length rows.length) hrcl (w8 := w8) (w9 := w9) (w10 := w10) (w11 := w11) (w12 := w12)
        have hhS' : S'[rows.length]? = some here := by
          rw [hm, List.getElem?_append_left hq.1]
          exact hh
        refine ⟨most - (rows.length + 1), sl13 rs ins outs most c.length (some (dS here)) (some (.ref (c.length + (2 + rows.length)))) b8 b9 b10 b11 b12, rawC c S' (rows ++ [ins.map (entry rs outs S' here)]), by omega, ?_, S', rows ++ [ins.map (entry rs outs S' here)], _, _, _, _, _, _, _, g1, ?_, ?_, by omega, ?_, by simp, rfl, rfl⟩
        · refine step_nx (sl' := sl13 rs ins outs most c.length (some (dS here)) (some (.ref (c.length + (2 + rows.length)))) w8 w9 w10 w11 w12) (c' := c ++ (Cell.lst (S.map dS) :: Cell.lst (refsF c.length rows.length) :: (rcF rows ++ [Cell.lst []]))) ?_ (step_nx (for_ok (its := ins.map .str) (seq_ok (var_ok rfl) rfl) g5) (step_nx (c' := rawC c S' (rows ++ [ins.map (entry rs outs S' here)])) (expr_ok (d := .non) (bm_ok (x := .ref (c.length + 1)) (ds := [.ref (c.length + (2 + rows.length))]) (c1 := c ++ (Cell.lst (S'.map dS) :: Cell.lst (refsF c.length rows.length) :: (rcF rows ++ [Cell.lst ((ins.map (entry rs outs S' here)).map dE)]))) (var_ok rfl) (lst_ref (xs := refsF c.length rows.length) (by rw [c_at]; rfl)) (args_cons (var_ok rfl) args_nil) ?_)) nil_ok))
          · have e1 : evM (evF T k) false (.idx (.var 4) (.blt .len (.cons (.var 5) .nil))) (sl13 rs ins outs most c.length w6 w7 w8 w9 w10 w11 w12) (rawC c S rows) = .ok (dS here) (rawC c S rows) := by
              have h5 := len_ref (rawC5 (c := c) (S := S) (rows := rows))
              rw [refs_len] at h5
              refine idx_ok (var_ok rfl) (blt_ok (args_cons (var_ok rfl) args_nil) h5) (idx_nat (its_ref rawC4) (by omega) ?_)
              rw [Int.toNat_natCast, List.getElem?_map, hh]
              rfl
            have e2 := lstt_ok (call := evF T k) (sl := sl13 rs ins outs most c.length w6 w7 w8 w9 w10 w11 w12) (c := rawC c S rows) args_nil (by simp)
            have hlen : (rawC c S rows).length = c.length + (2 + rows.length) := by
              unfold rawC
              simp [hrcl]
              omega
            have := par_ok (i := 6) (j := 7) e1 e2
            rw [hlen] at this
            rw [this]
            unfold rawC
            rw [List.append_assoc]
            rfl
          · rw [app_ok' (xs := refsF c.length rows.length) (by rw [c_at]; rfl) (by rw [refs_len]; omega), c_set]
            unfold rawC
            rw [List.length_append, List.length_singleton, refs_succ]
            show _ = Res.ok _ (c ++ (_ :: _ :: rcF (rows ++ [_])))
            unfold rcF
            rw [List.map_append]
            rfl
        · rw [hm, List.length_append, List.length_append]
          simp
          omega
        · simp
          omega
        · intro t ht
          rw [List.length_append, List.length_singleton] at ht
          by_cases htl : t < rows.length
          · intro hr' hh'
            have := (hrow t htl).grow (m := m) (by omega)
            rw [← hm] at this
            obtain ⟨q1, q2⟩ := this hr' hh'
            exact ⟨by rw [List.getElem?_append_left htl]; exact q1, q2⟩
          · have ht : t = rows.length := by omega
            subst ht
            intro hr' hh'
            rw [hhS'] at hh'
            cases hh'
            exact ⟨by rw [List.getElem?_append_right (Nat.le_refl _), Nat.sub_self]; rfl, g4⟩
      · exact .inl ⟨by rw [rawQ_ev, decide_eq_false hq], S, rows, _, _, _, _, _, _, _, hS, hle, hrow, rfl, rfl, hq⟩) most (sl13 rs ins outs most c.length none none none none none none none) (rawC c [List.replicate rs.length 0] []) ⟨_, [], _, _, _, _, _, _, _, sok0, by simp, by simp, by simp; omega, by simp, by simp, rfl, rfl⟩
  have start : ∀ X, evSs (evF T k) (.cons rawZ .nil) sl' c' = X → evSs (evF T k) P.b_l_raw [some (.lst (rs.map Rl.d)), some (.lst (ins.map .str)), some (.lst (outs.map .str)), some (.int (most : Int)), none, none, none, none, none, none, none, none, none] c = X := fun X hX => by
    rw [raw_is]
    refine step_nx (sl' := sl13 rs ins outs most c.length none none none none none none none) (c' := rawC c [List.replicate rs.length 0] []) ?_ (step_nx (sl' := sl') (c' := c') (by rw [whl_eq]; exact h1) hX)
    have e1 : evM (evF T k) false (.lst true (.cons (.bin false .mul (.lst false (.cons (.cst (.int 0)) .nil)) (.blt .len (.cons (.var 0) .nil))) .nil)) [some (.lst (rs.map Rl.d)), some (.lst (ins.map .str)), some (.lst (outs.map .str)), some (.int (most : Int)), none, none, none, none, none, none, none, none, none] c = .ok (.ref c.length) (c ++ [Cell.lst [.lst (List.replicate rs.length (.int 0))]]) :=
      lstt_ok (args_cons (bin_ok (lstf_ok (args_cons rfl args_nil) (by simp)) (blt_ok (args_cons (var_ok rfl) args_nil) (by rw [len_lst, List.length_map])) (repf_ok (by omega))) args_nil) (by simp)
    have e2 := lstt_ok (call := evF T k) (sl := [some (.lst (rs.map Rl.d)), some (.lst (ins.map .str)), some (.lst (outs.map .str)), some (.int (most : Int)), none, none, none, none, none, none, none, none, none]) (c := c ++ [Cell.lst [.lst (List.replicate rs.length (.int 0))]]) args_nil (by simp)
    have := par_ok (i := 4) (j := 5) e1 e2
    unfold rawA
    rw [this, List.length_append, List.length_singleton, List.append_assoc]
    have e3 : dS (List.replicate rs.length 0) = .lst (List.replicate rs.length (.int 0)) := by
      unfold dS
      rw [List.map_replicate]
    unfold rawC
    rw [List.map_cons, List.map_nil, e3]
    rfl
  subst hsl hcc
  have h4 := len_ref (rawC4 (c := c) (S := S) (rows := rows))
  rw [List.length_map] at h4
  have hcmp : evT (evF T k) (.cmp .le (.blt .len (.cons (.var 4) .nil)) (.var 3)) (sl13 rs ins outs most c.length a6 a7 a8 a9 a10 a11 a12) (rawC c S rows) = .ok (decide ((S.length : Int) ≤ (most : Int))) (rawC c S rows) := cmpT_ok (blt_ok (args_cons (var_ok rfl) args_nil) h4) (var_ok rfl) (cmp_le _ _ _)
  by_cases hSm : S.length ≤ most
  · refine .inl ⟨S, rows, hS, by omega, fun t ht => hrow t (by omega), hSm, ?_⟩
    obtain ⟨w', hf⟩ := frz_rows (c := c) 7 rows 2 (Cell.lst (S.map dS) :: Cell.dead :: rcF rows) (fun t r ht => by
      rw [Nat.add_comm, List.getElem?_cons_succ, List.getElem?_cons_succ]
      unfold rcF
      rw [List.getElem?_map, ht]
      rfl)
    refine run_rt (d := dRows rows) (sl := sl13 rs ins outs most c.length a6 a7 a8 a9 a10 a11 a12) (c' := c ++ w') L.raw rfl (start _ ?_) (gcK_drop (rLt_mono (Nat.zero_le _) _ (pl_rows rows)))
    rw [decide_eq_true (by omega)] at hcmp
    refine step_rt (ret_ok (frzE_ok (ifx_t hcmp (var_ok rfl)) ?_))
    unfold frzK
    have hr0 : rLt 0 (.ref (c.length + 1)) = false := by rw [rLt]; exact decide_eq_false (by omega)
    have e : frzD 9 (.ref (c.length + 1)) (rawC c S rows) = some (dRows rows, c ++ w') := by
      unfold frzD
      rw [if_neg (by rw [hr0]; decide)]
      simp only [rawC5]
      unfold rawC
      rw [c_set]
      show (frzL (frzD 8) (refsF c.length rows.length) (c ++ (Cell.lst (S.map dS) :: Cell.dead :: rcF rows))).map _ = _
      unfold refsF
      rw [hf]
      rfl
    rw [e]
  · refine .inr ⟨S, hS, by omega, ?_⟩
    refine run_rt (d := .non) (sl := sl13 rs ins outs most c.length a6 a7 a8 a9 a10 a11 a12) (c' := rawC c S rows) L.raw rfl (start _ ?_) (gcK_drop (by rw [rLt]))
    rw [decide_eq_false (by omega)] at hcmp
    exact step_rt (ret_ok (frzE_ok (ifx_f hcmp rfl) (frz_pl (d := .non) (by rw [rLt]))))
end
end Hv

set_option Elab.async false
set_option linter.all false
set_option maxRecDepth 100000
set_option maxHeartbeats 4000000
/-! HvY6: a drawn rule. -/
namespace Hv
open PySem PySem.Spec PyProof.Rows L2

section
variable {tg : D → Sl → Option Sl} {q : Sl → Ct → Res Bool} {f : Sl → Ct → Res D} {sl : Sl}
theorem compR_lstS {α β : Type} (I : Ct → Prop) (P : α → β → Prop) (e : α → D) (g : β → D) : ∀ (l : List α), (∀ a ∈ l, ∀ c, I c → ∃ sl' c1 b c2, tg (e a) sl = some sl' ∧ q sl' c = .ok true c1 ∧ f sl' c1 = .ok (g b) c2 ∧ I c2 ∧ P a b) → ∀ c, I c → ∃ (l' : List β) (c' : Ct), compR tg q f sl (l.map e) c = .ok (l'.map g) c' ∧ I c' ∧ l'.length = l.length ∧ ∀ b ∈ l', ∃ a ∈ l, P a b
  | [], _, c, hI => ⟨[], c, rfl, hI, rfl, fun b hb => by cases hb⟩
  | a :: l, h, c, hI => by
    obtain ⟨sl', c1, b, c2, h1, h2, h3, h4, h5⟩ := h a List.mem_cons_self c hI
    obtain ⟨l', c', g1, g2, g3, g4⟩ := compR_lstS I P e g l (fun d hd => h d (List.mem_cons_of_mem _ hd)) c2 h4
    refine ⟨b :: l', c', ?_, g2, by simp [g3], fun b' hb => ?_⟩
    · rw [List.map_cons, compR, h1]
      simp only
      rw [h2]
      simp only
      rw [h3]
      simp only
      rw [g1]
      rfl
    · rcases List.mem_cons.mp hb with z | z
      · rw [z]; exact ⟨a, List.mem_cons_self, h5⟩
      · obtain ⟨a', ha', hp⟩ := g4 b' z
        exact ⟨a', List.mem_cons_of_mem _ ha', hp⟩
end
theorem strs_map : ∀ (ss : List Str), strsD (ss.map D.str) = some ss
  | [] => rfl
  | s :: ss => by rw [List.map_cons, strsD, strs_map ss]; rfl
theorem sort_strs {ss : List Str} {c : Ct} (h : ss.length < 64) : ∃ ss' : List Str, ss'.Perm ss ∧ bltD .sorted [.lst (ss.map .str)] c = .ok (.lst (ss'.map .str)) c := by
  cases ss with
  | nil =>
    refine ⟨[], .refl _, ?_⟩
    have h0 : ([] : List Int).mergeSort leI = [] := List.eq_nil_of_length_eq_zero (by rw [List.length_mergeSort]; rfl)
    have e : sortD (.lst (([] : List Str).map .str)) c = some [] := by
      show (if isL (.lst []) = true then some ((([] : List Int).mergeSort leI).map D.int) else none) = _
      rw [h0]
      rfl
    show (match sortD (.lst (([] : List Str).map .str)) c with | some xs => Res.ok (D.lst xs) c | none => .stuck) = _
    rw [e]
    rfl
  | cons s ss =>
    refine ⟨(s :: ss).mergeSort leS, List.mergeSort_perm _ _, ?_⟩
    have e : sortD (.lst ((s :: ss).map .str)) c = some (((s :: ss).mergeSort leS).map .str) := by
      have h1 : itsD (.lst ((s :: ss).map D.str)) c = some ((s :: ss).map D.str) := rfl
      unfold sortD
      rw [h1]
      simp only
      rw [if_pos (show isL (.lst ((s :: ss).map D.str)) = true from rfl)]
      have h2 : intsD ((s :: ss).map D.str) = none := rfl
      rw [h2, strs_map]
      simp only
      rw [if_pos h]
    show (match sortD (.lst ((s :: ss).map .str)) c with | some xs => Res.ok (D.lst xs) c | none => .stuck) = _
    rw [e]
theorem cut1 (xs : List D) : cutD xs none (some 1) = xs.take 1 := by
  unfold cutD HT.sIx
  cases xs with
  | nil => rfl
  | cons x xs =>
    simp
theorem slc1 {xs : List D} {c : Ct} : slcD (.lst xs) none (some 1) c = .ok (.lst (xs.take 1)) c := by
  show Res.ok (D.lst (cutD xs none (some 1))) c = _
  rw [cut1]
section
variable {T : Tab} {k : Nat} {x : List D} {c0 : Ct} {sl : Sl} {ns : List Str}
/-- names, some left out by draws, in order -/
theorem used_ev (L : Lib T) (hk : 1 ≤ k) (hx : Dl x) (hn : ns.length < 64) {a : Nat} {o : COp} {m : Int} (hm : 0 < m) (hm2 : m < 2 ^ 64) (ho : ∀ (v : Int) c, ∃ b, cmpD o (.int v) (.int 0) c = .ok (.bl b) c) (h0 : sl[0]? = some (some (.ref 0))) (ha : sl[a]? = some (some (.lst (ns.map .str)))) (h4 : 4 < sl.length) (ha4 : a ≠ 4) :
    ∃ (x' : List D) (ss : List Str), Dl x' ∧ (∀ s ∈ ss, s ∈ ns) ∧ ss.length ≤ ns.length ∧ evM (evF T k) false (.blt .sorted (.cons (.comp false [4] (.nm 4) (.seq (.var a)) (.cmp o (.call false 10 [] [.arg 0, .arg 1] (.cons (.var 0) (.cons (.cst (.int m)) .nil)) .nil) (.cst (.int 0))) (.var 4)) .nil)) sl (.lst x :: c0) = .ok (.lst (ss.map .str)) (.lst x' :: c0) := by
  obtain ⟨es, c', h1, ⟨x', hx', rfl⟩, h3⟩ := compR_pick (tg := asT (.nm 4)) (q := fun sl c => bnd (evM (evF T k) true (.cmp o (.call false 10 [] [.arg 0, .arg 1] (.cons (.var 0) (.cons (.cst (.int m)) .nil)) .nil) (.cst (.int 0))) sl c) bolK) (f := evM (evF T k) false (.var 4)) (sl := wipeD sl [4]) (fun c => ∃ x, Dl x ∧ c = .lst x :: c0) id (ns.map .str) (fun d hd c hI => by
      obtain ⟨x, hx, rfl⟩ := hI
      obtain ⟨x', v, hx', hv0, hv1, e⟩ := pick0 (k := k) (c0 := c0) L hk hx hm hm2
      obtain ⟨b, hb⟩ := ho v (.lst x' :: c0)
      refine ⟨(sl.set 4 none).set 4 (some d), b, .lst x' :: c0, rfl, cmpT_ok (call_ok (ds := [.ref 0, .int m]) (args_cons (var_ok ?_) (args_cons rfl args_nil)) args_nil rfl e) rfl hb, ⟨x', hx', rfl⟩, fun _ => var_ok ?_⟩
      · rw [List.getElem?_set_ne (by omega), List.getElem?_set_ne (by omega)]
        exact h0
      · rw [List.getElem?_set_self (by simpa using h4)]
        rfl) (.lst x :: c0) ⟨x, hx, rfl⟩
  obtain ⟨ss, hs, rfl⟩ := List.sublist_map_iff.mp h3
  obtain ⟨ss', hp, hso⟩ := sort_strs (c := .lst x' :: c0) (ss := ss) (by have := hs.length_le; omega)
  refine ⟨x', ss', hx', fun s hs' => hs.subset (hp.mem_iff.mp hs'), by rw [hp.length_eq]; exact hs.length_le, blt_ok (args_cons (compf_ok (seq_ok (var_ok ha) rfl) h1 ?_) args_nil) ?_⟩
  · have := hs.length_le
    simp
    omega
  · rw [List.map_id]
    exact hso
/-- .. or the first one -/
theorem some_ev {call : CallF} {c : Ct} (hn : ns.length < 64) (hns : ∀ s ∈ ns, PyData.strOk s = true) {a b : Nat} {ss : List Str} (hss : ∀ s ∈ ss, s ∈ ns) (hsl : ss.length ≤ ns.length) (ha : sl[a]? = some (some (.lst (ns.map .str)))) (hb : sl[b]? = some (some (.lst (ss.map .str)))) :
    ∃ tt : List Str, (∀ s ∈ tt, s ∈ ns) ∧ tt.length ≤ ns.length ∧ evM call false (.ifx (.cmp .ne (.var b) (.lst false .nil)) (.var b) (.slc (.blt .sorted (.cons (.var a) .nil)) .no (.so (.cst (.int 1))))) sl c = .ok (.lst (tt.map .str)) c := by
  have hq := cod_str.lst.ne (by decide) (a := ss) (b := []) (fun s h => hns s (hss s h)) (fun s h => by cases h) rfl c
  have hq2 : evT call (.cmp .ne (.var b) (.lst false .nil)) sl c = .ok (!decide (ss = [])) c := cmpT_ok (var_ok hb) (lstf_ok args_nil (by simp)) hq
  by_cases h : ss = []
  · obtain ⟨ss', hp, hso⟩ := sort_strs (c := c) hn
    refine ⟨ss'.take 1, fun s hs => hp.mem_iff.mp (List.mem_of_mem_take hs), by rw [List.length_take, hp.length_eq]; omega, ?_⟩
    rw [decide_eq_true h] at hq2
    refine ifx_f hq2 ?_
    rw [evM, tst_f, blt_ok (args_cons (var_ok ha) args_nil) hso, bnd_ok]
    have e0 : evO call .no sl c = .ok none c := rfl
    have e : evO call (.so (.cst (.int 1))) sl c = .ok (some 1) c := rfl
    rw [e0, bnd_ok, e, bnd_ok, slc1, List.map_take]
  · rw [decide_eq_false h] at hq2
    exact ⟨ss, hss, hsl, ifx_t hq2 (var_ok hb)⟩
/-- names with drawn numbers -/
theorem pairs_ev (L : Lib T) (hk : 2 ≤ k) (hx : Dl x) {b : Nat} {ss : List Str} (hl : ss.length ≤ 1000) {is : List Int} (hi : ∀ i ∈ is, 0 ≤ i ∧ i ≤ 2) (his : is ≠ []) (hil : is.length ≤ 1000) {E : IEs} (hE : ∀ sl c, evA (evF T k) E sl c = .ok (is.map .int) c) (h0 : sl[0]? = some (some (.ref 0))) (hb : sl[b]? = some (some (.lst (ss.map .str)))) (h4 : 4 < sl.length) (hb4 : b ≠ 4) :
    ∃ (x' : List D) (ws : List (Str × Int)), Dl x' ∧ (∀ p ∈ ws, p.1 ∈ ss ∧ 0 ≤ p.2 ∧ p.2 ≤ 3) ∧ ws.length = ss.length ∧ evM (evF T k) false (.blt .tuple (.cons (.comp false [4] (.nm 4) (.seq (.var b)) (.cst (.bl true)) (.tup (.cons (.var 4) (.cons (.bin false .add (.cst (.int 1)) (.call false 8 [] [.arg 0, .arg 1] (.cons (.var 0) (.cons (.lst false E) .nil)) .nil)) .nil)))) .nil)) sl (.lst x :: c0) = .ok (.tup (ws.map pairD)) (.lst x' :: c0) := by
  obtain ⟨ws, c', h1, ⟨x', hx', rfl⟩, h3, h5⟩ := compR_lstS (tg := asT (.nm 4)) (q := fun sl c => bnd (evM (evF T k) true (.cst (.bl true)) sl c) bolK) (f := evM (evF T k) false (.tup (.cons (.var 4) (.cons (.bin false .add (.cst (.int 1)) (.call false 8 [] [.arg 0, .arg 1] (.cons (.var 0) (.cons (.lst false E) .nil)) .nil)) .nil)))) (sl := wipeD sl [4]) (fun c => ∃ x, Dl x ∧ c = .lst x :: c0) (fun (s : Str) (p : Str × Int) => p.1 = s ∧ 0 ≤ p.2 ∧ p.2 ≤ 3) D.str pairD ss (fun s hs c hI => by
      obtain ⟨x, hx, rfl⟩ := hI
      obtain ⟨x', d, hx', hd, e⟩ := of0 (k := k) (c0 := c0) L hk hx (ds := is.map .int) (by simpa using his) (by simpa using hil)
      obtain ⟨i, hi', rfl⟩ := List.mem_map.mp hd
      have := hi i hi'
      refine ⟨(sl.set 4 none).set 4 (some (.str s)), .lst x :: c0, (s, 1 + i), .lst x' :: c0, rfl, true_ok, ?_, ⟨x', hx', rfl⟩, rfl, by omega, by show 1 + i ≤ 3; omega⟩
      refine tup_ok (ds := [.str s, .int (1 + i)]) (args_cons (var_ok ?_) (args_cons (bin_ok rfl (call_ok (ds := [.ref 0, .lst (is.map .int)]) (args_cons (var_ok ?_) (args_cons (lstf_ok (hE _ _) (by simpa using hil)) args_nil)) args_nil rfl e) (bin_add _ _ _)) args_nil)) (by simp)
      · rw [List.getElem?_set_self (by simpa using h4)]
      · rw [List.getElem?_set_ne (by omega), List.getElem?_set_ne (by omega)]
        exact h0) (.lst x :: c0) ⟨x, hx, rfl⟩
  refine ⟨x', ws, hx', fun p hp => ?_, h3, blt_ok (args_cons (compf_ok (seq_ok (var_ok hb) rfl) h1 (by simp; omega)) args_nil) rfl⟩
  obtain ⟨s, hs, rfl, h6⟩ := h5 p hp
  exact ⟨hs, h6⟩
/-- 1 + a drawn one, a drawn one -/
theorem drawn_ev (L : Lib T) (hk : 2 ≤ k) (hx : Dl x) {is : List D} (his : is ≠ []) (hil : is.length ≤ 1000) {E : IEs} (hE : ∀ sl c, evA (evF T k) E sl c = .ok is c) (h0 : sl[0]? = some (some (.ref 0))) :
    ∃ (x' : List D) (d : D), Dl x' ∧ d ∈ is ∧ evM (evF T k) false (.call false 8 [] [.arg 0, .arg 1] (.cons (.var 0) (.cons (.lst false E) .nil)) .nil) sl (.lst x :: c0) = .ok d (.lst x' :: c0) := by
  obtain ⟨x', d, hx', hd, e⟩ := of0 (k := k) (c0 := c0) L hk hx his hil
  exact ⟨x', d, hx', hd, call_ok (ds := [.ref 0, .lst is]) (args_cons (var_ok h0) (args_cons (lstf_ok (hE _ _) hil) args_nil)) args_nil rfl e⟩
set_option maxHeartbeats 16000000 in
theorem rule_ok (L : Lib T) (hk : 3 ≤ k) (hx : Dl x) {ins outs : List Str} (hi : ∀ s ∈ ins, goodB s = true) (ho : ∀ s ∈ outs, goodB s = true) (hil : ins.length ≤ 3) (hol : outs.length ≤ 3) :
    ∃ x' r, Dl x' ∧ RlOk outs r ∧ evF T k P.i_l_rule [.ref 0, .lst (ins.map .str), .lst (outs.map .str)] (.lst x :: c0) = .ok r.d (.lst x' :: c0) := by
  obtain ⟨k, rfl⟩ : ∃ j, k = j + 1 := ⟨k - 1, by omega⟩
  have eqb : ∀ (v : Int) c, ∃ b, cmpD .eq (.int v) (.int 0) c = .ok (.bl b) c := fun v c => ⟨_, cmp_eqI _ _ _⟩
  have gtb : ∀ (v : Int) c, ∃ b, cmpD .gt (.int v) (.int 0) c = .ok (.bl b) c := fun v c => ⟨_, cmp_gt _ _ _⟩
  obtain ⟨x1, s1, hx1, m1, l1, e1⟩ := used_ev (k := k) (c0 := c0) (sl := [some (.ref 0), some (.lst (ins.map .str)), some (.lst (outs.map .str)), none, none, none, none, none, none, none]) (a := 1) L (by omega) hx (ns := ins) (by omega) (m := 2) (by omega) (by omega) eqb rfl rfl (by simp) (by omega)
  obtain ⟨s2, m2, l2, e2⟩ := some_ev (call := evF T k) (c := .lst x1 :: c0) (sl := [some (.ref 0), some (.lst (ins.map .str)), some (.lst (outs.map .str)), some (.lst (s1.map .str)), none, none, none, none, none, none]) (a := 1) (b := 3) (ns := ins) (by omega) (fun s h => good_strOk (hi s h)) m1 l1 rfl rfl
  obtain ⟨x2, ws, hx2, m3, l3, e3⟩ := pairs_ev (k := k) (c0 := c0) (sl := [some (.ref 0), some (.lst (ins.map .str)), some (.lst (outs.map .str)), some (.lst (s2.map .str)), none, none, none, none, none, none]) (b := 3) L (by omega) hx1 (ss := s2) (by omega) (is := [0, 0, 1, 2]) (by decide) (by simp) (by simp) (E := (.cons (.cst (.int 0)) (.cons (.cst (.int 0)) (.cons (.cst (.int 1)) (.cons (.cst (.int 2)) .nil))))) (fun _ _ => rfl) rfl rfl (by simp) (by omega)
  obtain ⟨x3, s3, hx3, m4, l4, e4⟩ := used_ev (k := k) (c0 := c0) (sl := [some (.ref 0), some (.lst (ins.map .str)), some (.lst (outs.map .str)), some (.lst (s2.map .str)), none, some (.tup (ws.map pairD)), none, none, none, none]) (a := 2) L (by omega) hx2 (ns := outs) (by omega) (m := 3) (by omega) (by omega) gtb rfl rfl (by simp) (by omega)
  obtain ⟨s4, m5, l5, e5⟩ := some_ev (call := evF T k) (c := .lst x3 :: c0) (sl := [some (.ref 0), some (.lst (ins.map .str)), some (.lst (outs.map .str)), some (.lst (s2.map .str)), none, some (.tup (ws.map pairD)), some (.lst (s3.map .str)), none, none, none]) (a := 2) (b := 6) (ns := outs) (by omega) (fun s h => good_strOk (ho s h)) m4 l4 rfl rfl
  obtain ⟨x4, gs, hx4, m6, l6, e6⟩ := pairs_ev (k := k) (c0 := c0) (sl := [some (.ref 0), some (.lst (ins.map .str)), some (.lst (outs.map .str)), some (.lst (s2.map .str)), none, some (.tup (ws.map pairD)), some (.lst (s4.map .str)), none, none, none]) (b := 6) L (by omega) hx3 (ss := s4) (by omega) (is := [0, 0, 0, 1, 2]) (by decide) (by simp) (by simp) (E := (.cons (.cst (.int 0)) (.cons (.cst (.int 0)) (.cons (.cst (.int 0)) (.cons (.cst (.int 1)) (.cons (.cst (.int 2)) .nil)))))) (fun _ _ => rfl) rfl rfl (by simp) (by omega)
  obtain ⟨x5, d5, hx5, m7, e7⟩ := drawn_ev (k := k) (c0 := c0) (sl := [some (.ref 0), some (.lst (ins.map .str)), some (.lst (outs.map .str)), some (.lst (s2.map .str)), none, some (.tup (ws.map pairD)), some (.lst (s4.map .str)), some (.tup (gs.map pairD)), none, none]) L (by omega) hx4 (is := [.int 0, .int 1, .int 1, .int 2, .int 3]) (by simp) (by simp) (E := (.cons (.cst (.int 0)) (.cons (.cst (.int 1)) (.cons (.cst (.int 1)) (.cons (.cst (.int 2)) (.cons (.cst (.int 3)) .nil)))))) (fun _ _ => rfl) rfl
  obtain ⟨x6, d6, hx6, m8, e8⟩ := drawn_ev (k := k) (c0 := c0) (sl := [some (.ref 0), some (.lst (ins.map .str)), some (.lst (outs.map .str)), some (.lst (s2.map .str)), none, some (.tup (ws.map pairD)), some (.lst (s4.map .str)), some (.tup (gs.map pairD)), none, none]) L (by omega) hx5 (is := [.int 0, .int 0, .int 0, .int 1, .int 2]) (by simp) (by simp) (E := (.cons (.cst (.int 0)) (.cons (.cst (.int 0)) (.cons (.cst (.int 0)) (.cons (.cst (.int 1)) (.cons (.cst (.int 2)) .nil)))))) (fun _ _ => rfl) rfl
  obtain ⟨ev, hev, hev1, rfl⟩ : ∃ i : Int, 0 ≤ i ∧ i ≤ 3 ∧ d5 = .int i := by
    simp at m7
    rcases m7 with rfl | rfl | rfl | rfl <;> exact ⟨_, by decide, by decide, rfl⟩
  obtain ⟨ea, hea, hea1, rfl⟩ : ∃ i : Int, 0 ≤ i ∧ i ≤ 2 ∧ d6 = .int i := by
    simp at m8
    rcases m8 with rfl | rfl | rfl <;> exact ⟨_, by decide, by decide, rfl⟩
  obtain ⟨x7, d7, hx7, m9, e9⟩ := drawn_ev (k := k) (c0 := c0) (sl := [some (.ref 0), some (.lst (ins.map .str)), some (.lst (outs.map .str)), some (.lst (s2.map .str)), none, some (.tup (ws.map pairD)), some (.lst (s4.map .str)), some (.tup (gs.map pairD)), some (.int (1 + ev)), some (.int ea)]) L (by omega) hx6 (is := [.non, .non, .non, .int 1, .int 2]) (by simp) (by simp) (E := (.cons (.cst .non) (.cons (.cst .non) (.cons (.cst .non) (.cons (.cst (.int 1)) (.cons (.cst (.int 2)) .nil)))))) (fun _ _ => rfl) rfl
  obtain ⟨mo, hmo, rfl⟩ : ∃ o : Option Int, (∀ m, o = some m → 0 ≤ m ∧ m ≤ 8) ∧ d7 = optD o := by
    simp at m9
    rcases m9 with rfl | rfl | rfl
    · exact ⟨none, (fun m h => by cases h), rfl⟩
    · exact ⟨some 1, (fun m h => by cases h; decide), rfl⟩
    · exact ⟨some 2, (fun m h => by cases h; decide), rfl⟩
  refine ⟨x7, ⟨1 + ev, ea, ws, gs, mo⟩, hx7, ⟨by show 1 ≤ 1 + ev; omega, by show 1 + ev ≤ 8; omega, hea, by show ea ≤ 8; omega, fun p hp => (m3 p hp).2, by show ws.length ≤ 3; omega, fun p hp => good_strOk (hi _ (m2 _ (m3 p hp).1)), fun p hp => ⟨(m6 p hp).2.1, (m6 p hp).2.2, m5 _ (m6 p hp).1⟩, by show gs.length ≤ 3; omega, hmo⟩, ?_⟩
  refine run_rt (d := Rl.d ⟨1 + ev, ea, ws, gs, mo⟩) (sl := [some (.ref 0), some (.lst (ins.map .str)), some (.lst (outs.map .str)), some (.lst (s2.map .str)), none, some (.tup (ws.map pairD)), some (.lst (s4.map .str)), some (.tup (gs.map pairD)), some (.int (1 + ev)), some (.int ea)]) (c' := .lst x7 :: c0) L.rule rfl ?_ gcD0
  show evSs (evF T k) P.b_l_rule [some (.ref 0), some (.lst (ins.map .str)), some (.lst (outs.map .str)), none, none, none, none, none, none, none] (.lst x :: c0) = _
  unfold P.b_l_rule
  refine step_nx (asg_ok e1 rfl) (step_nx (asg_ok e2 rfl) (step_nx (asg_ok e3 rfl) (step_nx (asg_ok e4 rfl) (step_nx (asg_ok e5 rfl) (step_nx (asg_ok e6 rfl) (step_nx (par_ok (bin_ok rfl e7 (bin_add _ _ _)) e8) (step_rt (ret_ok (tup_ok (ds := [.str "each", .int (1 + ev), .int ea, .tup (ws.map pairD), .tup (gs.map pairD), optD mo]) (args_cons rfl (args_cons (var_ok rfl) (args_cons (var_ok rfl) (args_cons (var_ok rfl) (args_cons (var_ok rfl) (args_cons e9 args_nil)))))) (by simp))))))))))
end
end Hv

set_option Elab.async false
set_option linter.all false
set_option maxRecDepth 100000
set_option maxHeartbeats 4000000
/-! HvY7: tables that don't heed the order; numbered anew. -/
namespace Hv
open PySem PySem.Spec PyProof.Rows L2

abbrev Rows := List (List (Nat × List Int))
def cell (rows : Rows) (s a : Nat) : Nat × List Int := (rows.getD s []).getD a (0, [])
def nxt (rows : Rows) (s a : Nat) : Nat := (cell rows s a).1
def out (rows : Rows) (s a : Nat) : List Int := (cell rows s a).2
def vadd (u v : List Int) : List Int := List.zipWith (· + ·) u v
inductive Reach (rows : Rows) (nl : Nat) : Nat → Prop
  | zero : Reach rows nl 0
  | step {s a : Nat} (h : Reach rows nl s) (hs : s < rows.length) (ha : a < nl) : Reach rows nl (nxt rows s a)
structure TabOk (rows : Rows) (nl no : Nat) : Prop where
  n1 : 1 ≤ rows.length
  shp : ∀ r ∈ rows, r.length = nl
  inr : ∀ r ∈ rows, ∀ p ∈ r, p.1 < rows.length ∧ p.2.length = no ∧ ∀ m ∈ p.2, 0 ≤ m ∧ m ≤ 999999
  rch : ∀ s, s < rows.length → Reach rows nl s
  com : ∀ s a b, s < rows.length → a < nl → b < nl → nxt rows (nxt rows s a) b = nxt rows (nxt rows s b) a ∧ vadd (out rows s a) (out rows (nxt rows s a) b) = vadd (out rows s b) (out rows (nxt rows s b) a)
theorem nodup_at {α : Type} {l : List α} (h : l.Nodup) {i j : Nat} {x : α} (h1 : l[i]? = some x) (h2 : l[j]? = some x) : i = j := (List.getElem?_inj (List.getElem?_eq_some_iff.mp h1).1 h).mp (h1.trans h2.symm)
theorem tcell_of {rows : Rows} {s a : Nat} {r : List (Nat × List Int)} {p : Nat × List Int} (h1 : rows[s]? = some r) (h2 : r[a]? = some p) : cell rows s a = p := by
  unfold cell
  rw [List.getD_eq_getElem?_getD, List.getD_eq_getElem?_getD, h1]
  show (r[a]?).getD (0, []) = p
  rw [h2]
  rfl
theorem TabOk.cell {rows : Rows} {nl no : Nat} (T : TabOk rows nl no) {s a : Nat} (hs : s < rows.length) (ha : a < nl) : ∃ r, rows[s]? = some r ∧ r[a]? = some (cell rows s a) ∧ nxt rows s a < rows.length ∧ (out rows s a).length = no ∧ ∀ m ∈ out rows s a, 0 ≤ m ∧ m ≤ 999999 := by
  have h1 : rows[s]? = some (rows[s]'hs) := List.getElem?_eq_getElem hs
  have hl := T.shp _ (List.mem_of_getElem? h1)
  have h2 : (rows[s]'hs)[a]? = some ((rows[s]'hs)[a]'(by omega)) := List.getElem?_eq_getElem (by omega)
  have hc := tcell_of h1 h2
  have := T.inr _ (List.mem_of_getElem? h1) _ (List.mem_of_getElem? h2)
  rw [← hc] at h2 this
  exact ⟨_, h1, h2, this⟩
/-! ### of rules -/
section
variable {rs : List Rl} {ins outs : List Str} {S : List (List Int)} {rows : Rows}
theorem raw_cell (hrow : ∀ t, t < S.length → RowAt rs ins outs S rows t) {s a : Nat} {here : List Int} {nm : Str} (hs : S[s]? = some here) (ha : ins[a]? = some nm) : cell rows s a = entry rs outs S here nm ∧ S[nxt rows s a]? = some (nxS rs here nm) := by
  obtain ⟨h1, h2⟩ := hrow s (List.getElem?_eq_some_iff.mp hs).1 here hs
  have hc : cell rows s a = entry rs outs S here nm := tcell_of h1 (by rw [List.getElem?_map, ha]; rfl)
  refine ⟨hc, ?_⟩
  unfold nxt
  rw [hc]
  exact idx_get (h2 nm (List.mem_of_getElem? ha))
theorem vadd_map (f g : Str → Int) : ∀ l : List Str, vadd (l.map f) (l.map g) = l.map fun o => f o + g o
  | [] => rfl
  | o :: l => by
    have := vadd_map f g l
    unfold vadd at this ⊢
    rw [List.map_cons, List.map_cons, List.zipWith_cons_cons, this]
    rfl
theorem raw_tab (hr : ∀ r ∈ rs, RlOk outs r) (hrl : rs.length ≤ 1000) (hS : SOk rs ins S) (hl : rows.length = S.length) (hrow : ∀ t, t < S.length → RowAt rs ins outs S rows t) : TabOk rows ins.length outs.length where
  n1 := by
    have := (List.getElem?_eq_some_iff.mp hS.s0).1
    omega
  shp r hr' := by
    obtain ⟨t, ht, rfl⟩ := List.mem_iff_getElem.mp hr'
    have h1 : S[t]? = some (S[t]'(by omega)) := List.getElem?_eq_getElem (by omega)
    obtain ⟨h2, _⟩ := hrow t (by omega) _ h1
    rw [List.getElem?_eq_getElem ht] at h2
    rw [Option.some.inj h2, List.length_map]
  inr r hr' p hp := by
    obtain ⟨t, ht, rfl⟩ := List.mem_iff_getElem.mp hr'
    have h1 : S[t]? = some (S[t]'(by omega)) := List.getElem?_eq_getElem (by omega)
    obtain ⟨h2, h3⟩ := hrow t (by omega) _ h1
    rw [List.getElem?_eq_getElem ht] at h2
    rw [Option.some.inj h2] at hp
    obtain ⟨nm, hnm, rfl⟩ := List.mem_map.mp hp
    refine ⟨?_, by simp [entry, gainV], fun m hm => ?_⟩
    · rw [hl]
      exact (List.getElem?_eq_some_iff.mp (idx_get (h3 nm hnm))).1
    · obtain ⟨o, _, rfl⟩ := List.mem_map.mp (show m ∈ outs.map _ from hm)
      have := gAt_rng (outs := outs) nm o rs (S[t]'(by omega)) hr (fun x hx => (hS.nn _ (List.mem_of_getElem? h1) x hx).1)
      omega
  rch s hs := by
    induction s using Nat.strongRecOn with
    | ind s ih =>
      by_cases h0 : s = 0
      · rw [h0]; exact .zero
      · have h1 : S[s]? = some (S[s]'(by omega)) := List.getElem?_eq_getElem (by omega)
        obtain ⟨t, ht, here, h2, nm, hnm, h3⟩ := hS.rch s _ h1 h0
        obtain ⟨a, ha, ha2⟩ := List.mem_iff_getElem.mp hnm
        have ha' : ins[a]? = some nm := by rw [List.getElem?_eq_getElem ha, ha2]
        obtain ⟨_, h5⟩ := raw_cell hrow h2 ha'
        rw [← h3] at h5
        have h6 : nxt rows t a = s := nodup_at hS.nd h5 h1
        rw [← h6]
        exact .step (ih t ht (by omega)) (by omega) ha
  com s a b hs ha hb := by
    have h1 : S[s]? = some (S[s]'(by omega)) := List.getElem?_eq_getElem (by omega)
    generalize S[s]'(by omega) = here at h1
    have ha' : ins[a]? = some ins[a] := List.getElem?_eq_getElem ha
    have hb' : ins[b]? = some ins[b] := List.getElem?_eq_getElem hb
    generalize ins[a] = na at ha'
    generalize ins[b] = nb at hb'
    have hn := fun x hx => (hS.nn here (List.mem_of_getElem? h1) x hx).1
    obtain ⟨c1, p1⟩ := raw_cell hrow h1 ha'
    obtain ⟨c2, p2⟩ := raw_cell hrow h1 hb'
    obtain ⟨c3, p3⟩ := raw_cell hrow p1 hb'
    obtain ⟨c4, p4⟩ := raw_cell hrow p2 ha'
    have hc := next_comm na nb rs here hr hn
    rw [hc] at p3
    refine ⟨nodup_at hS.nd p3 p4, ?_⟩
    have o1 : out rows s a = outs.map (gAt rs here (risen na rs here)) := congrArg (·.2) c1
    have o2 : out rows s b = outs.map (gAt rs here (risen nb rs here)) := congrArg (·.2) c2
    have o3 : out rows (nxt rows s a) b = outs.map (gAt rs (nxS rs here na) (risen nb rs (nxS rs here na))) := congrArg (·.2) c3
    have o4 : out rows (nxt rows s b) a = outs.map (gAt rs (nxS rs here nb) (risen na rs (nxS rs here nb))) := congrArg (·.2) c4
    rw [o1, o2, o3, o4, vadd_map, vadd_map]
    exact List.map_congr_left fun o _ => gain_comm na nb o rs here hr hn
end
/-! ### numbered anew -/
def renum (rows : Rows) (order : List Nat) : Rows := order.map fun o => (rows.getD o []).map fun p => (order.idxOf p.1, p.2)
section
variable {rows : Rows} {nl no : Nat} {order : List Nat}
theorem renum_cell (T : TabOk rows nl no) (hp : order.Perm (List.range rows.length)) {s o a : Nat} (hs : order[s]? = some o) (ha : a < nl) : cell (renum rows order) s a = (order.idxOf (nxt rows o a), out rows o a) := by
  have ho : o < rows.length := List.mem_range.mp (hp.mem_iff.mp (List.mem_of_getElem? hs))
  obtain ⟨r, h1, h2, _⟩ := T.cell ho ha
  have h3 : (renum rows order)[s]? = some (r.map fun p => (order.idxOf p.1, p.2)) := by
    unfold renum
    rw [List.getElem?_map, hs]
    show some ((rows.getD o []).map _) = _
    rw [List.getD_eq_getElem?_getD, h1]
    rfl
  exact tcell_of h3 (by rw [List.getElem?_map, h2]; rfl)
theorem renum_tab (T : TabOk rows nl no) (hp : order.Perm (List.range rows.length)) (h0 : order[0]? = some 0) : TabOk (renum rows order) nl no := by
  have hlen : (renum rows order).length = rows.length := by rw [renum, List.length_map, hp.length_eq, List.length_range]
  have hol : order.length = rows.length := by rw [hp.length_eq, List.length_range]
  have hnd : order.Nodup := hp.nodup_iff.mpr List.nodup_range
  have hmem : ∀ t, t < rows.length → t ∈ order := fun t ht => hp.mem_iff.mpr (List.mem_range.mpr ht)
  have hpos : ∀ t, t < rows.length → order[order.idxOf t]? = some t := fun t ht => idx_get (hmem t ht)
  have hor : ∀ s o, order[s]? = some o → o < rows.length := fun s o h => List.mem_range.mp (hp.mem_iff.mp (List.mem_of_getElem? h))
  refine ⟨by rw [hlen]; exact T.n1, fun r hr => ?_, fun r hr p hpr => ?_, fun s hs => ?_, fun s a b hs ha hb => ?_⟩
  · obtain ⟨o, ho, rfl⟩ := List.mem_map.mp hr
    have ho := List.mem_range.mp (hp.mem_iff.mp ho)
    rw [List.length_map, List.getD_eq_getElem?_getD, List.getElem?_eq_getElem ho]
    exact T.shp _ (List.getElem_mem ho)
  · obtain ⟨o, ho, rfl⟩ := List.mem_map.mp hr
    have ho := List.mem_range.mp (hp.mem_iff.mp ho)
    obtain ⟨q, hq, rfl⟩ := List.mem_map.mp hpr
    rw [List.getD_eq_getElem?_getD, List.getElem?_eq_getElem ho] at hq
    obtain ⟨h1, h2⟩ := T.inr _ (List.getElem_mem ho) q hq
    refine ⟨?_, h2⟩
    rw [hlen, ← hol]
    exact (List.getElem?_eq_some_iff.mp (hpos _ h1)).1
  · have key : ∀ t, Reach rows nl t → t < rows.length → Reach (renum rows order) nl (order.idxOf t) := fun t ht => by
      induction ht with
      | zero =>
        intro h
        have : order.idxOf 0 = 0 := nodup_at hnd (hpos 0 h) h0
        rw [this]
        exact .zero
      | @step s a h hs ha ih =>
        intro _
        have := renum_cell T hp (hpos s hs) ha
        have e : nxt (renum rows order) (order.idxOf s) a = order.idxOf (nxt rows s a) := congrArg (·.1) this
        rw [← e]
        exact .step (ih hs) (by rw [hlen, ← hol]; exact (List.getElem?_eq_some_iff.mp (hpos s hs)).1) ha
    rw [hlen] at hs
    have h1 : order[s]? = some (order[s]'(by omega)) := List.getElem?_eq_getElem (by omega)
    have h2 := hor _ _ h1
    have h3 := key _ (T.rch _ h2) h2
    rw [nodup_at hnd (hpos _ h2) h1] at h3
    exact h3
  · rw [hlen] at hs
    have h1 : order[s]? = some (order[s]'(by omega)) := List.getElem?_eq_getElem (by omega)
    generalize order[s]'(by omega) = o at h1
    have ho := hor _ _ h1
    obtain ⟨_, _, _, ta, _⟩ := T.cell ho ha
    obtain ⟨_, _, _, tb, _⟩ := T.cell ho hb
    have ca := renum_cell T hp h1 ha
    have cb := renum_cell T hp h1 hb
    have cab := renum_cell T hp (hpos _ ta) hb
    have cba := renum_cell T hp (hpos _ tb) ha
    obtain ⟨q1, q2⟩ := T.com o a b ho ha hb
    have ea : nxt (renum rows order) s a = order.idxOf (nxt rows o a) := congrArg (·.1) ca
    have eb : nxt (renum rows order) s b = order.idxOf (nxt rows o b) := congrArg (·.1) cb
    rw [ea, eb]
    refine ⟨?_, ?_⟩
    · show (cell _ _ _).1 = (cell _ _ _).1
      rw [cab, cba, q1]
    · have oa : out (renum rows order) s a = out rows o a := congrArg (·.2) ca
      have ob : out (renum rows order) s b = out rows o b := congrArg (·.2) cb
      rw [oa, ob]
      show vadd _ (cell _ _ _).2 = vadd _ (cell _ _ _).2
      rw [cab, cba]
      exact q2
end
end Hv

set_option Elab.async false
set_option linter.all false
set_option maxRecDepth 100000
set_option maxHeartbeats 4000000
/-! HvY8: drawn machines' tables. -/
namespace Hv
open PySem PySem.Spec PyProof.Rows L2

theorem perm_inv {α : Type} (e : α → D) (g : D → α) (h : ∀ a, g (e a) = a) {ys : List D} {l : List α} (hp : ys.Perm (l.map e)) : ∃ os : List α, os.Perm l ∧ ys = os.map e := by
  refine ⟨ys.map g, ?_, ?_⟩
  · have := hp.map g
    rw [List.map_map] at this
    have e1 : l.map (g ∘ e) = l := (List.map_congr_left (g := id) fun a _ => h a).trans (List.map_id l)
    rw [e1] at this
    exact this
  · rw [List.map_map]
    refine ((List.map_congr_left (g := id) fun y hy => ?_).trans (List.map_id ys)).symm
    obtain ⟨a, _, rfl⟩ := List.mem_map.mp (hp.mem_iff.mp hy)
    show e (g (e a)) = e a
    rw [h]
def natD (n : Nat) : D := .int (n : Int)
theorem cod_nat : Cod natD (fun n : Nat => PyData.int (n : Int)) 0 (fun _ => True) where
  to k c a _ _ := by cases k <;> rfl
  eqv a b _ _ := by
    rw [PyData.eqv]
    by_cases h : a = b
    · simp [h]
    · simp [h]
      omega
  lay a _ := rfl
  dep a _ := by rw [PyData.depth]; exact Nat.le_refl _
theorem cat_lst {xs ys : List D} {c : Ct} (h : xs.length + ys.length ≤ 100000) : binD false .add (.lst xs) (.lst ys) c = .ok (.lst (xs ++ ys)) c := by
  have e : binD false .add (.lst xs) (.lst ys) c = if BOp.add = BOp.add then catD false (.lst xs) (.lst ys) c else .stuck := rfl
  rw [e, if_pos rfl]
  unfold catD lstD
  dsimp only
  rw [if_pos h]
  rfl
theorem lrng_ok {n : Nat} {c : Ct} (h0 : 1 ≤ n) (h : n ≤ 10000) : lrngK false [.int 1, .int (n : Int)] c = .ok (.lst ((List.range' 1 (n - 1)).map natD)) c := by
  unfold lrngK
  dsimp only
  rw [if_pos ⟨by omega, by omega, by omega, by omega⟩]
  have e : ((n : Int) - 1).toNat = n - 1 := by omega
  have e2 : rngD 1 (n - 1) = (List.range' 1 (n - 1)).map natD := by
    rw [List.range'_eq_map_range, List.map_map]
    unfold rngD
    refine List.map_congr_left fun i _ => ?_
    show D.int (1 + (i : Int)) = D.int ((1 + i : Nat) : Int)
    rw [Int.natCast_add]
    rfl
  rw [e, e2]
  rfl
theorem cutm1 (xs : List D) : cutD xs none (some (-1)) = xs.dropLast := by
  unfold cutD HT.sIx
  simp only
  rw [if_pos (by decide), List.drop_zero, List.dropLast_eq_take]
  congr 1
  omega
section
variable {T : Tab} {k : Nat} {x : List D} {c0 : Ct} {nl no : Nat}
set_option maxHeartbeats 16000000 in
theorem renum_ok (L : Lib T) (hk : 3 ≤ k) (hx : Dl x) {rows : Rows} (hT : TabOk rows nl no) (hn : rows.length ≤ 800) (hnl : nl ≤ 100) :
    ∃ (x' : List D) (rows' : Rows), Dl x' ∧ TabOk rows' nl no ∧ rows'.length = rows.length ∧ evF T k P.i_l_renumbered [.ref 0, dRows rows] (.lst x :: c0) = .ok (dRows rows') (.lst x' :: c0) := by
  obtain ⟨k, rfl⟩ : ∃ j, k = j + 1 := ⟨k - 1, by omega⟩
  have hn1 := hT.n1
  obtain ⟨x1, ys, hx1, hp, e1⟩ := shuffled_ok (k := k) (c0 := c0) L (by omega) hx (ds := (List.range' 1 (rows.length - 1)).map natD) (rLts_all fun d hd => by
    obtain ⟨i, _, rfl⟩ := List.mem_map.mp hd
    unfold natD
    rw [rLt]) (by simp; omega)
  obtain ⟨os, ho, rfl⟩ := perm_inv natD (fun d => match d with | .int i => i.toNat | _ => 0) (fun a => by show (a : Int).toNat = a; omega) hp
  have hord : (0 :: os).Perm (List.range rows.length) := by
    have e : List.range rows.length = 0 :: List.range' 1 (rows.length - 1) := by
      rw [List.range_eq_range', show rows.length = (rows.length - 1) + 1 by omega, List.range'_succ]
      simp
    rw [e]
    exact ho.cons 0
  have hol : os.length = rows.length - 1 := by rw [ho.length_eq, List.length_range']
  have hrt := renum_tab hT hord rfl
  refine ⟨x1, renum rows (0 :: os), hx1, hrt, by rw [renum, List.length_map, hord.length_eq, List.length_range], ?_⟩
  refine run_rt (d := dRows (renum rows (0 :: os))) (sl := [some (.ref 0), some (dRows rows), some (.lst ((0 :: os).map natD)), none, none, none]) (c' := .lst x1 :: c0) L.renumbered rfl ?_ gcD0
  show evSs (evF T k) P.b_l_renumbered [some (.ref 0), some (dRows rows), none, none, none, none] (.lst x :: c0) = _
  unfold P.b_l_renumbered
  refine step_nx (sl' := [some (.ref 0), some (dRows rows), some (.lst ((0 :: os).map natD)), none, none, none]) (c' := .lst x1 :: c0) (asg_ok (d := .lst ((0 :: os).map natD)) (bin_ok (x := .lst [.int 0]) (y := .lst (os.map natD)) (c1 := .lst x :: c0) (lstf_ok (args_cons rfl args_nil) (by simp)) (call_ok (ds := [.ref 0, .lst ((List.range' 1 (rows.length - 1)).map natD)]) (c1 := .lst x :: c0) (args_cons (var_ok rfl) (args_cons ?_ args_nil)) args_nil rfl e1) (cat_lst (by simp; omega))) rfl) ?_
  · have hl : evM (evF T k) false (.blt .len (.cons (.var 1) .nil)) [some (.ref 0), some (dRows rows), none, none, none, none] (.lst x :: c0) = .ok (.int (rows.length : Int)) (.lst x :: c0) := blt_ok (args_cons (var_ok rfl) args_nil) (by unfold dRows; rw [len_lst, List.length_map])
    rw [evM, tst_f]
    show bnd (Res.ok (D.int 1) _) _ = _
    rw [bnd_ok, hl, bnd_ok, lrng_ok hn1 (by omega)]
  · have e : dRows (renum rows (0 :: os)) = .lst ((0 :: os).map fun o => dR ((rows.getD o []).map fun p => ((0 :: os).idxOf p.1, p.2))) := by
      unfold dRows renum
      rw [List.map_map]
      rfl
    rw [e]
    refine step_rt (ret_ok (compf_ok (its := (0 :: os).map natD) (seq_ok (var_ok rfl) rfl) (compR_lst natD _ _ fun o ho' => ⟨[some (.ref 0), some (dRows rows), some (.lst ((0 :: os).map natD)), none, none, some (natD o)], rfl, true_ok, ?_⟩) (by simp; omega)))
    have hor : o < rows.length := List.mem_range.mp (hord.mem_iff.mp ho')
    have h1 : rows[o]? = some (rows[o]'hor) := List.getElem?_eq_getElem hor
    have hg : rows.getD o [] = rows[o]'hor := by rw [List.getD_eq_getElem?_getD, h1]; rfl
    rw [hg]
    have hrm := List.mem_of_getElem? h1
    have hsh := hT.shp _ hrm
    have hin := hT.inr _ hrm
    generalize rows[o]'hor = r at h1 hsh hin
    have e2 : dR (r.map fun p => ((0 :: os).idxOf p.1, p.2)) = .lst (r.map fun p => dE ((0 :: os).idxOf p.1, p.2)) := by
      unfold dR
      rw [List.map_map]
      rfl
    rw [e2]
    refine compf_ok (its := r.map dE) (seq_ok (d := dR r) (idx_ok (var_ok rfl) (var_ok rfl) (idx_nat (xs := rows.map dR) rfl (by omega) ?_)) rfl) (compR_lst dE _ _ fun p hp' => ⟨[some (.ref 0), some (dRows rows), some (.lst ((0 :: os).map natD)), some (natD p.1), some (.tup (p.2.map .int)), some (natD o)], rfl, true_ok, ?_⟩) (by simp; omega)
    · rw [Int.toNat_natCast, List.getElem?_map, h1]
      rfl
    · refine tup_ok (ds := [.int (((0 :: os).idxOf p.1 : Nat) : Int), .tup (p.2.map .int)]) (args_cons (bm_ok (x := .lst ((0 :: os).map natD)) (ds := [natD p.1]) (var_ok rfl) rfl (args_cons (var_ok rfl) args_nil) ?_) (args_cons (var_ok rfl) args_nil)) (by simp)
      exact cod_nat.index (by decide) (.inl rfl) trivial (fun _ _ => trivial) (hord.mem_iff.mpr (List.mem_range.mpr (hin p hp').1))
end
end Hv

set_option Elab.async false
set_option linter.all false
set_option maxRecDepth 100000
set_option maxHeartbeats 4000000
/-! HvY9: drawn machines. -/
namespace Hv
open PySem PySem.Spec PyProof.Rows L2

/-! ### rules as data -/
def pairP (p : Str × Int) : PyData := .tuple [.str p.1, .int p.2]
def optP : Option Int → PyData
  | none => .none
  | some i => .int i
def pR (r : Rl) : PyData := .tuple [.str "each", .int r.e, .int r.a, .tuple (r.ws.map pairP), .tuple (r.gs.map pairP), optP r.m]
theorem cod_pairs : Cod (fun l : List (Str × Int) => D.tup (l.map pairD)) (fun l => PyData.tuple (l.map pairP)) 2 (fun l => ∀ p ∈ l, PyData.strOk p.1 = true) :=
  (cod_str.pair cod_int).tup.weak (fun l h p hp => ⟨h p hp, trivial⟩) (by decide)
section
variable {outs : List Str}
theorem toP_rl {r : Rl} (hr : RlOk outs r) (ho : ∀ s ∈ outs, PyData.strOk s = true) (c : Ct) : toP 8 r.d c = some (pR r) := by
  have h1 := cod_pairs.to 7 c r.ws (by decide) hr.wn
  have h2 := cod_pairs.to 7 c r.gs (by decide) fun p hp => ho _ (hr.gs p hp).2.2
  have h3 : toP 7 (optD r.m) c = some (optP r.m) := by cases r.m <;> rfl
  unfold Rl.d
  rw [toP]
  simp only [mapO]
  rw [h1, h2, h3]
  rfl
theorem rl_lay {r : Rl} (hr : RlOk outs r) (ho : ∀ s ∈ outs, PyData.strOk s = true) : (pR r).canLay0 = true ∧ (pR r).depth ≤ 3 := by
  have h1 := cod_pairs.lay r.ws hr.wn
  have h2 := cod_pairs.lay r.gs fun p hp => ho _ (hr.gs p hp).2.2
  have d1 := cod_pairs.dep r.ws hr.wn
  have d2 := cod_pairs.dep r.gs fun p hp => ho _ (hr.gs p hp).2.2
  have h3 : (optP r.m).canLay0 = true ∧ (optP r.m).depth = 0 := by
    cases r.m with
    | none => exact ⟨rfl, by unfold optP; rw [PyData.depth]⟩
    | some i => exact ⟨rfl, by unfold optP; rw [PyData.depth]⟩
  have h4 : PyData.strOk "each" = true := by decide +kernel
  constructor
  · unfold pR
    simp only [PyData.canLay0, PyData.canLayAll0] at h1 h2 ⊢
    rw [h1, h2, h3.1, h4]
    rfl
  · unfold pR
    rw [PyData.depth]
    simp only [PyData.depthAll]
    have z1 : (PyData.str "each").depth = 0 := by rw [PyData.depth]
    have z2 : (PyData.int r.e).depth = 0 := by rw [PyData.depth]
    have z3 : (PyData.int r.a).depth = 0 := by rw [PyData.depth]
    omega
theorem rules_nil {rs : List Rl} (hr : ∀ r ∈ rs, RlOk outs r) (ho : ∀ s ∈ outs, PyData.strOk s = true) (c : Ct) : cmpD .eq (.lst (rs.map Rl.d)) (.lst []) c = .ok (.bl (decide (rs.length = 0))) c := by
  have h1 : toP 9 (.lst (rs.map Rl.d)) c = some (.list (rs.map pR)) := by
    rw [toP, mapO_map _ Rl.d pR rs fun r h => toP_rl (hr r h) ho c]
    rfl
  have h2 : toP 9 (.lst []) c = some (.list []) := rfl
  have s1 : SeqAt.shaped (.list (rs.map pR)) = true := by
    unfold SeqAt.shaped
    rw [PyData.canLay0, layAll_map rs fun r h => (rl_lay (hr r h) ho).1, Bool.true_and]
    refine decide_eq_true ?_
    rw [PyData.depth]
    have := depAll_map rs fun r h => (rl_lay (hr r h) ho).2
    omega
  have s2 : SeqAt.shaped (.list []) = true := by decide +kernel
  have hd : deepD (.lst (rs.map Rl.d)) (.lst []) c = some (PyData.eqv (.list (rs.map pR)) (.list [])) := by
    unfold deepD
    rw [h1, h2]
    simp only
    rw [if_pos ⟨s1, s2⟩]
  show bO (orO (eqD (.lst (rs.map Rl.d)) (.lst [])) (deepD (.lst (rs.map Rl.d)) (.lst []) c)) c = _
  have h0 : eqD (.lst (rs.map Rl.d)) (.lst []) = none := rfl
  rw [h0, hd, PyData.eqv]
  cases rs with
  | nil => rfl
  | cons r rs =>
    rw [List.map_cons, PyData.eqvAll]
    rfl
end
theorem orT_ok {call : CallF} {a b : IE} {sl : Sl} {c c1 : Ct} {v : Bool} {X : Res Bool} (h : evT call a sl c = .ok v c1) (h2 : (if v = true then .ok true c1 else evT call b sl c1) = X) : evT call (.or a b) sl c = X := by
  show bnd (evM call true (.or a b) sl c) bolK = _
  rw [evM, bol_or (b := .stuck)]
  show bnd (evT call a sl c) _ = _
  rw [h, bnd_ok]
  exact h2
def dDev (ins outs : List Str) (rows : Rows) : D := .dct [(.str "ins", .lst (ins.map .str)), (.str "outs", .lst (outs.map .str)), (.str "rows", dRows rows)]
section
variable {T : Tab} {k : Nat} {x : List D} {c0 : Ct} {ins outs : List Str} {most : Nat}
theorem raw_res (L : Lib T) (hk : 3 ≤ k) {rs : List Rl} (hr : ∀ r ∈ rs, RlOk outs r) (hrl : rs.length ≤ 100) (ho : NamesOk outs) (hol : outs.length ≤ 100) (hil : ins.length ≤ 100) (hm1 : 1 ≤ most) (hm2 : most ≤ 800) (c : Ct) :
    (∃ rows, TabOk rows ins.length outs.length ∧ rows.length ≤ most ∧ evF T k P.i_l_raw [.lst (rs.map Rl.d), .lst (ins.map .str), .lst (outs.map .str), .int (most : Int)] c = .ok (dRows rows) c) ∨
    (rs ≠ [] ∧ evF T k P.i_l_raw [.lst (rs.map Rl.d), .lst (ins.map .str), .lst (outs.map .str), .int (most : Int)] c = .ok .non c) := by
  rcases raw_ok (c := c) (ins := ins) L hk hr hrl ho hol hil hm1 hm2 with ⟨S, rows, hS, hl, hrow, hm, e⟩ | ⟨S, hS, hm, e⟩
  · exact .inl ⟨rows, raw_tab hr (by omega) hS hl hrow, by omega, e⟩
  · refine .inr ⟨fun h => ?_, e⟩
    subst h
    have h0 : S[0]? = some (S[0]'(by omega)) := List.getElem?_eq_getElem (by omega)
    have h1 : S[1]? = some (S[1]'(by omega)) := List.getElem?_eq_getElem (by omega)
    have e0 := List.eq_nil_of_length_eq_zero (hS.len _ (List.mem_of_getElem? h0))
    have e1 := List.eq_nil_of_length_eq_zero (hS.len _ (List.mem_of_getElem? h1))
    rw [e0] at h0
    rw [e1] at h1
    exact absurd (nodup_at hS.nd h0 h1) (by decide)
set_option maxHeartbeats 16000000 in
theorem device_ok (L : Lib T) (hk : 4 ≤ k) (hx : Dl x) (hi : NamesOk ins) (hi3 : ins.length ≤ 3) (ho : NamesOk outs) (ho3 : outs.length ≤ 3) (hm1 : 1 ≤ most) (hm2 : most ≤ 800) :
    ∃ (x' : List D) (rows : Rows), Dl x' ∧ TabOk rows ins.length outs.length ∧ rows.length ≤ most ∧ evF T k P.i_l_device [.ref 0, .lst (ins.map .str), .lst (outs.map .str), .int (most : Int)] (.lst x :: c0) = .ok (dDev ins outs rows) (.lst x' :: c0) := by
  obtain ⟨k, rfl⟩ : ∃ j, k = j + 1 := ⟨k - 1, by omega⟩
  have hos : ∀ s ∈ outs, PyData.strOk s = true := fun s h => good_strOk (ho.2 s h)
  -- the rules
  obtain ⟨x1, rs1, hx1, hr1, hl1, e1⟩ : ∃ (x1 : List D) (rs1 : List Rl), Dl x1 ∧ (∀ r ∈ rs1, RlOk outs r) ∧ rs1.length ≤ 3 ∧ evM (evF T k) false (.ifx (.cmp .ne (.var 2) (.lst false .nil)) (.comp false [5] (.nm 5) (.rng1 (.bin false .add (.cst (.int 1)) (.call false 10 [] [.arg 0, .arg 1] (.cons (.var 0) (.cons (.cst (.int 3)) .nil)) .nil))) (.cst (.bl true)) (.call false 17 [] [.arg 0, .arg 1, .arg 2] (.cons (.var 0) (.cons (.var 1) (.cons (.var 2) .nil))) .nil)) (.lst false .nil)) [some (.ref 0), some (.lst (ins.map .str)), some (.lst (outs.map .str)), some (.int (most : Int)), none, none, none, none, none] (.lst x :: c0) = .ok (.lst (rs1.map Rl.d)) (.lst x1 :: c0) := by
    have hq := cod_str.lst.ne (by decide) (a := outs) (b := []) (fun s h => hos s h) (fun s h => by cases h) rfl (.lst x :: c0)
    have hq2 : evT (evF T k) (.cmp .ne (.var 2) (.lst false .nil)) [some (.ref 0), some (.lst (ins.map .str)), some (.lst (outs.map .str)), some (.int (most : Int)), none, none, none, none, none] (.lst x :: c0) = .ok (!decide (outs = [])) (.lst x :: c0) := cmpT_ok (var_ok rfl) (lstf_ok args_nil (by simp)) hq
    by_cases h : outs = []
    · rw [decide_eq_true h] at hq2
      exact ⟨x, [], hx, fun r h => (by cases h), by simp, ifx_f hq2 (lstf_ok args_nil (by simp))⟩
    · rw [decide_eq_false h] at hq2
      obtain ⟨x1, v, hx1, hv0, hv1, ev⟩ := pick0 (k := k) (c0 := c0) L (by omega) hx (m := 3) (by omega) (by omega)
      obtain ⟨v, rfl⟩ : ∃ j : Nat, v = j := ⟨v.toNat, by omega⟩
      obtain ⟨rs, c', h1, ⟨x2, hx2, rfl⟩, h3, h4⟩ := compR_lstS (tg := asT (.nm 5)) (q := fun sl c => bnd (evM (evF T k) true (.cst (.bl true)) sl c) bolK) (f := evM (evF T k) false (.call false 17 [] [.arg 0, .arg 1, .arg 2] (.cons (.var 0) (.cons (.var 1) (.cons (.var 2) .nil))) .nil)) (sl := [some (.ref 0), some (.lst (ins.map .str)), some (.lst (outs.map .str)), some (.int (most : Int)), none, none, none, none, none]) (fun c => ∃ x, Dl x ∧ c = .lst x :: c0) (fun (_ : Nat) (r : Rl) => RlOk outs r) (fun (i : Nat) => D.int (i : Int)) Rl.d (List.range (1 + v)) (fun i _ c hI => by
        obtain ⟨x, hx, rfl⟩ := hI
        obtain ⟨x', r, hx', hr, e⟩ := rule_ok (k := k) (c0 := c0) L (by omega) hx hi.2 ho.2 hi3 ho3
        exact ⟨[some (.ref 0), some (.lst (ins.map .str)), some (.lst (outs.map .str)), some (.int (most : Int)), none, some (.int (i : Int)), none, none, none], .lst x :: c0, r, .lst x' :: c0, rfl, true_ok, call_ok (ds := [.ref 0, .lst (ins.map .str), .lst (outs.map .str)]) (args_cons (var_ok rfl) (args_cons (var_ok rfl) (args_cons (var_ok rfl) args_nil))) args_nil rfl e, ⟨x', hx', rfl⟩, hr⟩) (.lst x1 :: c0) ⟨x1, hx1, rfl⟩
      rw [List.length_range] at h3
      refine ⟨x2, rs, hx2, fun r hr => ?_, by omega, ifx_t hq2 (compf_ok (rng1_ok (n := 1 + v) (bin_ok rfl (call_ok (ds := [.ref 0, .int 3]) (args_cons (var_ok rfl) (args_cons rfl args_nil)) args_nil rfl ev) ?_) (by omega)) h1 (by simp; omega))⟩
      · obtain ⟨_, _, h⟩ := h4 r hr
        exact h
      · show binD false .add (.int 1) (.int (v : Int)) _ = _
        rw [bin_add, Int.natCast_add]
        rfl
  -- the ring
  obtain ⟨x2, v2, hx2, hv2, hv2', e2⟩ := pick0 (k := k) (c0 := c0) L (by omega) hx1 (m := 4) (by omega) (by omega)
  obtain ⟨x3, v3, hx3, hv3, hv3', e3⟩ := pick0 (k := k) (c0 := c0) L (by omega) hx2 (m := 2) (by omega) (by omega)
  obtain ⟨si, hsi, hso⟩ := sort_strs (c := .lst x3 :: c0) (ss := ins) (by omega)
  have hring : RlOk outs ⟨1 + v2, v3, si.map fun s => (s, 1), [], none⟩ := by
    refine ⟨by show 1 ≤ 1 + v2; omega, by show 1 + v2 ≤ 8; omega, hv3, by show v3 ≤ 8; omega, fun p hp => ?_, ?_, fun p hp => ?_, fun p hp => (by cases hp), by simp, fun m h => (by cases h)⟩
    · obtain ⟨s, _, rfl⟩ := List.mem_map.mp hp
      exact ⟨by show (0 : Int) ≤ 1; decide, by show (1 : Int) ≤ 3; decide⟩
    · show (si.map _).length ≤ 3
      rw [List.length_map, hsi.length_eq]
      exact hi3
    · obtain ⟨s, hs, rfl⟩ := List.mem_map.mp hp
      exact good_strOk (hi.2 s (hsi.mem_iff.mp hs))
  generalize hrg : (⟨1 + v2, v3, si.map fun s => (s, 1), [], none⟩ : Rl) = rg at hring
  have hrd : rg.d = .tup [.str "each", .int (1 + v2), .int v3, .tup (si.map fun s => D.tup [.str s, .int 1]), .tup [], .non] := by
    rw [← hrg]
    unfold Rl.d
    simp only [List.map_map]
    rfl
  obtain ⟨x4, v4, hx4, hv4, hv4', e4⟩ := pick0 (k := k) (c0 := c0) L (by omega) hx3 (m := 3) (by omega) (by omega)
  -- with the ring
  obtain ⟨rs2, hr2, hl2, e5⟩ : ∃ rs2 : List Rl, (∀ r ∈ rs2, RlOk outs r) ∧ rs2.length ≤ 4 ∧ evS (evF T k) (.ifs (.or (.cmp .eq (.call false 10 [] [.arg 0, .arg 1] (.cons (.var 0) (.cons (.cst (.int 3)) .nil)) .nil) (.cst (.int 0))) (.cmp .eq (.var 4) (.lst false .nil))) (.cons (.asg (.nm 4) (.bin false .add (.lst false (.cons (.var 6) .nil)) (.var 4))) .nil) .nil) [some (.ref 0), some (.lst (ins.map .str)), some (.lst (outs.map .str)), some (.int (most : Int)), some (.lst (rs1.map Rl.d)), none, some rg.d, none, none] (.lst x3 :: c0) = .ok (.nx [some (.ref 0), some (.lst (ins.map .str)), some (.lst (outs.map .str)), some (.int (most : Int)), some (.lst (rs2.map Rl.d)), none, some rg.d, none, none]) (.lst x4 :: c0) := by
    have q1 : evT (evF T k) (.cmp .eq (.call false 10 [] [.arg 0, .arg 1] (.cons (.var 0) (.cons (.cst (.int 3)) .nil)) .nil) (.cst (.int 0))) [some (.ref 0), some (.lst (ins.map .str)), some (.lst (outs.map .str)), some (.int (most : Int)), some (.lst (rs1.map Rl.d)), none, some rg.d, none, none] (.lst x3 :: c0) = .ok (decide (v4 = 0)) (.lst x4 :: c0) := cmpT_ok (call_ok (ds := [.ref 0, .int 3]) (args_cons (var_ok rfl) (args_cons rfl args_nil)) args_nil rfl e4) rfl (cmp_eqI _ _ _)
    have q2 : evT (evF T k) (.cmp .eq (.var 4) (.lst false .nil)) [some (.ref 0), some (.lst (ins.map .str)), some (.lst (outs.map .str)), some (.int (most : Int)), some (.lst (rs1.map Rl.d)), none, some rg.d, none, none] (.lst x4 :: c0) = .ok (decide (rs1.length = 0)) (.lst x4 :: c0) := cmpT_ok (var_ok rfl) (lstf_ok args_nil (by simp)) (rules_nil hr1 hos _)
    have yes : evSs (evF T k) (.cons (.asg (.nm 4) (.bin false .add (.lst false (.cons (.var 6) .nil)) (.var 4))) .nil) [some (.ref 0), some (.lst (ins.map .str)), some (.lst (outs.map .str)), some (.int (most : Int)), some (.lst (rs1.map Rl.d)), none, some rg.d, none, none] (.lst x4 :: c0) = .ok (.nx [some (.ref 0), some (.lst (ins.map .str)), some (.lst (outs.map .str)), some (.int (most : Int)), some (.lst ((rg :: rs1).map Rl.d)), none, some rg.d, none, none]) (.lst x4 :: c0) :=
      step_nx (asg_ok (d := .lst ((rg :: rs1).map Rl.d)) (bin_ok (lstf_ok (args_cons (var_ok rfl) args_nil) (by simp)) (var_ok rfl) (cat_lst (by simp; omega))) rfl) nil_ok
    have yok : ∀ r ∈ rg :: rs1, RlOk outs r := fun r hr => by
      rcases List.mem_cons.mp hr with z | z
      · rw [z]; exact hring
      · exact hr1 r z
    by_cases h4 : v4 = 0
    · rw [decide_eq_true h4] at q1
      exact ⟨rg :: rs1, yok, by simp; omega, if_t (orT_ok q1 rfl) yes⟩
    · rw [decide_eq_false h4] at q1
      by_cases h5 : rs1.length = 0
      · rw [decide_eq_true h5] at q2
        exact ⟨rg :: rs1, yok, by simp; omega, if_t (orT_ok q1 (by rw [if_neg (by decide)]; exact q2)) yes⟩
      · rw [decide_eq_false h5] at q2
        exact ⟨rs1, hr1, by omega, if_f (orT_ok q1 (by rw [if_neg (by decide)]; exact q2)) nil_ok⟩
  -- the search, of fewer rules where there are too many stands
  have rawc : ∀ (rs : List Rl) (w8 : Option D), (∀ r ∈ rs, RlOk outs r) → rs.length ≤ 4 → ∃ d8, ((∃ rows, TabOk rows ins.length outs.length ∧ rows.length ≤ most ∧ d8 = dRows rows) ∨ (d8 = .non ∧ rs ≠ [])) ∧ evM (evF T k) false (.call false 18 [] [.arg 0, .arg 1, .arg 2, .arg 3] (.cons (.var 4) (.cons (.var 1) (.cons (.var 2) (.cons (.var 3) .nil)))) .nil) [some (.ref 0), some (.lst (ins.map .str)), some (.lst (outs.map .str)), some (.int (most : Int)), some (.lst (rs.map Rl.d)), none, some rg.d, none, w8] (.lst x4 :: c0) = .ok d8 (.lst x4 :: c0) := fun rs w8 hr hl => by
    have go : ∀ d8, evF T k P.i_l_raw [.lst (rs.map Rl.d), .lst (ins.map .str), .lst (outs.map .str), .int (most : Int)] (.lst x4 :: c0) = .ok d8 (.lst x4 :: c0) → evM (evF T k) false (.call false 18 [] [.arg 0, .arg 1, .arg 2, .arg 3] (.cons (.var 4) (.cons (.var 1) (.cons (.var 2) (.cons (.var 3) .nil)))) .nil) [some (.ref 0), some (.lst (ins.map .str)), some (.lst (outs.map .str)), some (.int (most : Int)), some (.lst (rs.map Rl.d)), none, some rg.d, none, w8] (.lst x4 :: c0) = .ok d8 (.lst x4 :: c0) := fun d8 h =>
      call_ok (ds := [.lst (rs.map Rl.d), .lst (ins.map .str), .lst (outs.map .str), .int (most : Int)]) (args_cons (var_ok rfl) (args_cons (var_ok rfl) (args_cons (var_ok rfl) (args_cons (var_ok rfl) args_nil)))) args_nil rfl h
    rcases raw_res (ins := ins) L (by omega : 3 ≤ k) hr (by omega) ho (by omega) (by omega) hm1 hm2 (.lst x4 :: c0) with ⟨rows, h1, h2, h3⟩ | ⟨h1, h2⟩
    · exact ⟨_, .inl ⟨rows, h1, h2, rfl⟩, go _ h3⟩
    · exact ⟨_, .inr ⟨rfl, h1⟩, go _ h2⟩
  obtain ⟨d8, hd8, e6⟩ := rawc rs2 none hr2 hl2
  obtain ⟨sl', c', h7, rsf, rows, htab, hml, rfl, rfl⟩ := whR_inv (q := evT (evF T k) (.cmp .is (.var 8) (.cst .non))) (b := evSs (evF T k) (.cons (.asg (.nm 4) (.slc (.var 4) .no (.so (.cst (.int (-1)))))) (.cons (.asg (.nm 8) (.call false 18 [] [.arg 0, .arg 1, .arg 2, .arg 3] (.cons (.var 4) (.cons (.var 1) (.cons (.var 2) (.cons (.var 3) .nil)))) .nil)) .nil)))
    (fun n sl c => ∃ (rs : List Rl) (d8 : D), (∀ r ∈ rs, RlOk outs r) ∧ rs.length ≤ 4 ∧ n = rs.length ∧ ((∃ rows, TabOk rows ins.length outs.length ∧ rows.length ≤ most ∧ d8 = dRows rows) ∨ (d8 = .non ∧ rs ≠ [])) ∧ sl = [some (.ref 0), some (.lst (ins.map .str)), some (.lst (outs.map .str)), some (.int (most : Int)), some (.lst (rs.map Rl.d)), none, some rg.d, none, some d8] ∧ c = .lst x4 :: c0)
    (fun sl c => ∃ (rs : List Rl) (rows : Rows), TabOk rows ins.length outs.length ∧ rows.length ≤ most ∧ sl = [some (.ref 0), some (.lst (ins.map .str)), some (.lst (outs.map .str)), some (.int (most : Int)), some (.lst (rs.map Rl.d)), none, some rg.d, none, some (dRows rows)] ∧ c = .lst x4 :: c0)
    (fun n sl c hI => by
      obtain ⟨rs, d8, hr, hl, rfl, hd, rfl, rfl⟩ := hI
      rcases hd with ⟨rows, h1, h2, rfl⟩ | ⟨rfl, hne⟩
      · exact .inl ⟨cmpT_ok (var_ok rfl) rfl (cmp_isN _ _), rs, rows, h1, h2, rfl, rfl⟩
      · have hr' : ∀ r ∈ rs.dropLast, RlOk outs r := fun r h => hr r (List.dropLast_subset _ h)
        have hl' : rs.dropLast.length < rs.length := by
          rw [List.length_dropLast]
          have := List.length_pos_iff.mpr hne
          omega
        obtain ⟨d8', hd8', e⟩ := rawc rs.dropLast (some .non) hr' (by omega)
        refine .inr ⟨cmpT_ok (var_ok rfl) rfl (cmp_isN _ _), rs.dropLast.length, [some (.ref 0), some (.lst (ins.map .str)), some (.lst (outs.map .str)), some (.int (most : Int)), some (.lst (rs.dropLast.map Rl.d)), none, some rg.d, none, some d8'], .lst x4 :: c0, hl', step_nx (sl' := [some (.ref 0), some (.lst (ins.map .str)), some (.lst (outs.map .str)), some (.int (most : Int)), some (.lst (rs.dropLast.map Rl.d)), none, some rg.d, none, some .non]) (c' := .lst x4 :: c0) (asg_ok (d := .lst (rs.dropLast.map Rl.d)) ?_ rfl) (step_nx (asg_ok e rfl) nil_ok), rs.dropLast, d8', hr', by omega, rfl, hd8', rfl, rfl⟩
        rw [evM, tst_f, var_ok rfl, bnd_ok]
        have o0 : ∀ sl c, evO (evF T k) .no sl c = .ok none c := fun _ _ => rfl
        have o1 : ∀ sl c, evO (evF T k) (.so (.cst (.int (-1)))) sl c = .ok (some (-1)) c := fun _ _ => rfl
        rw [o0, bnd_ok, o1, bnd_ok]
        show Res.ok (D.lst (cutD (rs.map Rl.d) none (some (-1)))) _ = _
        rw [cutm1, List.map_dropLast]) rs2.length [some (.ref 0), some (.lst (ins.map .str)), some (.lst (outs.map .str)), some (.int (most : Int)), some (.lst (rs2.map Rl.d)), none, some rg.d, none, some d8] (.lst x4 :: c0) ⟨rs2, d8, hr2, hl2, rfl, hd8, rfl, rfl⟩
  obtain ⟨x5, rows', hx5, ht5, hl5, e7⟩ := renum_ok (k := k) (c0 := c0) L (by omega) hx4 htab (by omega) (by omega)
  refine ⟨x5, rows', hx5, ht5, by omega, ?_⟩
  refine run_rt (d := dDev ins outs rows') (sl := [some (.ref 0), some (.lst (ins.map .str)), some (.lst (outs.map .str)), some (.int (most : Int)), some (.lst (rsf.map Rl.d)), none, some rg.d, none, some (dRows rows)]) (c' := .lst x5 :: c0) L.device rfl ?_ gcD0
  show evSs (evF T k) P.b_l_device [some (.ref 0), some (.lst (ins.map .str)), some (.lst (outs.map .str)), some (.int (most : Int)), none, none, none, none, none] (.lst x :: c0) = _
  unfold P.b_l_device
  refine step_nx (sl' := [some (.ref 0), some (.lst (ins.map .str)), some (.lst (outs.map .str)), some (.int (most : Int)), some (.lst (rs1.map Rl.d)), none, none, none, none]) (c' := .lst x1 :: c0) (asg_ok e1 rfl) ?_
  refine step_nx (sl' := [some (.ref 0), some (.lst (ins.map .str)), some (.lst (outs.map .str)), some (.int (most : Int)), some (.lst (rs1.map Rl.d)), none, some rg.d, none, none]) (c' := .lst x3 :: c0) (asg_ok (d := rg.d) ?_ rfl) ?_
  · rw [hrd]
    refine tup_ok (ds := [.str "each", .int (1 + v2), .int v3, .tup (si.map fun s => D.tup [.str s, .int 1]), .tup [], .non]) (args_cons rfl (args_cons (bin_ok rfl (call_ok (ds := [.ref 0, .int 4]) (args_cons (var_ok rfl) (args_cons rfl args_nil)) args_nil rfl e2) (bin_add _ _ _)) (args_cons (call_ok (ds := [.ref 0, .int 2]) (args_cons (var_ok rfl) (args_cons rfl args_nil)) args_nil rfl e3) (args_cons (blt_ok (ds := [.lst (si.map fun s => D.tup [.str s, .int 1])]) (args_cons (compf_ok (its := si.map .str) (seq_ok (blt_ok (args_cons (var_ok rfl) args_nil) hso) rfl) (compR_lst _ _ _ fun s hs => ⟨[some (.ref 0), some (.lst (ins.map .str)), some (.lst (outs.map .str)), some (.int (most : Int)), some (.lst (rs1.map Rl.d)), none, none, some (.str s), none], rfl, true_ok, tup_ok (args_cons (var_ok rfl) (args_cons rfl args_nil)) (by simp)⟩) ?_) args_nil) rfl) (args_cons (tup_ok args_nil (by simp)) (args_cons rfl args_nil)))))) (by simp)
    rw [List.length_map, hsi.length_eq]
    omega
  refine step_nx e5 ?_
  refine step_nx (sl' := [some (.ref 0), some (.lst (ins.map .str)), some (.lst (outs.map .str)), some (.int (most : Int)), some (.lst (rs2.map Rl.d)), none, some rg.d, none, some d8]) (c' := .lst x4 :: c0) (asg_ok e6 rfl) ?_
  refine step_nx (by rw [whl_eq]; exact h7) ?_
  refine step_rt (ret_ok ?_)
  rw [evM, tst_f, args_cons (var_ok rfl) (args_cons (var_ok rfl) (args_cons (call_ok (ds := [.ref 0, dRows rows]) (args_cons (var_ok rfl) (args_cons (var_ok rfl) args_nil)) args_nil rfl e7) args_nil)), bnd_ok]
  unfold dspK
  rw [if_pos ⟨rfl, by simp, by decide +kernel⟩]
  rfl
end
end Hv

set_option Elab.async false
set_option linter.all false
set_option maxRecDepth 100000
set_option maxHeartbeats 4000000
/-! HvYA: any drawn machine. -/
namespace Hv
open PySem PySem.Spec PyProof.Rows L2

structure DevOk (ins outs : List Str) (rows : Rows) (most : Nat) : Prop where
  i : NamesOk ins
  i1 : 1 ≤ ins.length
  i3 : ins.length ≤ 3
  o : NamesOk outs
  o3 : outs.length ≤ 3
  t : TabOk rows ins.length outs.length
  m : rows.length ≤ most
theorem NamesOk.perm {a b : List Str} (h : NamesOk a) (p : b.Perm a) : NamesOk b := ⟨p.nodup_iff.mpr h.1, fun s hs => h.2 s (p.mem_iff.mp hs)⟩
section
variable {T : Tab} {k : Nat} {x : List D} {c0 : Ct} {most : Nat}
theorem shufS (L : Lib T) (hk : 2 ≤ k) (hx : Dl x) {ss : List Str} (hl : ss.length ≤ 1000) : ∃ (x' : List D) (tt : List Str), Dl x' ∧ tt.Perm ss ∧ evF T k P.i_l_shuffled [.ref 0, .lst (ss.map .str)] (.lst x :: c0) = .ok (.lst (tt.map .str)) (.lst x' :: c0) := by
  obtain ⟨x', ys, hx', hp, e⟩ := shuffled_ok (k := k) (c0 := c0) L hk hx (rLts_strs ss 0) (by simpa using hl)
  obtain ⟨tt, ht, rfl⟩ := perm_inv D.str (fun d => match d with | .str s => s | _ => "") (fun _ => rfl) hp
  exact ⟨x', tt, hx', ht, e⟩
theorem any_device_ok (L : Lib T) (hk : 5 ≤ k) (hx : Dl x) (hm1 : 1 ≤ most) (hm2 : most ≤ 800) :
    ∃ (x' : List D) (ins outs : List Str) (rows : Rows), Dl x' ∧ DevOk ins outs rows most ∧ evF T k P.i_l_any_device [.ref 0, .int (most : Int)] (.lst x :: c0) = .ok (dDev ins outs rows) (.lst x' :: c0) := by
  obtain ⟨k, rfl⟩ : ∃ j, k = j + 1 := ⟨k - 1, by omega⟩
  obtain ⟨x1, d, hx1, hd, e1⟩ := of0 (k := k) (c0 := c0) L (by omega) hx (ds := [.int 0, .int 1, .int 1, .int 2]) (by simp) (by simp)
  obtain ⟨n, hn, rfl⟩ : ∃ n : Nat, n ≤ 2 ∧ d = .int n := by
    simp at hd
    rcases hd with rfl | rfl | rfl
    · exact ⟨0, by omega, rfl⟩
    · exact ⟨1, by omega, rfl⟩
    · exact ⟨2, by omega, rfl⟩
  obtain ⟨x2, s2, hx2, l2, n2, e2⟩ := names_ok (k := k) (c0 := c0) L (by omega) hx1 (n := 1 + n) (by omega)
  obtain ⟨x3, v, hx3, hv0, hv1, e3⟩ := pick0 (k := k) (c0 := c0) L (by omega) hx2 (m := 4) (by omega) (by omega)
  obtain ⟨v, rfl⟩ : ∃ j : Nat, v = j := ⟨v.toNat, by omega⟩
  obtain ⟨x4, s4, hx4, l4, n4, e4⟩ := names_ok (k := k) (c0 := c0) L (by omega) hx3 (n := v) (by omega)
  obtain ⟨x5, outs, hx5, p5, e5⟩ := shufS (k := k) (c0 := c0) L (by omega) hx4 (ss := s4) (by omega)
  obtain ⟨x6, ins, hx6, p6, e6⟩ := shufS (k := k) (c0 := c0) L (by omega) hx5 (ss := s2) (by omega)
  have li := p6.length_eq
  have lo := p5.length_eq
  obtain ⟨x7, rows, hx7, ht, hm, e7⟩ := device_ok (k := k) (c0 := c0) L (by omega) hx6 (n2.perm p6) (by omega) (n4.perm p5) (by omega) hm1 hm2
  refine ⟨x7, ins, outs, rows, hx7, ⟨n2.perm p6, by omega, by omega, n4.perm p5, by omega, ht, hm⟩, ?_⟩
  refine run_rt (d := dDev ins outs rows) (sl := [some (.ref 0), some (.int (most : Int)), some (.lst (s2.map .str)), some (.lst (outs.map .str))]) (c' := .lst x7 :: c0) L.any_device rfl ?_ gcD0
  show evSs (evF T k) P.b_l_any_device [some (.ref 0), some (.int (most : Int)), none, none] (.lst x :: c0) = _
  unfold P.b_l_any_device
  refine step_nx (sl' := [some (.ref 0), some (.int (most : Int)), some (.lst (s2.map .str)), none]) (c' := .lst x2 :: c0) (asg_ok (d := .lst (s2.map .str)) (call_ok (ds := [.ref 0, .int ((1 + n : Nat) : Int)]) (c1 := .lst x1 :: c0) (args_cons (var_ok rfl) (args_cons (bin_ok rfl (call_ok (ds := [.ref 0, .lst [.int 0, .int 1, .int 1, .int 2]]) (args_cons (var_ok rfl) (args_cons (lstf_ok (args_cons rfl (args_cons rfl (args_cons rfl (args_cons rfl args_nil)))) (by simp)) args_nil)) args_nil rfl e1) ?_) args_nil)) args_nil rfl e2) rfl) ?_
  · show binD false .add (.int 1) (.int (n : Int)) _ = _
    rw [bin_add, Int.natCast_add]
    rfl
  refine step_nx (sl' := [some (.ref 0), some (.int (most : Int)), some (.lst (s2.map .str)), some (.lst (outs.map .str))]) (c' := .lst x5 :: c0) (asg_ok (d := .lst (outs.map .str)) (call_ok (ds := [.ref 0, .lst (s4.map .str)]) (args_cons (var_ok rfl) (args_cons (call_ok (ds := [.ref 0, .int (v : Int)]) (args_cons (var_ok rfl) (args_cons (call_ok (ds := [.ref 0, .int 4]) (args_cons (var_ok rfl) (args_cons rfl args_nil)) args_nil rfl e3) args_nil)) args_nil rfl e4) args_nil)) args_nil rfl e5) rfl) ?_
  exact step_rt (ret_ok (call_ok (ds := [.ref 0, .lst (ins.map .str), .lst (outs.map .str), .int (most : Int)]) (args_cons (var_ok rfl) (args_cons (call_ok (ds := [.ref 0, .lst (s2.map .str)]) (args_cons (var_ok rfl) (args_cons (var_ok rfl) args_nil)) args_nil rfl e6) (args_cons (var_ok rfl) (args_cons (var_ok rfl) args_nil)))) args_nil rfl e7))
end
end Hv

set_option Elab.async false
set_option linter.all false
set_option maxRecDepth 100000
set_option maxHeartbeats 4000000
/-! HvYB: tables in the program: sums of what is sent, stands come to. -/
namespace Hv
open PySem PySem.Spec PyProof.Rows L2

/-! ### sums -/
theorem vadd_zip : ∀ (u v : List Int), vadd u v = (u.zip v).map fun p => p.1 + p.2
  | [], _ => by simp [vadd]
  | _ :: _, [] => by simp [vadd]
  | a :: u, b :: v => by
    have := vadd_zip u v
    unfold vadd at this ⊢
    rw [List.zipWith_cons_cons, this]
    rfl
theorem vadd_len {u v : List Int} (h : v.length = u.length) : (vadd u v).length = u.length := by simp [vadd, h]
theorem zipT {a b : List D} {c : Ct} (h1 : b.length = a.length) : zipK [.tup a, .tup b] c = .ok (rowsD a.length [a, b]) c := by
  unfold zipK
  show (if _ then _ else _) = _
  rw [if_pos ⟨by simp [h1], by simp, by simp⟩]
section
variable {T : Tab} {k : Nat} {c : Ct}
theorem added_ok (hT : T.lookup P.i_added = some P.fd_added) (hk : 1 ≤ k) {u v : List Int} (h : v.length = u.length) (hl : u.length ≤ 1000) : evF T k P.i_added [.tup (u.map .int), .tup (v.map .int)] c = .ok (.tup ((vadd u v).map .int)) c := by
  obtain ⟨k, rfl⟩ : ∃ j, k = j + 1 := ⟨k - 1, by omega⟩
  refine run_rt (d := .tup ((vadd u v).map .int)) (sl := [some (.tup (u.map .int)), some (.tup (v.map .int)), none, none]) (c' := c) hT rfl ?_ (gcK_same _ _)
  show evSs (evF T k) P.b_added [some (.tup (u.map .int)), some (.tup (v.map .int)), none, none] c = _
  unfold P.b_added
  have hz : zipK [.tup (u.map D.int), .tup (v.map D.int)] c = .ok ((u.zip v).map fun p => D.tup [.int p.1, .int p.2]) c := by
    rw [zipT (by simp [h]), rowsD2 (by simp [h]), List.zip_map, List.map_map]
    rfl
  have e : (vadd u v).map D.int = (u.zip v).map fun p => D.int (p.1 + p.2) := by
    rw [vadd_zip, List.map_map]
    rfl
  rw [e]
  refine step_rt (ret_ok (blt_ok (args_cons (compf_ok (zip_ok (args_cons (var_ok rfl) (args_cons (var_ok rfl) args_nil)) hz) (compR_lst _ _ _ fun p _ => ⟨[some (.tup (u.map .int)), some (.tup (v.map .int)), some (.int p.1), some (.int p.2)], rfl, true_ok, bin_ok (var_ok rfl) (var_ok rfl) (bin_add _ _ _)⟩) (by simp; omega)) args_nil) rfl))
end
/-! ### fresh ones -/
def addN (found acc : List Nat) (t : Nat) : List Nat := if t ∉ found ∧ t ∉ acc then acc ++ [t] else acc
def freshL (found ts : List Nat) : List Nat := ts.foldl (addN found) []
theorem addN_mem {found acc : List Nat} {t s : Nat} : s ∈ addN found acc t ↔ s ∈ acc ∨ (s = t ∧ t ∉ found) := by
  unfold addN
  by_cases h1 : t ∈ found
  · simp [h1]
  · by_cases h2 : t ∈ acc
    · simp only [h1, h2, not_true, and_false, if_false, not_false_iff, and_true]
      constructor
      · exact .inl
      · rintro (h | h)
        · exact h
        · rw [h]; exact h2
    · simp [h1, h2]
theorem fold_mem {found : List Nat} {s : Nat} : ∀ (ts acc : List Nat), s ∈ ts.foldl (addN found) acc ↔ s ∈ acc ∨ (s ∈ ts ∧ s ∉ found)
  | [], acc => by simp
  | t :: ts, acc => by
    rw [List.foldl_cons, fold_mem ts, addN_mem]
    constructor
    · rintro ((h | ⟨rfl, h⟩) | ⟨h1, h2⟩)
      · exact .inl h
      · exact .inr ⟨List.mem_cons_self, h⟩
      · exact .inr ⟨List.mem_cons_of_mem _ h1, h2⟩
    · rintro (h | ⟨h1, h2⟩)
      · exact .inl (.inl h)
      · rcases List.mem_cons.mp h1 with rfl | h1
        · exact .inl (.inr ⟨rfl, h2⟩)
        · exact .inr ⟨h1, h2⟩
theorem fold_nd {found : List Nat} : ∀ (ts acc : List Nat), acc.Nodup → (ts.foldl (addN found) acc).Nodup
  | [], acc, h => h
  | t :: ts, acc, h => by
    rw [List.foldl_cons]
    refine fold_nd ts _ ?_
    unfold addN
    split
    · rename_i hh
      rw [List.nodup_append]
      refine ⟨h, by simp, fun a ha b hb e => ?_⟩
      rw [List.mem_singleton.mp hb] at e
      exact hh.2 (e ▸ ha)
    · exact h
theorem fresh_mem {found ts : List Nat} {s : Nat} : s ∈ freshL found ts ↔ s ∈ ts ∧ s ∉ found := by
  unfold freshL
  rw [fold_mem]
  simp
theorem fold_len {found : List Nat} : ∀ (ts acc : List Nat), (ts.foldl (addN found) acc).length ≤ acc.length + ts.length
  | [], acc => by simp
  | t :: ts, acc => by
    rw [List.foldl_cons]
    have := fold_len (found := found) ts (addN found acc t)
    have h2 : (addN found acc t).length ≤ acc.length + 1 := by
      unfold addN
      split <;> simp
    rw [List.length_cons]
    omega
/-- a row, a list or a tuple -/
def RowD (R : D) (r : List (Nat × List Int)) : Prop := R = .lst (r.map dE) ∨ R = .tup (r.map dE)
theorem RowD.seq {R : D} {r : List (Nat × List Int)} (h : RowD R r) (c : Ct) : seqD R c = .ok (r.map dE) c := by rcases h with rfl | rfl <;> rfl
theorem RowD.its {R : D} {r : List (Nat × List Int)} (h : RowD R r) (c : Ct) : itsD R c = some (r.map dE) := by rcases h with rfl | rfl <;> rfl
theorem LstAt.app {y : D} {c g : Ct} {xs : List D} (h : LstAt y c xs) : LstAt y (c ++ g) xs := by
  rcases h with h | ⟨m, h, hm⟩
  · exact .inl h
  · exact .inr ⟨m, h, by rw [List.getElem?_append_left (List.getElem?_eq_some_iff.mp hm).1]; exact hm⟩
theorem pl_nats (ns : List Nat) (n : Nat) : rLts n (ns.map natD) = true := rLts_all fun d hd => by
  obtain ⟨s, _, rfl⟩ := List.mem_map.mp hd
  unfold natD
  rw [rLt]
theorem andT_ok {call : CallF} {a b : IE} {sl : Sl} {c c1 : Ct} {v : Bool} {X : Res Bool} (h : evT call a sl c = .ok v c1) (h2 : (if v = true then evT call b sl c1 else .ok false c1) = X) : evT call (.and a b) sl c = X := by
  show bnd (evM call true (.and a b) sl c) bolK = _
  rw [evM, bol_and (b := .stuck)]
  show bnd (evT call a sl c) _ = _
  rw [h, bnd_ok]
  exact h2
section
variable {T : Tab} {k : Nat} {c : Ct}
set_option maxHeartbeats 8000000 in
theorem fresh_ok (hT : T.lookup P.i_fresh_ones = some P.fd_fresh_ones) (hk : 1 ≤ k) {R Y : D} {r : List (Nat × List Int)} {found : List Nat} (hR : RowD R r) (hY : LstAt Y c (found.map natD)) (hl : r.length ≤ 1000) : evF T k P.i_fresh_ones [R, Y] c = .ok (.lst ((freshL found (r.map (·.1))).map natD)) c := by
  obtain ⟨k, rfl⟩ : ∃ j, k = j + 1 := ⟨k - 1, by omega⟩
  obtain ⟨sl', c', h1, w3, w4, h2, h3⟩ := forR_i (tg := asT (.tp [(.nm 3), (.nm 4)])) (b := evSs (evF T k) (.cons (.ifs (.and (.cmp .nin (.var 3) (.var 1)) (.cmp .nin (.var 3) (.var 2))) (.cons (.expr (.bm .append (.var 2) (.cons (.var 3) .nil))) .nil) .nil) .nil))
    (fun i sl c' => ∃ w3 w4, sl = [some R, some Y, some (.ref c.length), w3, w4] ∧ c' = c ++ [Cell.lst ((freshL found ((r.map (·.1)).take i)).map natD)]) (r.map dE) (fun i d hd sl c' hI => by
      obtain ⟨w3, w4, rfl, rfl⟩ := hI
      rw [List.getElem?_map] at hd
      cases hp : r[i]? with
      | none => rw [hp] at hd; cases hd
      | some p =>
      rw [hp] at hd
      cases hd
      have hts : (r.map (·.1)).take (i + 1) = (r.map (·.1)).take i ++ [p.1] := by
        rw [List.take_add_one, List.getElem?_map, hp]
        rfl
      have hst : freshL found ((r.map (·.1)).take (i + 1)) = addN found (freshL found ((r.map (·.1)).take i)) p.1 := by
        unfold freshL
        rw [hts, List.foldl_append]
        rfl
      have hlen := fold_len (found := found) ((r.map (·.1)).take i) []
      have hlen2 : ((r.map (·.1)).take i).length ≤ 1000 := by
        rw [List.length_take, List.length_map]
        omega
      rw [hst]
      generalize hacc : freshL found ((r.map (·.1)).take i) = acc
      have hal : acc.length ≤ 1000 := by
        rw [← hacc]
        unfold freshL
        simp at hlen
        omega
      have q1 := cod_nat.ninB (by decide) (y := Y) (c := c ++ [Cell.lst (acc.map natD)]) (l := found) (a := p.1) hY.app trivial (fun _ _ => trivial)
      have q2 := cod_nat.ninB (by decide) (y := .ref c.length) (c := c ++ [Cell.lst (acc.map natD)]) (l := acc) (a := p.1) (.inr ⟨c.length, rfl, at_end _ _⟩) trivial (fun _ _ => trivial)
      refine ⟨[some R, some Y, some (.ref c.length), some (natD p.1), some (.tup (p.2.map .int))], [some R, some Y, some (.ref c.length), some (natD p.1), some (.tup (p.2.map .int))], c ++ [Cell.lst ((addN found acc p.1).map natD)], rfl, step_nx (sl' := [some R, some Y, some (.ref c.length), some (natD p.1), some (.tup (p.2.map .int))]) (c' := c ++ [Cell.lst ((addN found acc p.1).map natD)]) ?_ nil_ok, _, _, rfl, rfl⟩
      by_cases g1 : p.1 ∈ found
      · have e : addN found acc p.1 = acc := by unfold addN; rw [if_neg (fun h => h.1 g1)]
        rw [e]
        simp only [g1, decide_true, Bool.not_true] at q1
        exact if_f (andT_ok (cmpT_ok (var_ok rfl) (var_ok rfl) q1) rfl) nil_ok
      · simp only [g1, decide_false, Bool.not_false] at q1
        by_cases g2 : p.1 ∈ acc
        · have e : addN found acc p.1 = acc := by unfold addN; rw [if_neg (fun h => h.2 g2)]
          rw [e]
          simp only [g2, decide_true, Bool.not_true] at q2
          exact if_f (andT_ok (cmpT_ok (var_ok rfl) (var_ok rfl) q1) (by rw [if_pos rfl]; exact cmpT_ok (var_ok rfl) (var_ok rfl) q2)) nil_ok
        · have e : addN found acc p.1 = acc ++ [p.1] := by unfold addN; rw [if_pos ⟨g1, g2⟩]
          rw [e]
          simp only [g2, decide_false, Bool.not_false] at q2
          refine if_t (andT_ok (cmpT_ok (var_ok rfl) (var_ok rfl) q1) (by rw [if_pos rfl]; exact cmpT_ok (var_ok rfl) (var_ok rfl) q2)) (step_nx (expr_ok (d := .non) (bm_ok (x := .ref c.length) (ds := [natD p.1]) (var_ok rfl) (lst_ref (at_end _ _)) (args_cons (var_ok rfl) args_nil) ?_)) nil_ok)
          rw [app_ok' (at_end _ _) (by simp; omega), set_end, List.map_append]
          rfl) (sl := [some R, some Y, some (.ref c.length), none, none]) (c := c ++ [Cell.lst []]) ⟨none, none, rfl, rfl⟩
  rw [List.length_map, List.take_of_length_le (by simp)] at h3
  subst h2 h3
  refine run_rt (d := .lst ((freshL found (r.map (·.1))).map natD)) (sl := [some R, some Y, some (.ref c.length), w3, w4]) (c' := c ++ [Cell.dead]) hT rfl ?_ (gcK_drop (by rw [rLt]; exact pl_nats _ _))
  show evSs (evF T k) P.b_fresh_ones [some R, some Y, none, none, none] c = _
  unfold P.b_fresh_ones
  refine step_nx (sl' := [some R, some Y, some (.ref c.length), none, none]) (c' := c ++ [Cell.lst []]) (asg_ok (lstt_ok args_nil (by simp)) rfl) ?_
  refine step_nx (for_ok (seq_ok (var_ok rfl) (hR.seq _)) h1) ?_
  refine step_rt (ret_ok (frzE_ok (var_ok rfl) ?_))
  rw [frz_ref (at_end _ _) (pl_nats _ _), set_end]
end
/-! ### stands come to -/
theorem nd_le : ∀ (n : Nat) (l : List Nat), l.Nodup → (∀ x ∈ l, x < n) → l.length ≤ n
  | 0, l, _, h => by
    cases l with
    | nil => simp
    | cons a l => exact absurd (h a List.mem_cons_self) (by omega)
  | n + 1, l, hd, h => by
    have h1 := nd_le n (l.erase n) (hd.erase n) fun x hx => by
      have hx2 := (hd.mem_erase_iff).mp hx
      have := h x hx2.2
      omega
    have := List.length_erase (a := n) (l := l)
    split at this <;> omega
def succs (rows : Rows) (s : Nat) : List Nat := (rows.getD s []).map (·.1)
def comeStep (rows : Rows) (found : List Nat) (s : Nat) : List Nat := if s < found.length then found ++ freshL found (succs rows (found.getD s 0)) else found
def comeTo (rows : Rows) (first : Nat) : List Nat := (List.range rows.length).foldl (comeStep rows) [first]
/-- what a search keeps -/
structure ComeI (rows : Rows) (first i : Nat) (found : List Nat) : Prop where
  nd : found.Nodup
  lt : ∀ s ∈ found, s < rows.length
  fst : first ∈ found
  cl : ∀ (j : Nat) s, j < i → found[j]? = some s → ∀ t ∈ succs rows s, t ∈ found
  from_ : ∀ (R : Nat → Prop), R first → (∀ s t, R s → s < rows.length → t ∈ succs rows s → R t) → ∀ s ∈ found, R s
theorem ComeI.step {rows : Rows} {first i : Nat} {found : List Nat} (hin : ∀ s t, s < rows.length → t ∈ succs rows s → t < rows.length) (h : ComeI rows first i found) : ComeI rows first (i + 1) (comeStep rows found i) := by
  unfold comeStep
  by_cases hi : i < found.length
  · rw [if_pos hi]
    have hg : found[i]? = some (found[i]'hi) := List.getElem?_eq_getElem hi
    have hgd : found.getD i 0 = found[i]'hi := by rw [List.getD_eq_getElem?_getD, hg]; rfl
    rw [hgd]
    generalize found[i]'hi = s0 at hg
    have hs0 := h.lt s0 (List.mem_of_getElem? hg)
    refine ⟨?_, fun s hs => ?_, List.mem_append_left _ h.fst, fun j s hj hs t ht => ?_, fun R h0 hR s hs => ?_⟩
    · rw [List.nodup_append]
      refine ⟨h.nd, fold_nd _ _ (by simp), fun a ha b hb e => ?_⟩
      subst e
      exact (fresh_mem.mp hb).2 ha
    · rcases List.mem_append.mp hs with z | z
      · exact h.lt s z
      · exact hin s0 s hs0 (fresh_mem.mp z).1
    · by_cases hj2 : j < i
      · rw [List.getElem?_append_left (by omega)] at hs
        exact List.mem_append_left _ (h.cl j s hj2 hs t ht)
      · have : j = i := by omega
        subst this
        rw [List.getElem?_append_left hi, hg] at hs
        cases hs
        by_cases hf : t ∈ found
        · exact List.mem_append_left _ hf
        · exact List.mem_append_right _ (fresh_mem.mpr ⟨ht, hf⟩)
    · rcases List.mem_append.mp hs with z | z
      · exact h.from_ R h0 hR s z
      · exact hR s0 s (h.from_ R h0 hR s0 (List.mem_of_getElem? hg)) hs0 (fresh_mem.mp z).1
  · rw [if_neg hi]
    refine ⟨h.nd, h.lt, h.fst, fun j s hj hs t ht => ?_, h.from_⟩
    have := (List.getElem?_eq_some_iff.mp hs).1
    exact h.cl j s (by omega) hs t ht
theorem comeI_n {rows : Rows} {first : Nat} (hf : first < rows.length) (hin : ∀ s t, s < rows.length → t ∈ succs rows s → t < rows.length) : ∀ n, ComeI rows first n ((List.range n).foldl (comeStep rows) [first])
  | 0 => ⟨by simp, fun s hs => by rw [List.mem_singleton.mp hs]; exact hf, by simp, fun j s hj => by omega, fun R h0 _ s hs => by rw [List.mem_singleton.mp hs]; exact h0⟩
  | n + 1 => by
    rw [List.range_succ, List.foldl_append]
    exact (comeI_n hf hin n).step hin
/-- the stands come to: closed, and none else -/
theorem come_spec {rows : Rows} {first : Nat} (hf : first < rows.length) (hin : ∀ s t, s < rows.length → t ∈ succs rows s → t < rows.length) : ComeI rows first rows.length (comeTo rows first) ∧ ∀ s ∈ comeTo rows first, ∀ t ∈ succs rows s, t ∈ comeTo rows first := by
  have h := comeI_n hf hin rows.length
  refine ⟨h, fun s hs t ht => ?_⟩
  obtain ⟨j, hj, hj2⟩ := List.mem_iff_getElem.mp hs
  have := nd_le rows.length _ h.nd h.lt
  have hs' : (comeTo rows first)[j]? = some s := by rw [List.getElem?_eq_getElem hj, hj2]
  exact h.cl j s (Nat.lt_of_lt_of_le hj this) hs' t ht
end Hv

set_option Elab.async false
set_option linter.all false
set_option maxRecDepth 100000
set_option maxHeartbeats 4000000
/-! HvYC: a search of stands runs; names and rows are looked at. -/
namespace Hv
open PySem PySem.Spec PyProof.Rows L2

/-- a table: a list of rows, lists or tuples -/
def TabD (t : D) (rows : Rows) : Prop := ∃ ts : List D, t = .lst ts ∧ ts.length = rows.length ∧ ∀ (i : Nat) r, rows[i]? = some r → ∃ R, ts[i]? = some R ∧ RowD R r
theorem tab_l (rows : Rows) : TabD (dRows rows) rows := ⟨rows.map dR, rfl, by simp, fun i r h => ⟨dR r, by rw [List.getElem?_map, h]; rfl, .inl rfl⟩⟩
def dT (r : List (Nat × List Int)) : D := .tup (r.map dE)
def dTab (rows : Rows) : D := .lst (rows.map dT)
theorem tab_t (rows : Rows) : TabD (dTab rows) rows := ⟨rows.map dT, rfl, by simp, fun i r h => ⟨dT r, by rw [List.getElem?_map, h]; rfl, .inr rfl⟩⟩
theorem ext_ok' {n : Nat} {d : D} {c : Ct} {xs ys : List D} (h : c[n]? = some (.lst xs)) (h2 : lstD d c = some ys) (hl : xs.length + ys.length < 100000) : mthD .extend (.ref n) [d] c = .ok .non (c.set n (.lst (xs ++ ys))) := by
  unfold mthD
  dsimp only
  rw [h]
  dsimp only
  rw [h2]
  dsimp only
  rw [if_pos hl]
section
variable {T : Tab} {k : Nat} {c : Ct}
set_option maxHeartbeats 8000000 in
theorem come_ok (hT : T.lookup P.i_come_to = some P.fd_come_to) (hF : T.lookup P.i_fresh_ones = some P.fd_fresh_ones) (hk : 2 ≤ k) {t : D} {rows : Rows} (ht : TabD t rows) (hn : rows.length ≤ 1000) (hrl : ∀ r ∈ rows, r.length ≤ 1000) {first : Nat} (hf : first < rows.length) (hin : ∀ s t, s < rows.length → t ∈ succs rows s → t < rows.length) :
    evF T k P.i_come_to [t, natD first] c = .ok (.lst ((comeTo rows first).map natD)) c := by
  obtain ⟨k, rfl⟩ : ∃ j, k = j + 1 := ⟨k - 1, by omega⟩
  obtain ⟨ts, rfl, hlen, hrow⟩ := ht
  obtain ⟨sl', c', h1, w3, h2, h3⟩ := forR_i (tg := asT (.nm 3)) (b := evSs (evF T k) (.cons (.ifs (.cmp .lt (.var 3) (.blt .len (.cons (.var 2) .nil))) (.cons (.expr (.bm .extend (.var 2) (.cons (.call false 23 [] [.arg 0, .arg 1] (.cons (.idx (.var 0) (.idx (.var 2) (.var 3))) (.cons (.var 2) .nil)) .nil) .nil))) .nil) .nil) .nil))
    (fun i sl c' => ∃ w3, sl = [some (.lst ts), some (natD first), some (.ref c.length), w3] ∧ c' = c ++ [Cell.lst (((List.range i).foldl (comeStep rows) [first]).map natD)]) ((List.range rows.length).map fun (i : Nat) => D.int (i : Int)) (fun i d hd sl c' hI => by
      obtain ⟨w3, rfl, rfl⟩ := hI
      rw [List.getElem?_map] at hd
      by_cases hi : i < rows.length
      · rw [List.getElem?_range hi] at hd
        cases hd
        have hC := comeI_n hf hin i
        have hst : (List.range (i + 1)).foldl (comeStep rows) [first] = comeStep rows ((List.range i).foldl (comeStep rows) [first]) i := by
          rw [List.range_succ, List.foldl_append]
          rfl
        rw [hst]
        generalize (List.range i).foldl (comeStep rows) [first] = found at hC
        have hfl := nd_le rows.length found hC.nd hC.lt
        refine ⟨[some (.lst ts), some (natD first), some (.ref c.length), some (natD i)], [some (.lst ts), some (natD first), some (.ref c.length), some (natD i)], c ++ [Cell.lst ((comeStep rows found i).map natD)], rfl, step_nx (sl' := [some (.lst ts), some (natD first), some (.ref c.length), some (natD i)]) (c' := c ++ [Cell.lst ((comeStep rows found i).map natD)]) ?_ nil_ok, _, rfl, rfl⟩
        have q : cmpD .lt (natD i) (.int (found.length : Int)) (c ++ [Cell.lst (found.map natD)]) = .ok (.bl (decide ((i : Int) < (found.length : Int)))) (c ++ [Cell.lst (found.map natD)]) := cmp_lt _ _ _
        have hl5 := len_ref (at_end (Cell.lst (found.map natD)) c)
        rw [List.length_map] at hl5
        unfold comeStep
        by_cases hlt : i < found.length
        · rw [if_pos hlt]
          rw [decide_eq_true (by omega)] at q
          have hg : found[i]? = some (found[i]'hlt) := List.getElem?_eq_getElem hlt
          have hgd : found.getD i 0 = found[i]'hlt := by rw [List.getD_eq_getElem?_getD, hg]; rfl
          rw [hgd]
          generalize found[i]'hlt = s0 at hg
          have hs0 := hC.lt s0 (List.mem_of_getElem? hg)
          have hr0 : rows[s0]? = some (rows[s0]'hs0) := List.getElem?_eq_getElem hs0
          have hsc : succs rows s0 = (rows[s0]'hs0).map (·.1) := by
            unfold succs
            rw [List.getD_eq_getElem?_getD, hr0]
            rfl
          rw [hsc]
          have hrl0 := hrl _ (List.mem_of_getElem? hr0)
          generalize rows[s0]'hs0 = r0 at hr0 hrl0
          obtain ⟨R, hR1, hR2⟩ := hrow s0 r0 hr0
          have hfr := fresh_ok (c := c ++ [Cell.lst (found.map natD)]) hF (by omega : 1 ≤ k) hR2 (.inr ⟨c.length, rfl, at_end _ _⟩ : LstAt (.ref c.length) _ (found.map natD)) hrl0
          refine if_t (cmpT_ok (var_ok rfl) (blt_ok (args_cons (var_ok rfl) args_nil) hl5) q) (step_nx (expr_ok (d := .non) (bm_ok (x := .ref c.length) (ds := [.lst ((freshL found (r0.map (·.1))).map natD)]) (c2 := c ++ [Cell.lst (found.map natD)]) (var_ok rfl) (lst_ref (at_end _ _)) (args_cons (call_ok (ds := [R, .ref c.length]) (args_cons (idx_ok (var_ok rfl) (idx_ok (y := natD i) (rr := .ok (natD s0) _) (var_ok rfl) (var_ok rfl) (idx_nat (its_ref (at_end _ _)) (by omega) ?_)) (idx_nat (xs := ts) rfl (by omega) ?_)) (args_cons (var_ok rfl) args_nil)) args_nil rfl hfr) args_nil) ?_)) nil_ok)
          · rw [Int.toNat_natCast, List.getElem?_map, hg]
            rfl
          · rw [Int.toNat_natCast]
            exact hR1
          · have hfl2 := fold_len (found := found) (r0.map (·.1)) []
            have hfl3 : (freshL found (r0.map (·.1))).length ≤ r0.length := by
              unfold freshL
              simpa using hfl2
            rw [ext_ok' (at_end _ _) rfl (by simp; omega), set_end, List.map_append]
        · rw [if_neg hlt]
          rw [decide_eq_false (by omega)] at q
          exact if_f (cmpT_ok (var_ok rfl) (blt_ok (args_cons (var_ok rfl) args_nil) hl5) q) nil_ok
      · rw [List.getElem?_eq_none (by rw [List.length_range]; omega)] at hd
        cases hd) (sl := [some (.lst ts), some (natD first), some (.ref c.length), none]) (c := c ++ [Cell.lst [natD first]]) ⟨none, rfl, rfl⟩
  rw [List.length_map, List.length_range] at h3
  subst h2 h3
  refine run_rt (d := .lst ((comeTo rows first).map natD)) (sl := [some (.lst ts), some (natD first), some (.ref c.length), w3]) (c' := c ++ [Cell.dead]) hT rfl ?_ (gcK_drop (by rw [rLt]; exact pl_nats _ _))
  show evSs (evF T k) P.b_come_to [some (.lst ts), some (natD first), none, none] c = _
  unfold P.b_come_to
  refine step_nx (sl' := [some (.lst ts), some (natD first), some (.ref c.length), none]) (c' := c ++ [Cell.lst [natD first]]) (asg_ok (lstt_ok (args_cons (var_ok rfl) args_nil) (by simp)) rfl) ?_
  refine step_nx (for_ok (rng1_ok (n := rows.length) (blt_ok (args_cons (var_ok rfl) args_nil) (by rw [len_lst, hlen])) (by omega)) h1) ?_
  refine step_rt (ret_ok (frzE_ok (var_ok rfl) ?_))
  rw [frz_ref (at_end _ _) (pl_nats _ _), set_end]
  rfl
end
end Hv

set_option Elab.async false
set_option linter.all false
set_option maxRecDepth 100000
set_option maxHeartbeats 4000000
/-! HvYD: names and rows are looked at. -/
namespace Hv
open PySem PySem.Spec PyProof.Rows L2

section
variable {call : CallF} {sl : Sl} {c c1 : Ct} {a b e : IE} {v : Bool}
theorem notT_ok (h : evT call a sl c = .ok v c1) : evT call (.not a) sl c = .ok (!v) c1 := by
  show bnd (evM call true (.not a) sl c) bolK = _
  rw [evM, bol_not]
  show bnd (evT call a sl c) _ = _
  rw [h, bnd_ok]
theorem callT_ok {fz : Bool} {f : Nat} {ks : List Str} {src : List Src} {es kes : IEs} (h : evM call false (.call fz f ks src es kes) sl c = .ok (.bl v) c1) : evT call (.call fz f ks src es kes) sl c = .ok v c1 := by
  have e : evM call true (.call fz f ks src es kes) sl c = tst true (evM call false (.call fz f ks src es kes) sl c) := by rw [evM, evM, tst_f]
  show bnd (evM call true (.call fz f ks src es kes) sl c) bolK = _
  rw [e, h]
  rfl
theorem bltT_ok {f : Blt} {es : IEs} (h : evM call false (.blt f es) sl c = .ok (.bl v) c1) : evT call (.blt f es) sl c = .ok v c1 := by
  have e : evM call true (.blt f es) sl c = tst true (evM call false (.blt f es) sl c) := by rw [evM, evM, tst_f]
  show bnd (evM call true (.blt f es) sl c) bolK = _
  rw [e, h]
  rfl
theorem chn_ok {tm : Bool} {o o' : COp} {x y z : D} {p q : Bool} (h1 : evM call false a sl c = .ok x c) (h2 : evM call false b sl c = .ok y c) (h3 : evM call false e sl c = .ok z c) (hp : cmpD o x y c = .ok (.bl p) c) (hq : cmpD o' y z c = .ok (.bl q) c) : evM call tm (.chn o o' a b e) sl c = .ok (.bl (p && q)) c := by
  rw [evM, h1, bnd_ok, h2, bnd_ok]
  unfold chnK
  rw [hp, bnd_ok]
  cases p with
  | false => rfl
  | true =>
    show bnd (evM call false e sl c) _ = _
    rw [h3, bnd_ok, hq]
    rfl
theorem chnT_ok {o o' : COp} {x y z : D} {p q : Bool} (h1 : evM call false a sl c = .ok x c) (h2 : evM call false b sl c = .ok y c) (h3 : evM call false e sl c = .ok z c) (hp : cmpD o x y c = .ok (.bl p) c) (hq : cmpD o' y z c = .ok (.bl q) c) : evT call (.chn o o' a b e) sl c = .ok (p && q) c := by
  show bnd (evM call true (.chn o o' a b e) sl c) bolK = _
  rw [chn_ok h1 h2 h3 hp hq]
  rfl
theorem rng2_ok {i n : Nat} (h1 : evM call false a sl c = .ok (.int (i : Int)) c1) (h2 : evM call false b sl c1 = .ok (.int (n : Int)) c1) (hi : i ≤ 100000) (hn : n ≤ 100000) : evI call (.rng2 a b) sl c = .ok ((List.range (n - i)).map fun (t : Nat) => natD (i + t)) c1 := by
  rw [evI, h1, bnd_ok, h2, bnd_ok]
  unfold rng2K
  dsimp only
  rw [if_pos ⟨sm_len hi, sm_len hn⟩]
  have e : ((n : Int) - (i : Int)).toNat = n - i := by omega
  rw [e]
  unfold rngD
  refine congrArg (fun l => Res.ok l c1) (List.map_congr_left fun t _ => ?_)
  show D.int ((i : Int) + (t : Int)) = D.int ((i + t : Nat) : Int)
  rw [Int.natCast_add]
theorem bls_map {α : Type} (p : α → Bool) : ∀ l : List α, blsD (l.map fun a => D.bl (p a)) = some (l.map p)
  | [] => rfl
  | a :: l => by rw [List.map_cons, blsD, bls_map p l]; rfl
theorem all_map {α : Type} (p : α → Bool) (l : List α) : bltD .all [.lst (l.map fun a => D.bl (p a))] c = .ok (.bl (l.all p)) c := by
  rw [all_lst (bls_map p l)]
  congr 2
  rw [List.all_map]
  rfl
theorem cutk (xs : List D) (k : Nat) : cutD xs none (some (k : Int)) = xs.take k := by
  have e : HT.sIx xs.length xs.length (some (k : Int)) = min k xs.length := by
    unfold HT.sIx
    simp only
    rw [if_neg (by omega), Int.toNat_natCast]
  have e0 : HT.sIx xs.length 0 none = 0 := rfl
  unfold cutD
  rw [e, e0, List.drop_zero, Nat.sub_zero]
  by_cases h : k ≤ xs.length
  · rw [Nat.min_eq_left h]
  · rw [Nat.min_eq_right (by omega), List.take_length, List.take_of_length_le (by omega)]
end
section
variable {T : Tab} {k : Nat} {c : Ct}
theorem is_name_ok (hT : T.lookup P.i_is_name = some P.fd_is_name) (hk : 1 ≤ k) {s : Str} (h : goodB s = true) : evF T k P.i_is_name [.str s] c = .ok (.bl true) c := by
  obtain ⟨k, rfl⟩ : ∃ j, k = j + 1 := ⟨k - 1, by omega⟩
  unfold goodB at h
  simp only [Bool.and_eq_true, decide_eq_true_eq] at h
  obtain ⟨⟨h1, h2⟩, h3⟩ := h
  refine run_rt (d := .bl true) (sl := [some (.str s), none]) (c' := c) hT rfl ?_ (gcK_same _ _)
  show evSs (evF T k) P.b_is_name [some (.str s), none] c = _
  unfold P.b_is_name
  have q1 := chn_ok (call := evF T k) (tm := false) (sl := [some (.str s), none]) (c := c) (a := .cst (.int 1)) (b := .blt .len (.cons (.var 0) .nil)) (e := .cst (.int 6)) (x := .int 1) (z := .int 6) rfl (blt_ok (args_cons (var_ok rfl) args_nil) (len_str (by omega))) rfl (cmp_le _ _ _) (cmp_le _ _ _)
  rw [decide_eq_true (by omega), decide_eq_true (by omega)] at q1
  refine step_rt (ret_ok ?_)
  rw [evM, q1, bnd_ok]
  show evM (evF T k) false _ _ _ = _
  refine blt_ok (args_cons (compf_ok (its := s.cps.toList.map sigD) (seq_ok (var_ok rfl) rfl) (compR_lst sigD (fun k => D.bl (decide (k ∈ signs.cps.toList))) _ fun k _ => ⟨[some (.str s), some (sigD k)], rfl, true_ok, ?_⟩) ?_) args_nil) ?_
  · rw [evM]
    rfl
  · rw [List.length_map, Array.length_toList]
    show s.length ≤ 100000
    omega
  · rw [all_map, h3]
theorem need_ok {r0 : IS} (hT : T.lookup P.i_need_names = some (P.fd_need_names r0)) (hN : T.lookup P.i_is_name = some P.fd_is_name) (hk : 2 ≤ k) {ss : List Str} (h : NamesOk ss) : evF T k P.i_need_names [.lst (ss.map .str)] c = .ok .non c := by
  obtain ⟨k, rfl⟩ : ∃ j, k = j + 1 := ⟨k - 1, by omega⟩
  obtain ⟨sl', c', h1, w1, w2, h2, h3⟩ := forR_i (tg := asT (.tp [(.nm 1), (.nm 2)])) (b := evSs (evF T k) (.cons (.ifs (.or (.not (.call false 30 [] [.arg 0] (.cons (.var 2) .nil) .nil)) (.cmp .inn (.var 2) (.slc (.var 0) .no (.so (.var 1))))) (.cons r0 .nil) .nil) .nil))
    (fun i sl c' => ∃ w1 w2, sl = [some (.lst (ss.map .str)), w1, w2] ∧ c' = c) (enumD (ss.map .str) 0) (fun i d hd sl c' hI => by
      obtain ⟨w1, w2, rfl, rfl⟩ := hI
      obtain ⟨x, hx, rfl⟩ := enum_get _ _ _ _ hd
      rw [List.getElem?_map] at hx
      cases hs : ss[i]? with
      | none => rw [hs] at hx; cases hx
      | some s =>
      rw [hs] at hx
      cases hx
      rw [Nat.zero_add]
      have hg := is_name_ok (c := c') hN (by omega : 1 ≤ k) (h.2 s (List.mem_of_getElem? hs))
      have q := cod_str.inB (by decide) (y := .lst ((ss.take i).map .str)) (c := c') (l := ss.take i) (a := s) (.inl rfl) (good_strOk (h.2 s (List.mem_of_getElem? hs))) (fun t ht => good_strOk (h.2 t (List.mem_of_mem_take ht)))
      have hn : s ∉ ss.take i := fun hm => by
        obtain ⟨j, hj, hj2⟩ := List.mem_iff_getElem.mp hm
        have hji : j < i := by
          rw [List.length_take] at hj
          omega
        have : (ss.take i)[j]? = some s := by rw [List.getElem?_eq_getElem hj, hj2]
        rw [List.getElem?_take, if_pos hji] at this
        have := nodup_at h.1 this hs
        omega
      simp only [hn, decide_false] at q
      refine ⟨[some (.lst (ss.map .str)), some (natD i), some (.str s)], [some (.lst (ss.map .str)), some (natD i), some (.str s)], c', rfl, step_nx (if_f (orT_ok (notT_ok (callT_ok (call_ok (ds := [.str s]) (args_cons (var_ok rfl) args_nil) args_nil rfl hg))) ?_) nil_ok) nil_ok, _, _, rfl, rfl⟩
      show evT (evF T k) _ _ _ = _
      refine cmpT_ok (var_ok rfl) (y := .lst ((ss.take i).map .str)) (c2 := c') ?_ q
      rw [evM, tst_f, var_ok rfl, bnd_ok]
      have o0 : ∀ sl c, evO (evF T k) .no sl c = .ok none c := fun _ _ => rfl
      have o1 : evO (evF T k) (.so (.var 1)) [some (.lst (ss.map .str)), some (natD i), some (.str s)] c' = .ok (some (i : Int)) c' := rfl
      rw [o0, bnd_ok, o1, bnd_ok]
      show Res.ok (D.lst (cutD (ss.map .str) none (some (i : Int)))) _ = _
      rw [cutk, List.map_take]) (sl := [some (.lst (ss.map .str)), none, none]) (c := c) ⟨none, none, rfl, rfl⟩
  subst h2
  rw [h3] at h1
  refine run_nx (sl := [some (.lst (ss.map .str)), w1, w2]) (c' := c) hT rfl ?_ (gcK_same _ _)
  show evSs (evF T k) (P.b_need_names r0) [some (.lst (ss.map .str)), none, none] c = _
  unfold P.b_need_names
  exact step_nx (for_ok (enum_ok (var_ok rfl)) h1) nil_ok
theorem good_ok (hT : T.lookup P.i_good_row = some P.fd_good_row) (hk : 1 ≤ k) {R : D} {r : List (Nat × List Int)} {nl no n : Nat} (hR : RowD R r) (hl : r.length = nl) (hp : ∀ p ∈ r, p.1 < n ∧ p.2.length = no ∧ ∀ m ∈ p.2, 0 ≤ m ∧ m ≤ 999999) (hno : no ≤ 1000) : evF T k P.i_good_row [R, natD nl, natD no, natD n] c = .ok (.bl true) c := by
  obtain ⟨k, rfl⟩ : ∃ j, k = j + 1 := ⟨k - 1, by omega⟩
  obtain ⟨sl', c', h1, w4, w5, h2, h3⟩ := forR_i (tg := asT (.tp [(.nm 4), (.nm 5)])) (b := evSs (evF T k) (.cons (.ifs (.or (.not (.chn .le .lt (.cst (.int 0)) (.var 4) (.var 3))) (.cmp .ne (.blt .len (.cons (.var 5) .nil)) (.var 2))) (.cons (.ret (.cst (.bl false))) .nil) .nil) (.cons (.ifs (.not (.blt .all (.cons (.comp false [6] (.nm 6) (.seq (.var 5)) (.cst (.bl true)) (.chn .le .le (.cst (.int 0)) (.var 6) (.cst (.int 999999)))) .nil))) (.cons (.ret (.cst (.bl false))) .nil) .nil) .nil)))
    (fun i sl c' => ∃ w4 w5, sl = [some R, some (natD nl), some (natD no), some (natD n), w4, w5, none] ∧ c' = c) (r.map dE) (fun i d hd sl c' hI => by
      obtain ⟨w4, w5, rfl, rfl⟩ := hI
      rw [List.getElem?_map] at hd
      cases hq : r[i]? with
      | none => rw [hq] at hd; cases hd
      | some p =>
      rw [hq] at hd
      cases hd
      obtain ⟨p1, p2, p3⟩ := hp p (List.mem_of_getElem? hq)
      have q1 := chnT_ok (call := evF T k) (sl := [some R, some (natD nl), some (natD no), some (natD n), some (natD p.1), some (.tup (p.2.map .int)), none]) (c := c') (a := .cst (.int 0)) (b := .var 4) (e := .var 3) (x := .int 0) (y := natD p.1) (z := natD n) rfl (var_ok rfl) (var_ok rfl) (cmp_le _ _ _) (cmp_lt _ _ _)
      rw [decide_eq_true (by omega), decide_eq_true (by omega)] at q1
      have q2 : cmpD .ne (.int ((p.2.map D.int).length : Int)) (natD no) c' = .ok (.bl (!decide (((p.2.map D.int).length : Int) = (no : Int)))) c' := cmp_neI _ _ _
      rw [decide_eq_true (by rw [List.length_map]; omega)] at q2
      refine ⟨[some R, some (natD nl), some (natD no), some (natD n), some (natD p.1), some (.tup (p.2.map .int)), none], [some R, some (natD nl), some (natD no), some (natD n), some (natD p.1), some (.tup (p.2.map .int)), none], c', rfl, step_nx (sl' := [some R, some (natD nl), some (natD no), some (natD n), some (natD p.1), some (.tup (p.2.map .int)), none]) (c' := c') (if_f (orT_ok (notT_ok q1) (cmpT_ok (blt_ok (args_cons (var_ok rfl) args_nil) (len_tup _ _)) (var_ok rfl) q2)) nil_ok) (step_nx (if_f (c1 := c') (notT_ok (v := true) (bltT_ok (blt_ok (ds := [.lst (p.2.map fun m => D.bl (decide (0 ≤ m) && decide (m ≤ 999999)))]) (args_cons (compf_ok (its := p.2.map .int) (seq_ok (var_ok rfl) rfl) (compR_lst D.int (fun m => D.bl (decide (0 ≤ m) && decide (m ≤ 999999))) _ fun m _ => ⟨[some R, some (natD nl), some (natD no), some (natD n), some (natD p.1), some (.tup (p.2.map .int)), some (.int m)], rfl, true_ok, chn_ok (x := .int 0) (y := .int m) (z := .int 999999) rfl (var_ok rfl) rfl (cmp_le _ _ _) (cmp_le _ _ _)⟩) (by simp; omega)) args_nil) ?_))) nil_ok) nil_ok), _, _, rfl, rfl⟩
      rw [all_map]
      have : (p.2.all fun m => decide (0 ≤ m) && decide (m ≤ 999999)) = true := List.all_eq_true.mpr fun m hm => by
        have := p3 m hm
        rw [decide_eq_true this.1, decide_eq_true this.2]
        rfl
      rw [this]) (sl := [some R, some (natD nl), some (natD no), some (natD n), none, none, none]) (c := c) ⟨none, none, rfl, rfl⟩
  subst h2
  rw [h3] at h1
  refine run_rt (d := .bl true) (sl := [some R, some (natD nl), some (natD no), some (natD n), w4, w5, none]) (c' := c) hT rfl ?_ (gcK_same _ _)
  show evSs (evF T k) P.b_good_row [some R, some (natD nl), some (natD no), some (natD n), none, none, none] c = _
  unfold P.b_good_row
  have q0 : cmpD .ne (.int ((r.map dE).length : Int)) (natD nl) c = .ok (.bl (!decide (((r.map dE).length : Int) = (nl : Int)))) c := cmp_neI _ _ _
  rw [decide_eq_true (by rw [List.length_map]; omega)] at q0
  refine step_nx (if_f (cmpT_ok (blt_ok (args_cons (var_ok rfl) args_nil) (len_its (hR.its _))) (var_ok rfl) q0) nil_ok) ?_
  exact step_nx (for_ok (seq_ok (var_ok rfl) (hR.seq _)) h1) (step_rt (ret_ok rfl))
end
end Hv

set_option Elab.async false
set_option linter.all false
set_option maxRecDepth 100000
set_option maxHeartbeats 4000000
/-! HvYE: a machine is made. -/
namespace Hv
open PySem PySem.Spec PyProof.Rows L2

/-- the program's defs that a machine's making asks -/
structure LibM (T : Tab) : Prop where
  added : T.lookup P.i_added = some P.fd_added
  fresh : T.lookup P.i_fresh_ones = some P.fd_fresh_ones
  come : T.lookup P.i_come_to = some P.fd_come_to
  isn : T.lookup P.i_is_name = some P.fd_is_name
  need : ∃ r0, T.lookup P.i_need_names = some (P.fd_need_names r0)
  good : T.lookup P.i_good_row = some P.fd_good_row
  both : T.lookup P.i_both_ways = some P.fd_both_ways
  heed : T.lookup P.i_heeded = some P.fd_heeded
  init : ∃ r0 r1 r2 r3, T.lookup P.i_Machine_init = some (P.fd_Machine_init r0 r1 r2 r3)
theorem TabD.idx {t : D} {rows : Rows} (h : TabD t rows) {s : Nat} {r : List (Nat × List Int)} (hs : rows[s]? = some r) : ∃ R, RowD R r ∧ ∀ c, idxD t (natD s) c = .ok R c := by
  obtain ⟨ts, rfl, _, hr⟩ := h
  obtain ⟨R, h1, h2⟩ := hr s r hs
  exact ⟨R, h2, fun c => idx_nat (xs := ts) rfl (by omega) (by rw [Int.toNat_natCast]; exact h1)⟩
theorem TabD.len {t : D} {rows : Rows} (h : TabD t rows) (c : Ct) : bltD .len [t] c = .ok (.int (rows.length : Int)) c := by
  obtain ⟨ts, rfl, hl, _⟩ := h
  rw [len_lst, hl]
theorem RowD.idx {R : D} {r : List (Nat × List Int)} (h : RowD R r) {a : Nat} {p : Nat × List Int} (ha : r[a]? = some p) (c : Ct) : idxD R (natD a) c = .ok (dE p) c := idx_nat (h.its c) (by omega) (by rw [Int.toNat_natCast, List.getElem?_map, ha]; rfl)
def stepD (n : Nat) (v : List Int) : D := .tup [natD n, .tup (v.map .int)]
theorem cod_step : Cod (fun q : Nat × List Int => D.tup [natD q.1, D.tup (q.2.map .int)]) (fun q => PyData.tuple [.int (q.1 : Int), .tuple (q.2.map .int)]) 2 (fun _ => True) := (cod_nat.pair cod_int.tup).weak (fun _ _ => ⟨trivial, fun _ _ => trivial⟩) (by decide)
section
variable {T : Tab} {k : Nat} {c : Ct} {rows : Rows} {nl no : Nat} {t : D}
theorem both_ok (L : LibM T) (hk : 2 ≤ k) (hT : TabOk rows nl no) (hno : no ≤ 1000) (ht : TabD t rows) {s a b : Nat} (hs : s < rows.length) (ha : a < nl) (hb : b < nl) : evF T k P.i_both_ways [t, natD s, natD a, natD b] c = .ok (stepD (nxt rows (nxt rows s a) b) (vadd (out rows s a) (out rows (nxt rows s a) b))) c := by
  obtain ⟨k, rfl⟩ : ∃ j, k = j + 1 := ⟨k - 1, by omega⟩
  obtain ⟨r1, h1, h2, h3, h4, _⟩ := hT.cell hs ha
  obtain ⟨r2, g1, g2, g3, g4, _⟩ := hT.cell h3 hb
  obtain ⟨R1, q1, q2⟩ := ht.idx h1
  obtain ⟨R2, p1, p2⟩ := ht.idx g1
  have hadd := added_ok (c := c) L.added (by omega : 1 ≤ k) (u := out rows s a) (v := out rows (nxt rows s a) b) (by omega) (by omega)
  refine run_rt (d := stepD (nxt rows (nxt rows s a) b) (vadd (out rows s a) (out rows (nxt rows s a) b))) (sl := [some t, some (natD s), some (natD a), some (natD b), some (natD (nxt rows s a)), some (.tup ((out rows s a).map .int)), some (natD (nxt rows (nxt rows s a) b)), some (.tup ((out rows (nxt rows s a) b).map .int))]) (c' := c) L.both rfl ?_ (gcK_same _ _)
  show evSs (evF T k) P.b_both_ways [some t, some (natD s), some (natD a), some (natD b), none, none, none, none] c = _
  unfold P.b_both_ways
  refine step_nx (sl' := [some t, some (natD s), some (natD a), some (natD b), some (natD (nxt rows s a)), some (.tup ((out rows s a).map .int)), none, none]) (c' := c) (asg_ok (d := dE (cell rows s a)) (idx_ok (idx_ok (var_ok rfl) (var_ok rfl) (q2 _)) (var_ok rfl) (q1.idx h2 _)) rfl) ?_
  refine step_nx (sl' := [some t, some (natD s), some (natD a), some (natD b), some (natD (nxt rows s a)), some (.tup ((out rows s a).map .int)), some (natD (nxt rows (nxt rows s a) b)), some (.tup ((out rows (nxt rows s a) b).map .int))]) (c' := c) (asg_ok (d := dE (cell rows (nxt rows s a) b)) (idx_ok (idx_ok (var_ok rfl) (var_ok rfl) (p2 _)) (var_ok rfl) (p1.idx g2 _)) rfl) ?_
  exact step_rt (ret_ok (tup_ok (args_cons (var_ok rfl) (args_cons (call_ok (ds := [.tup ((out rows s a).map .int), .tup ((out rows (nxt rows s a) b).map .int)]) (args_cons (var_ok rfl) (args_cons (var_ok rfl) args_nil)) args_nil rfl hadd) args_nil)) (by simp)))
set_option maxHeartbeats 8000000 in
theorem heed_ok (L : LibM T) (hk : 3 ≤ k) (hT : TabOk rows nl no) (hno : no ≤ 1000) (hn : rows.length ≤ 1000) (hnl : nl ≤ 1000) (ht : TabD t rows) : evF T k P.i_heeded [t] c = .ok .non c := by
  obtain ⟨k, rfl⟩ : ∃ j, k = j + 1 := ⟨k - 1, by omega⟩
  have rl : ∀ s, s < rows.length → ∃ R r, RowD R r ∧ r.length = nl ∧ ∀ c, idxD t (natD s) c = .ok R c := fun s hs => by
    have h1 : rows[s]? = some (rows[s]'hs) := List.getElem?_eq_getElem hs
    obtain ⟨R, h2, h3⟩ := ht.idx h1
    exact ⟨R, _, h2, hT.shp _ (List.mem_of_getElem? h1), h3⟩
  have at_ : ∀ {n i : Nat} {d : D} {f : Nat → D}, ((List.range n).map f)[i]? = some d → i < n ∧ d = f i := fun {n i d f} h => by
    rw [List.getElem?_map] at h
    by_cases hi : i < n
    · rw [List.getElem?_range hi] at h
      cases h
      exact ⟨hi, rfl⟩
    · rw [List.getElem?_eq_none (by rw [List.length_range]; omega)] at h
      cases h
  obtain ⟨sl', c', h1, w1, w2, w3, h2, h3⟩ := forR_i (tg := asT (.nm 1)) (b := evSs (evF T k) (.cons (.for (.nm 2) (.rng1 (.blt .len (.cons (.idx (.var 0) (.var 1)) .nil))) (.cons (.for (.nm 3) (.rng2 (.bin false .add (.var 2) (.cst (.int 1))) (.blt .len (.cons (.idx (.var 0) (.var 1)) .nil))) (.cons (.ifs (.cmp .ne (.call false 31 [] [.arg 0, .arg 1, .arg 2, .arg 3] (.cons (.var 0) (.cons (.var 1) (.cons (.var 2) (.cons (.var 3) .nil)))) .nil) (.call false 31 [] [.arg 0, .arg 1, .arg 2, .arg 3] (.cons (.var 0) (.cons (.var 1) (.cons (.var 3) (.cons (.var 2) .nil)))) .nil)) (.cons (.ret (.tup (.cons (.var 1) (.cons (.var 2) (.cons (.var 3) .nil))))) .nil) .nil) .nil)) .nil)) .nil))
    (fun _ sl c' => ∃ w1 w2 w3, sl = [some t, w1, w2, w3] ∧ c' = c) ((List.range rows.length).map fun (i : Nat) => D.int (i : Int)) (fun s d hd sl c' hI => by
      obtain ⟨w1, w2, w3, rfl, rfl⟩ := hI
      obtain ⟨hs, rfl⟩ := at_ hd
      obtain ⟨R, r, hR, hrl, hix⟩ := rl s hs
      have hlen : ∀ w2 w3, evM (evF T k) false (.blt .len (.cons (.idx (.var 0) (.var 1)) .nil)) [some t, some (natD s), w2, w3] c' = .ok (.int (nl : Int)) c' := fun w2 w3 => by
        refine blt_ok (args_cons (idx_ok (var_ok rfl) (var_ok rfl) (hix _)) args_nil) ?_
        rw [len_its (hR.its _), List.length_map, hrl]
      obtain ⟨sl2, c2, g1, v2, v3, g2, g3⟩ := forR_i (tg := asT (.nm 2)) (b := evSs (evF T k) (.cons (.for (.nm 3) (.rng2 (.bin false .add (.var 2) (.cst (.int 1))) (.blt .len (.cons (.idx (.var 0) (.var 1)) .nil))) (.cons (.ifs (.cmp .ne (.call false 31 [] [.arg 0, .arg 1, .arg 2, .arg 3] (.cons (.var 0) (.cons (.var 1) (.cons (.var 2) (.cons (.var 3) .nil)))) .nil) (.call false 31 [] [.arg 0, .arg 1, .arg 2, .arg 3] (.cons (.var 0) (.cons (.var 1) (.cons (.var 3) (.cons (.var 2) .nil)))) .nil)) (.cons (.ret (.tup (.cons (.var 1) (.cons (.var 2) (.cons (.var 3) .nil))))) .nil) .nil) .nil)) .nil))
        (fun _ sl c2 => ∃ w2 w3, sl = [some t, some (natD s), w2, w3] ∧ c2 = c') ((List.range nl).map fun (i : Nat) => D.int (i : Int)) (fun a d hd sl c2 hI => by
          obtain ⟨w2, w3, rfl, rfl⟩ := hI
          obtain ⟨ha, rfl⟩ := at_ hd
          obtain ⟨sl3, c3, f1, u3, f2, f3⟩ := forR_i (tg := asT (.nm 3)) (b := evSs (evF T k) (.cons (.ifs (.cmp .ne (.call false 31 [] [.arg 0, .arg 1, .arg 2, .arg 3] (.cons (.var 0) (.cons (.var 1) (.cons (.var 2) (.cons (.var 3) .nil)))) .nil) (.call false 31 [] [.arg 0, .arg 1, .arg 2, .arg 3] (.cons (.var 0) (.cons (.var 1) (.cons (.var 3) (.cons (.var 2) .nil)))) .nil)) (.cons (.ret (.tup (.cons (.var 1) (.cons (.var 2) (.cons (.var 3) .nil))))) .nil) .nil) .nil))
            (fun _ sl c3 => ∃ w3, sl = [some t, some (natD s), some (natD a), w3] ∧ c3 = c2) ((List.range (nl - (a + 1))).map fun (i : Nat) => natD (a + 1 + i)) (fun b0 d hd sl c3 hI => by
              obtain ⟨w3, rfl, rfl⟩ := hI
              obtain ⟨hb0, rfl⟩ := at_ hd
              have hb : a + 1 + b0 < nl := by omega
              generalize a + 1 + b0 = b at hb
              have e1 := both_ok (c := c3) L (by omega : 2 ≤ k) hT hno ht hs ha hb
              have e2 := both_ok (c := c3) L (by omega : 2 ≤ k) hT hno ht hs hb ha
              obtain ⟨z1, z2⟩ := hT.com s a b hs ha hb
              have q := cod_step.ne (by decide) (a := (nxt rows (nxt rows s a) b, vadd (out rows s a) (out rows (nxt rows s a) b))) (b := (nxt rows (nxt rows s b) a, vadd (out rows s b) (out rows (nxt rows s b) a))) trivial trivial rfl c3
              rw [decide_eq_true (by rw [z1, z2])] at q
              exact ⟨[some t, some (natD s), some (natD a), some (natD b)], [some t, some (natD s), some (natD a), some (natD b)], c3, rfl, step_nx (if_f (cmpT_ok (call_ok (ds := [t, natD s, natD a, natD b]) (args_cons (var_ok rfl) (args_cons (var_ok rfl) (args_cons (var_ok rfl) (args_cons (var_ok rfl) args_nil)))) args_nil rfl e1) (call_ok (ds := [t, natD s, natD b, natD a]) (args_cons (var_ok rfl) (args_cons (var_ok rfl) (args_cons (var_ok rfl) (args_cons (var_ok rfl) args_nil)))) args_nil rfl e2) q) nil_ok) nil_ok, _, rfl, rfl⟩) (sl := [some t, some (natD s), some (natD a), w3]) (c := c2) ⟨w3, rfl, rfl⟩
          subst f2
          rw [f3] at f1
          refine ⟨[some t, some (natD s), some (natD a), w3], [some t, some (natD s), some (natD a), u3], c2, rfl, step_nx (for_ok (rng2_ok (i := a + 1) (n := nl) (bin_ok (x := natD a) (y := .int 1) (var_ok rfl) rfl ?_) (hlen _ _) (by omega) (by omega)) f1) nil_ok, _, _, rfl, rfl⟩
          show binD false .add (.int (a : Int)) (.int 1) _ = _
          rw [bin_add, Int.natCast_add]
          rfl) (sl := [some t, some (natD s), w2, w3]) (c := c') ⟨w2, w3, rfl, rfl⟩
      subst g2
      rw [g3] at g1
      exact ⟨[some t, some (natD s), w2, w3], [some t, some (natD s), v2, v3], c', rfl, step_nx (for_ok (rng1_ok (n := nl) (hlen _ _) (by omega)) g1) nil_ok, _, _, _, rfl, rfl⟩) (sl := [some t, none, none, none]) (c := c) ⟨none, none, none, rfl, rfl⟩
  subst h2
  rw [h3] at h1
  refine run_rt (d := .non) (sl := [some t, w1, w2, w3]) (c' := c) L.heed rfl ?_ (gcK_same _ _)
  show evSs (evF T k) P.b_heeded [some t, none, none, none] c = _
  unfold P.b_heeded
  exact step_nx (for_ok (rng1_ok (n := rows.length) (blt_ok (args_cons (var_ok rfl) args_nil) (ht.len _)) (by omega)) h1) (step_rt (ret_ok rfl))
end
end Hv

set_option Elab.async false
set_option linter.all false
set_option maxRecDepth 100000
set_option maxHeartbeats 4000000
/-! HvYF: a machine is made. -/
namespace Hv
open PySem PySem.Spec PyProof.Rows L2

theorem sto_ok {n : Nat} {C f : Str} {fs : List (Str × D)} {d : D} {c : Ct} (h : c[n]? = some (.ins C fs)) (hl : fs.length < 1000) : stoD C f (.ref n) d c = some (c.set n (.ins C (putF' f d fs))) := by
  unfold stoD
  dsimp only
  rw [h]
  dsimp only
  rw [if_pos ⟨rfl, hl⟩]
theorem stoE_ok {call : CallF} {ts : List XT} {e : IE} {sl sl' : Sl} {c c1 c2 : Ct} {d : D} (h : evM call false e sl c = .ok d c1) (h2 : stoK ts sl d c1 = .ok (.nx sl') c2) : evS call (.sto ts e) sl c = .ok (.nx sl') c2 := by
  rw [evS]
  show ofR (evM call false e sl c) sl _ = _
  rw [h, ofR_ok]
  exact h2
abbrev sIn : Str := "inward"
abbrev sOut : Str := "outward"
abbrev sTab : Str := "table"
def machF (ins outs : List Str) (rows : Rows) : List (Str × D) := [(sIn, .lst (ins.map .str)), (sOut, .lst (outs.map .str)), (sTab, dTab rows)]
def mach (ins outs : List Str) (rows : Rows) : D := .ins "Machine" (machF ins outs rows)
theorem pl_T (rows : Rows) : rLt 0 (dTab rows) = true := by
  unfold dTab
  rw [rLt]
  refine rLts_all fun d hd => ?_
  obtain ⟨p, _, rfl⟩ := List.mem_map.mp hd
  unfold dT
  rw [rLt]
  exact pl_Es p
theorem pl_mach (ins outs : List Str) (rows : Rows) : rLt 0 (mach ins outs rows) = true := by
  unfold mach machF
  simp only [rLt, rLtf, rLts_strs]
  rw [pl_T]
  rfl
theorem list_its {x : D} {c : Ct} {xs : List D} (h : itsD x c = some xs) : bltD .list [x] c = .ok (.lst xs) c := by
  show (match itsD x c with | some xs => (Res.ok (D.lst xs) c : Res D) | none => .stuck) = _
  rw [h]
theorem tuple_its {x : D} {c : Ct} {xs : List D} (h : itsD x c = some xs) : bltD .tuple [x] c = .ok (.tup xs) c := by
  show (match itsD x c with | some xs => (Res.ok (D.tup xs) c : Res D) | none => .stuck) = _
  rw [h]
theorem ne_io : ¬ (sIn = sOut) := by decide +kernel
theorem ne_it : ¬ (sIn = sTab) := by decide +kernel
theorem ne_ot : ¬ (sOut = sTab) := by decide +kernel
theorem put_2 (a b : D) : putF' sOut b (putF' sIn a []) = [(sIn, a), (sOut, b)] := by
  show (if sIn = sOut then _ else _) = _
  rw [if_neg ne_io]
  rfl
theorem put_3 (a b d : D) : putF' sTab d [(sIn, a), (sOut, b)] = [(sIn, a), (sOut, b), (sTab, d)] := by
  show (if sIn = sTab then _ else _) = _
  rw [if_neg ne_it]
  show (sIn, a) :: (if sOut = sTab then _ else _) = _
  rw [if_neg ne_ot]
  rfl
theorem get_t (ins outs : List Str) (rows : Rows) : (machF ins outs rows).lookup sTab = some (dTab rows) := by
  unfold machF
  have h1 : (sTab == sIn) = false := by decide +kernel
  have h2 : (sTab == sOut) = false := by decide +kernel
  rw [List.lookup_cons, h1]
  show List.lookup _ _ = _
  rw [List.lookup_cons, h2]
  show List.lookup _ _ = _
  rw [List.lookup_cons, BEq.rfl]
theorem get_i (ins outs : List Str) (rows : Rows) : (machF ins outs rows).lookup sIn = some (.lst (ins.map .str)) := by
  unfold machF
  rw [List.lookup_cons, BEq.rfl]
theorem get_o (ins outs : List Str) (rows : Rows) : (machF ins outs rows).lookup sOut = some (.lst (outs.map .str)) := by
  unfold machF
  have h1 : (sOut == sIn) = false := by decide +kernel
  rw [List.lookup_cons, h1]
  show List.lookup _ _ = _
  rw [List.lookup_cons, BEq.rfl]
theorem TabOk.hin {rows : Rows} {nl no : Nat} (hT : TabOk rows nl no) : ∀ s t, s < rows.length → t ∈ succs rows s → t < rows.length := fun s t hs ht => by
  unfold succs at ht
  rw [List.getD_eq_getElem?_getD, List.getElem?_eq_getElem hs] at ht
  obtain ⟨p, hp, rfl⟩ := List.mem_map.mp ht
  exact (hT.inr _ (List.getElem_mem hs) p hp).1
theorem TabOk.succ_mem {rows : Rows} {nl no : Nat} (hT : TabOk rows nl no) {s t : Nat} (hs : s < rows.length) : t ∈ succs rows s ↔ ∃ a, a < nl ∧ t = nxt rows s a := by
  have h1 : rows[s]? = some (rows[s]'hs) := List.getElem?_eq_getElem hs
  have hl := hT.shp _ (List.mem_of_getElem? h1)
  unfold succs
  rw [List.getD_eq_getElem?_getD, h1]
  show t ∈ (rows[s]'hs).map (·.1) ↔ _
  constructor
  · intro h
    obtain ⟨p, hp, rfl⟩ := List.mem_map.mp h
    obtain ⟨a, ha, ha2⟩ := List.mem_iff_getElem.mp hp
    refine ⟨a, by omega, ?_⟩
    unfold nxt
    rw [tcell_of h1 (show (rows[s]'hs)[a]? = some p by rw [List.getElem?_eq_getElem ha, ha2])]
  · rintro ⟨a, ha, rfl⟩
    obtain ⟨r, q1, q2, _⟩ := hT.cell hs ha
    rw [h1] at q1
    cases q1
    exact List.mem_map.mpr ⟨_, List.mem_of_getElem? q2, rfl⟩
section
variable {T : Tab} {k : Nat} {c : Ct} {ins outs : List Str} {rows : Rows}
/-- all stands are come to from the first -/
theorem come_all {nl no : Nat} (hT : TabOk rows nl no) : ∀ s, s < rows.length → s ∈ comeTo rows 0 := fun s hs => by
  have hin := hT.hin
  obtain ⟨h1, h2⟩ := come_spec (first := 0) (by have := hT.n1; omega) hin
  have key : ∀ t, Reach rows nl t → t ∈ comeTo rows 0 := fun t ht => by
    induction ht with
    | zero => exact h1.fst
    | @step s a h hs ha ih => exact h2 s ih _ ((hT.succ_mem hs).mpr ⟨a, ha, rfl⟩)
  exact key s (hT.rch s hs)
set_option maxHeartbeats 16000000 in
theorem minit_ok (L : LibM T) (hk : 5 ≤ k) (hD : DevOk ins outs rows 60) :
    evF T k P.i_Machine_init [.ref c.length, .lst (ins.map .str), .lst (outs.map .str), dRows rows] (c ++ [Cell.ins "Machine" []]) = .ok .non (c ++ [Cell.ins "Machine" (machF ins outs rows)]) := by
  obtain ⟨k, rfl⟩ : ∃ j, k = j + 1 := ⟨k - 1, by omega⟩
  obtain ⟨r0, r1, r2, r3, hI⟩ := L.init
  obtain ⟨n0, hN⟩ := L.need
  have hi1 := hD.i1
  have hi3 := hD.i3
  have ho3 := hD.o3
  have hm := hD.m
  have hn1 := hD.t.n1
  have hin := hD.t.hin
  have A : ∀ {fs : List (Str × D)}, (c ++ [Cell.ins "Machine" fs])[c.length]? = some (Cell.ins "Machine" fs) := at_end _ _
  have li : ∀ w4 w5 w8 w9 w10 cc, evM (evF T k) false (.blt .len (.cons (.var 1) .nil)) [some (.ref c.length), some (.lst (ins.map .str)), some (.lst (outs.map .str)), some (dRows rows), w4, w5, none, none, w8, w9, w10] cc = .ok (natD ins.length) cc := fun _ _ _ _ _ cc => blt_ok (args_cons (var_ok rfl) args_nil) (by rw [len_lst, List.length_map]; rfl)
  have lo : ∀ w4 w5 w8 w9 w10 cc, evM (evF T k) false (.blt .len (.cons (.var 2) .nil)) [some (.ref c.length), some (.lst (ins.map .str)), some (.lst (outs.map .str)), some (dRows rows), w4, w5, none, none, w8, w9, w10] cc = .ok (natD outs.length) cc := fun _ _ _ _ _ cc => blt_ok (args_cons (var_ok rfl) args_nil) (by rw [len_lst, List.length_map]; rfl)
  have lr : ∀ w4 w5 w8 w9 w10 cc, evM (evF T k) false (.blt .len (.cons (.var 3) .nil)) [some (.ref c.length), some (.lst (ins.map .str)), some (.lst (outs.map .str)), some (dRows rows), w4, w5, none, none, w8, w9, w10] cc = .ok (natD rows.length) cc := fun _ _ _ _ _ cc => blt_ok (args_cons (var_ok rfl) args_nil) (by unfold dRows; rw [len_lst, List.length_map]; rfl)
  -- the rows
  obtain ⟨sl1, c1, f1, w4, w5, f2, f3⟩ := forR_i (tg := asT (.tp [(.nm 4), (.nm 5)])) (b := evSs (evF T k) (.cons (.ifs (.not (.call false 21 [] [.arg 0, .arg 1, .arg 2, .arg 3] (.cons (.var 5) (.cons (.blt .len (.cons (.var 1) .nil)) (.cons (.blt .len (.cons (.var 2) .nil)) (.cons (.blt .len (.cons (.var 3) .nil)) .nil)))) .nil)) (.cons r1 .nil) .nil) .nil))
    (fun _ sl cc => ∃ w4 w5, sl = [some (.ref c.length), some (.lst (ins.map .str)), some (.lst (outs.map .str)), some (dRows rows), w4, w5, none, none, none, none, none] ∧ cc = c ++ [Cell.ins "Machine" []]) (enumD (rows.map dR) 0) (fun i d hd sl cc hI' => by
      obtain ⟨w4, w5, rfl, rfl⟩ := hI'
      obtain ⟨x, hx, rfl⟩ := enum_get _ _ _ _ hd
      rw [List.getElem?_map] at hx
      cases hr : rows[i]? with
      | none => rw [hr] at hx; cases hx
      | some r =>
      rw [hr] at hx
      cases hx
      rw [Nat.zero_add]
      have hrm := List.mem_of_getElem? hr
      have e := good_ok (c := c ++ [Cell.ins "Machine" []]) (R := dR r) L.good (by omega : 1 ≤ k) (.inl rfl) (hD.t.shp r hrm) (hD.t.inr r hrm) (by omega)
      exact ⟨[some (.ref c.length), some (.lst (ins.map .str)), some (.lst (outs.map .str)), some (dRows rows), some (natD i), some (dR r), none, none, none, none, none], [some (.ref c.length), some (.lst (ins.map .str)), some (.lst (outs.map .str)), some (dRows rows), some (natD i), some (dR r), none, none, none, none, none], c ++ [Cell.ins "Machine" []], rfl, step_nx (if_f (notT_ok (callT_ok (call_ok (ds := [dR r, natD ins.length, natD outs.length, natD rows.length]) (args_cons (var_ok rfl) (args_cons (li _ _ _ _ _ _) (args_cons (lo _ _ _ _ _ _) (args_cons (lr _ _ _ _ _ _) args_nil)))) args_nil rfl e))) nil_ok) nil_ok, _, _, rfl, rfl⟩)
    (sl := [some (.ref c.length), some (.lst (ins.map .str)), some (.lst (outs.map .str)), some (dRows rows), none, none, none, none, none, none, none]) (c := c ++ [Cell.ins "Machine" []]) ⟨none, none, rfl, rfl⟩
  subst f2
  rw [f3] at f1
  -- all stands are come to
  obtain ⟨sl2, c2, g1, w9, g2, g3⟩ := forR_i (tg := asT (.nm 9)) (b := evSs (evF T k) (.cons (.ifs (.cmp .nin (.var 9) (.var 8)) (.cons r2 .nil) .nil) .nil))
    (fun _ sl cc => ∃ w9, sl = [some (.ref c.length), some (.lst (ins.map .str)), some (.lst (outs.map .str)), some (dRows rows), w4, w5, none, none, some (.lst ((comeTo rows 0).map natD)), w9, none] ∧ cc = c ++ [Cell.ins "Machine" (machF ins outs rows)]) ((List.range rows.length).map fun (i : Nat) => D.int (i : Int)) (fun i d hd sl cc hI' => by
      obtain ⟨w9, rfl, rfl⟩ := hI'
      rw [List.getElem?_map] at hd
      by_cases hi : i < rows.length
      · rw [List.getElem?_range hi] at hd
        cases hd
        have q := cod_nat.ninB (by decide) (y := .lst ((comeTo rows 0).map natD)) (c := c ++ [Cell.ins "Machine" (machF ins outs rows)]) (l := comeTo rows 0) (a := i) (.inl rfl) trivial (fun _ _ => trivial)
        simp only [come_all hD.t i hi, decide_true, Bool.not_true] at q
        exact ⟨[some (.ref c.length), some (.lst (ins.map .str)), some (.lst (outs.map .str)), some (dRows rows), w4, w5, none, none, some (.lst ((comeTo rows 0).map natD)), some (natD i), none], [some (.ref c.length), some (.lst (ins.map .str)), some (.lst (outs.map .str)), some (dRows rows), w4, w5, none, none, some (.lst ((comeTo rows 0).map natD)), some (natD i), none], _, rfl, step_nx (if_f (cmpT_ok (var_ok rfl) (var_ok rfl) q) nil_ok) nil_ok, _, rfl, rfl⟩
      · rw [List.getElem?_eq_none (by rw [List.length_range]; omega)] at hd
        cases hd) (sl := [some (.ref c.length), some (.lst (ins.map .str)), some (.lst (outs.map .str)), some (dRows rows), w4, w5, none, none, some (.lst ((comeTo rows 0).map natD)), none, none]) (c := c ++ [Cell.ins "Machine" (machF ins outs rows)]) ⟨none, rfl, rfl⟩
  subst g2
  rw [g3] at g1
  have rl : ∀ r ∈ rows, r.length ≤ 1000 := fun r hr => by have := hD.t.shp r hr; omega
  have fT : ∀ w8 w9 w10, evM (evF T k) false (.fld "Machine" "table" (.var 0)) [some (.ref c.length), some (.lst (ins.map .str)), some (.lst (outs.map .str)), some (dRows rows), w4, w5, none, none, w8, w9, w10] (c ++ [Cell.ins "Machine" (machF ins outs rows)]) = .ok (dTab rows) (c ++ [Cell.ins "Machine" (machF ins outs rows)]) := fun _ _ _ =>
    fld_ok (fs := machF ins outs rows) (var_ok rfl) (by unfold insD; dsimp only; rw [A]) (get_t ins outs rows)
  have eC := come_ok (c := c ++ [Cell.ins "Machine" (machF ins outs rows)]) L.come L.fresh (by omega : 2 ≤ k) (tab_t rows) (by omega) rl (first := 0) (by omega) hin
  have eH := heed_ok (c := c ++ [Cell.ins "Machine" (machF ins outs rows)]) L (by omega : 3 ≤ k) hD.t (by omega) (by omega) (by omega) (tab_t rows)
  have n1 := need_ok (c := c ++ [Cell.ins "Machine" []]) hN L.isn (by omega : 2 ≤ k) hD.i
  have n2 := need_ok (c := c ++ [Cell.ins "Machine" []]) hN L.isn (by omega : 2 ≤ k) hD.o
  refine run_nx (sl := [some (.ref c.length), some (.lst (ins.map .str)), some (.lst (outs.map .str)), some (dRows rows), w4, w5, none, none, some (.lst ((comeTo rows 0).map natD)), w9, some .non]) (c' := c ++ [Cell.ins "Machine" (machF ins outs rows)]) hI rfl ?_ (gcK_len (by simp) _)
  show evSs (evF T k) (P.b_Machine_init r0 r1 r2 r3) [some (.ref c.length), some (.lst (ins.map .str)), some (.lst (outs.map .str)), some (dRows rows), none, none, none, none, none, none, none] (c ++ [Cell.ins "Machine" []]) = _
  unfold P.b_Machine_init
  have q1 := chnT_ok (call := evF T k) (c := c ++ [Cell.ins "Machine" []]) (a := .cst (.int 1)) (e := .cst (.int 3)) (x := .int 1) (y := natD ins.length) (z := .int 3) rfl (li none none none none none _) rfl (cmp_le _ _ _) (cmp_le _ _ _)
  rw [decide_eq_true (by omega), decide_eq_true (by omega)] at q1
  have q2 := cmpT_ok (call := evF T k) (b := .cst (.int 3)) (y := .int 3) (lo none none none none none (c ++ [Cell.ins "Machine" []])) rfl (cmp_gt _ _ _)
  rw [decide_eq_false (by omega)] at q2
  have q3 := chnT_ok (call := evF T k) (c := c ++ [Cell.ins "Machine" []]) (a := .cst (.int 1)) (e := .cst (.int 60)) (x := .int 1) (y := natD rows.length) (z := .int 60) rfl (lr none none none none none _) rfl (cmp_le _ _ _) (cmp_le _ _ _)
  rw [decide_eq_true (by omega), decide_eq_true (by omega)] at q3
  refine step_nx (if_f (orT_ok (notT_ok q1) (orT_ok q2 (notT_ok q3))) nil_ok) ?_
  refine step_nx (expr_ok (call_ok (ds := [.lst (ins.map .str)]) (args_cons (var_ok rfl) args_nil) args_nil rfl n1)) ?_
  refine step_nx (expr_ok (call_ok (ds := [.lst (outs.map .str)]) (args_cons (var_ok rfl) args_nil) args_nil rfl n2)) ?_
  refine step_nx (for_ok (enum_ok (var_ok rfl)) f1) ?_
  refine step_nx (sl' := [some (.ref c.length), some (.lst (ins.map .str)), some (.lst (outs.map .str)), some (dRows rows), w4, w5, none, none, none, none, none]) (c' := c ++ [Cell.ins "Machine" [(sIn, .lst (ins.map .str)), (sOut, .lst (outs.map .str))]]) (stoE_ok (tup_ok (args_cons (blt_ok (args_cons (var_ok rfl) args_nil) (list_its rfl)) (args_cons (blt_ok (args_cons (var_ok rfl) args_nil) (list_its rfl)) args_nil)) (by simp)) ?_) ?_
  · have s1 := sto_ok (C := "Machine") (f := sIn) (d := .lst (ins.map .str)) (A (fs := [])) (by simp)
    rw [set_end] at s1
    have s2 := sto_ok (C := "Machine") (f := sOut) (d := .lst (outs.map .str)) (A (fs := putF' sIn (.lst (ins.map .str)) [])) (by show 1 < 1000; decide)
    rw [set_end, put_2] at s2
    unfold stoK xtsD xtD
    dsimp only [List.getElem?_cons_zero]
    rw [s1]
    dsimp only [Option.map_some, Option.bind_some]
    unfold xtsD xtD
    dsimp only [List.getElem?_cons_zero]
    rw [s2]
    rfl
  refine step_nx (sl' := [some (.ref c.length), some (.lst (ins.map .str)), some (.lst (outs.map .str)), some (dRows rows), w4, w5, none, none, none, none, none]) (c' := c ++ [Cell.ins "Machine" (machF ins outs rows)]) (stoE_ok (d := dTab rows) (c1 := c ++ [Cell.ins "Machine" [(sIn, .lst (ins.map .str)), (sOut, .lst (outs.map .str))]]) (compf_ok (its := rows.map dR) (seq_ok (var_ok rfl) rfl) (compR_lst dR dT _ fun r hr => ⟨[some (.ref c.length), some (.lst (ins.map .str)), some (.lst (outs.map .str)), some (dRows rows), w4, some (dR r), none, none, none, none, none], rfl, true_ok, ?_⟩) (by simp; omega)) ?_) ?_
  · refine blt_ok (args_cons (compf_ok (its := r.map dE) (seq_ok (var_ok rfl) rfl) (compR_lst dE dE _ fun p hp => ⟨[some (.ref c.length), some (.lst (ins.map .str)), some (.lst (outs.map .str)), some (dRows rows), w4, some (dR r), some (natD p.1), some (.tup (p.2.map .int)), none, none, none], rfl, true_ok, tup_ok (args_cons (var_ok rfl) (args_cons (blt_ok (args_cons (var_ok rfl) args_nil) (tuple_its rfl)) args_nil)) (by simp)⟩) ?_) args_nil) rfl
    have := rl r hr
    simp
    omega
  · have s3 := sto_ok (C := "Machine") (f := sTab) (d := dTab rows) (A (fs := [(sIn, .lst (ins.map .str)), (sOut, .lst (outs.map .str))])) (by simp)
    rw [set_end, put_3] at s3
    unfold stoK xtD
    dsimp only [List.getElem?_cons_zero]
    rw [s3]
    rfl
  refine step_nx (sl' := [some (.ref c.length), some (.lst (ins.map .str)), some (.lst (outs.map .str)), some (dRows rows), w4, w5, none, none, some (.lst ((comeTo rows 0).map natD)), none, none]) (c' := c ++ [Cell.ins "Machine" (machF ins outs rows)]) (asg_ok (call_ok (ds := [dTab rows, natD 0]) (args_cons (fT _ _ _) (args_cons rfl args_nil)) args_nil rfl eC) rfl) ?_
  refine step_nx (for_ok (rng1_ok (n := rows.length) (blt_ok (args_cons (fT _ _ _) args_nil) ((tab_t rows).len _)) (by omega)) g1) ?_
  refine step_nx (sl' := [some (.ref c.length), some (.lst (ins.map .str)), some (.lst (outs.map .str)), some (dRows rows), w4, w5, none, none, some (.lst ((comeTo rows 0).map natD)), w9, some .non]) (c' := c ++ [Cell.ins "Machine" (machF ins outs rows)]) (asg_ok (call_ok (ds := [dTab rows]) (args_cons (fT _ _ _) args_nil) args_nil rfl eH) rfl) ?_
  exact step_nx (if_f (cmpT_ok (var_ok rfl) rfl (cmp_isnN _ _)) nil_ok) nil_ok
end
end Hv

set_option Elab.async false
set_option linter.all false
set_option maxRecDepth 100000
set_option maxHeartbeats 4000000
/-! HvYG: a machine made of a drawn table; what it tells. -/
namespace Hv
open PySem PySem.Spec PyProof.Rows L2

theorem frzF_pl (k : Nat) : ∀ (fs : List (Str × D)) (c : Ct), rLtf 0 fs = true → frzF (frzD k) fs c = some (fs, c)
  | [], c, _ => rfl
  | (f, d) :: fs, c, h => by
    rw [rLtf, Bool.and_eq_true] at h
    rw [frzF, frzD_pl k h.1]
    show (frzF (frzD k) fs c).map _ = _
    rw [frzF_pl k fs c h.2]
    rfl
theorem frz_ins {n m : Nat} {c : Ct} {C : Str} {fs : List (Str × D)} (h : c[n]? = some (.ins C fs)) (hp : rLtf 0 fs = true) : frzK (m + 1) (.ref n) c = .ok (.ins C fs) (c.set n .dead) := by
  unfold frzK
  have hr : rLt 0 (.ref n) = false := by rw [rLt]; exact decide_eq_false (by omega)
  unfold frzD
  rw [if_neg (by rw [hr]; decide)]
  simp only [h]
  rw [frzF_pl m fs _ hp]
  rfl
theorem mk_ok {call : CallF} {C : Str} {f : Nat} {ks : List Str} {src : List Src} {es kes : IEs} {sl : Sl} {c c1 c2 : Ct} {ds zs as : List D} {fs : List (Str × D)} (hA : evA call es sl c = .ok ds c1) (hK : evA call kes sl c1 = .ok zs c2) (hs : arrD Cst.d (.ref c2.length :: (ds ++ zs)) src = some as)
    (hc : call f as (c2 ++ [Cell.ins C []]) = .ok .non (c2 ++ [Cell.ins C fs])) (hp : rLtf 0 fs = true) : evM call false (.mk true C f ks src es kes) sl c = .ok (.ins C fs) c2 := by
  rw [evM, tst_f, hA, bnd_ok, hK, bnd_ok]
  unfold mkK
  rw [hs]
  show gcK c2 (bnd (call f as (c2 ++ [Cell.ins C []])) _) = _
  rw [hc, bnd_ok]
  show gcK c2 (fzK true (.ref c2.length) (c2 ++ [Cell.ins C fs])) = _
  unfold fzK
  rw [if_pos rfl, frz_ins (at_end _ _) hp, set_end]
  exact gcK_drop (by rw [rLt]; exact rLtf_mono (Nat.zero_le _) fs hp)
theorem kv_skip {s : Str} {k : Str} {d : D} {r : List (D × D)} (h : ¬ k = s) : kvD s ((.str k, d) :: r) = kvD s r := by
  rw [kvD, if_neg h]
theorem kv_hit {s : Str} {d : D} {r : List (D × D)} : kvD s ((.str s, d) :: r) = some d := by
  rw [kvD, if_pos rfl]
theorem idx_kv {kvs : List (D × D)} {s : Str} {d : D} {c : Ct} (h : kvD s kvs = some d) : idxD (.dct kvs) (.str s) c = .ok d c := by
  show ofO (kvD s kvs) c = _
  rw [h]
  rfl
section
variable {T : Tab} {k : Nat} {c : Ct} {ins outs : List Str} {rows : Rows}
theorem dev_ins : idxD (dDev ins outs rows) (.str "ins") c = .ok (.lst (ins.map .str)) c := idx_kv kv_hit
theorem dev_outs : idxD (dDev ins outs rows) (.str "outs") c = .ok (.lst (outs.map .str)) c := idx_kv ((kv_skip (by decide +kernel)).trans kv_hit)
theorem dev_rows : idxD (dDev ins outs rows) (.str "rows") c = .ok (dRows rows) c := idx_kv ((kv_skip (by decide +kernel)).trans ((kv_skip (by decide +kernel)).trans kv_hit))
theorem pl_machF : rLtf 0 (machF ins outs rows) = true := by
  have := pl_mach ins outs rows
  unfold mach at this
  rwa [rLt] at this
theorem made_ok (L : LibM T) (hM : T.lookup P.i_l_made = some P.fd_l_made) (hk : 6 ≤ k) (hD : DevOk ins outs rows 60) : evF T k P.i_l_made [dDev ins outs rows] c = .ok (mach ins outs rows) c := by
  obtain ⟨k, rfl⟩ : ∃ j, k = j + 1 := ⟨k - 1, by omega⟩
  have hm := hD.m
  refine run_rt (d := mach ins outs rows) (sl := [some (dDev ins outs rows), none]) (c' := c) hM rfl ?_ (gcK_same _ _)
  show evSs (evF T k) P.b_l_made [some (dDev ins outs rows), none] c = _
  unfold P.b_l_made
  refine step_rt (ret_ok (mk_ok (ds := [.lst (ins.map .str), .lst (outs.map .str), dRows rows]) (args_cons (blt_ok (args_cons (idx_ok (var_ok rfl) rfl dev_ins) args_nil) (list_its rfl)) (args_cons (blt_ok (args_cons (idx_ok (var_ok rfl) rfl dev_outs) args_nil) (list_its rfl)) (args_cons (compf_ok (its := rows.map dR) (seq_ok (idx_ok (var_ok rfl) rfl dev_rows) rfl) (compR_lst dR dR _ fun r _ => ⟨[some (dDev ins outs rows), some (dR r)], rfl, true_ok, blt_ok (args_cons (var_ok rfl) args_nil) (list_its rfl)⟩) (by simp; omega)) args_nil))) args_nil rfl (minit_ok L (by omega) hD) pl_machF))
/-! ### what a machine tells -/
theorem ins_mach : insD (mach ins outs rows) c = some (("Machine" : Str), machF ins outs rows) := rfl
theorem mlen_ok (hT : T.lookup P.i_Machine_len = some P.fd_Machine_len) (hk : 1 ≤ k) : evF T k P.i_Machine_len [mach ins outs rows] c = .ok (natD rows.length) c := by
  obtain ⟨k, rfl⟩ : ∃ j, k = j + 1 := ⟨k - 1, by omega⟩
  refine run_rt (d := natD rows.length) (sl := [some (mach ins outs rows)]) (c' := c) hT rfl ?_ (gcK_same _ _)
  show evSs (evF T k) P.b_Machine_len [some (mach ins outs rows)] c = _
  unfold P.b_Machine_len
  exact step_rt (ret_ok (blt_ok (args_cons (fld_ok (var_ok rfl) ins_mach (get_t ins outs rows)) args_nil) ((tab_t rows).len _)))
theorem len1_ok {call : CallF} {C : Str} {f n : Nat} {a : IE} {sl : Sl} {x : D} {fs : List (Str × D)} (h : evM call false a sl c = .ok x c) (hI : insD x c = some (C, fs)) (hc : call f [x] c = .ok (natD n) c) (hn : n ≤ 100000) : evM call false (.len1 C f a) sl c = .ok (natD n) c := by
  rw [evM, tst_f, h, bnd_ok]
  unfold len1K
  rw [hI]
  simp only
  rw [if_pos trivial, hc]
  have hs := sm_len hn
  unfold natD
  simp only
  rw [if_pos ⟨by omega, hs.2⟩]
theorem letters_ok (hT : T.lookup P.i_Machine_letters = some P.fd_Machine_letters) (hk : 1 ≤ k) : evF T k P.i_Machine_letters [mach ins outs rows] c = .ok (.ref c.length) (c ++ [Cell.lst (ins.map .str)]) := by
  obtain ⟨k, rfl⟩ : ∃ j, k = j + 1 := ⟨k - 1, by omega⟩
  refine run_rt (d := .ref c.length) (sl := [some (mach ins outs rows)]) (c' := c ++ [Cell.lst (ins.map .str)]) hT rfl ?_ (gcK_ref _ _ _ (Nat.le_refl _))
  show evSs (evF T k) P.b_Machine_letters [some (mach ins outs rows)] c = _
  unfold P.b_Machine_letters
  exact step_rt (ret_ok (blt_ok (args_cons (fld_ok (var_ok rfl) ins_mach (get_i ins outs rows)) args_nil) rfl))
theorem rowsC_ev {call : CallF} {sl : Sl} : ∀ (rows : Rows) (w : Ct), sl.length = 2 → compR (asT (.nm 1)) (fun sl c => bnd (evM call true (.cst (.bl true)) sl c) bolK) (evM call false (.blt .listM (.cons (.var 1) .nil))) sl (rows.map dT) (c ++ w) = .ok ((List.range' w.length rows.length).map fun t => D.ref (c.length + t)) (c ++ (w ++ rcF rows))
  | [], w, _ => by
    show Res.ok [] (c ++ w) = _
    unfold rcF
    rw [List.map_nil, List.append_nil]
    rfl
  | r :: rows, w, h => by
    have e : evM call false (.blt .listM (.cons (.var 1) .nil)) (sl.set 1 (some (dT r))) (c ++ w) = .ok (.ref (c.length + w.length)) (c ++ (w ++ [Cell.lst (r.map dE)])) := by
      refine blt_ok (args_cons (var_ok (by rw [List.getElem?_set_self (by omega)])) args_nil) ?_
      show newL true (r.map dE) (c ++ w) = _
      unfold newL
      rw [if_pos rfl, List.length_append, List.append_assoc]
    have ih := rowsC_ev (call := call) (sl := sl) rows (w ++ [Cell.lst (r.map dE)]) h
    rw [List.map_cons, compR, show asT (.nm 1) (dT r) sl = some (sl.set 1 (some (dT r))) from rfl]
    simp only
    rw [true_ok]
    simp only
    rw [e]
    simp only
    rw [ih, List.length_cons, List.range'_succ, List.length_append, List.length_singleton]
    unfold rcF
    simp only [List.map_cons, List.append_assoc, List.singleton_append]
theorem mrows_ok (hT : T.lookup P.i_Machine_rows = some P.fd_Machine_rows) (hk : 1 ≤ k) (hn : rows.length ≤ 1000) : evF T k P.i_Machine_rows [mach ins outs rows] c = .ok (.ref (c.length + rows.length)) (c ++ (rcF rows ++ [Cell.lst ((List.range' 0 rows.length).map fun t => D.ref (c.length + t))])) := by
  obtain ⟨k, rfl⟩ : ∃ j, k = j + 1 := ⟨k - 1, by omega⟩
  refine run_rt (d := .ref (c.length + rows.length)) (sl := [some (mach ins outs rows), none]) (c' := c ++ (rcF rows ++ [Cell.lst ((List.range' 0 rows.length).map fun t => D.ref (c.length + t))])) hT rfl ?_ (gcK_ref _ _ _ (by omega))
  show evSs (evF T k) P.b_Machine_rows [some (mach ins outs rows), none] c = _
  unfold P.b_Machine_rows
  have hc := rowsC_ev (c := c) (call := evF T k) (sl := [some (mach ins outs rows), none]) rows [] rfl
  rw [List.append_nil, List.nil_append] at hc
  refine step_rt (ret_ok ?_)
  rw [comp_ok (its := rows.map dT) (seq_ok (fld_ok (var_ok rfl) ins_mach (get_t ins outs rows)) rfl) hc (by simp; omega)]
  unfold newL
  rw [if_pos rfl, List.append_assoc]
  have : (c ++ rcF rows).length = c.length + rows.length := by simp [rcF]
  rw [this]
  rfl
theorem mrows_frz (hn : rows.length ≤ 1000) : ∃ w', frzK 9 (.ref (c.length + rows.length)) (c ++ (rcF rows ++ [Cell.lst ((List.range' 0 rows.length).map fun t => D.ref (c.length + t))])) = .ok (dRows rows) (c ++ w') := by
  have hl : (rcF rows).length = rows.length := by simp [rcF]
  obtain ⟨w', hf⟩ := frz_rows (c := c) 7 rows 0 (rcF rows ++ [Cell.dead]) (fun t r ht => by
    rw [Nat.zero_add, List.getElem?_append_left (by rw [hl]; exact (List.getElem?_eq_some_iff.mp ht).1)]
    unfold rcF
    rw [List.getElem?_map, ht]
    rfl)
  refine ⟨w', ?_⟩
  have hat : (c ++ (rcF rows ++ [Cell.lst ((List.range' 0 rows.length).map fun t => D.ref (c.length + t))]))[c.length + rows.length]? = some (Cell.lst ((List.range' 0 rows.length).map fun t => D.ref (c.length + t))) := by
    rw [c_at, ← hl, at_end]
  unfold frzK
  have hr0 : rLt 0 (.ref (c.length + rows.length)) = false := by rw [rLt]; exact decide_eq_false (by omega)
  have e : frzD 9 (.ref (c.length + rows.length)) (c ++ (rcF rows ++ [Cell.lst ((List.range' 0 rows.length).map fun t => D.ref (c.length + t))])) = some (dRows rows, c ++ w') := by
    unfold frzD
    rw [if_neg (by rw [hr0]; decide)]
    simp only [hat]
    rw [c_set]
    have hs : (rcF rows ++ [Cell.lst ((List.range' 0 rows.length).map fun t => D.ref (c.length + t))]).set rows.length .dead = rcF rows ++ [Cell.dead] := by
      rw [← hl, set_end]
    rw [hs, hf]
    rfl
  rw [e]
theorem need_stand_ok {r0 : IS} (hT : T.lookup P.i_Machine_need_stand = some (P.fd_Machine_need_stand r0)) (hk : 1 ≤ k) {s : Nat} (hs : s < rows.length) : evF T k P.i_Machine_need_stand [mach ins outs rows, natD s] c = .ok .non c := by
  obtain ⟨k, rfl⟩ : ∃ j, k = j + 1 := ⟨k - 1, by omega⟩
  refine run_nx (sl := [some (mach ins outs rows), some (natD s)]) (c' := c) hT rfl ?_ (gcK_same _ _)
  show evSs (evF T k) (P.b_Machine_need_stand r0) [some (mach ins outs rows), some (natD s)] c = _
  unfold P.b_Machine_need_stand
  have q := chnT_ok (call := evF T k) (sl := [some (mach ins outs rows), some (natD s)]) (c := c) (a := .cst (.int 0)) (b := .var 1) (e := .blt .len (.cons (.fld "Machine" "table" (.var 0)) .nil)) (x := .int 0) (y := natD s) (z := natD rows.length) rfl (var_ok rfl) (blt_ok (args_cons (fld_ok (var_ok rfl) ins_mach (get_t ins outs rows)) args_nil) ((tab_t rows).len _)) (cmp_le _ _ _) (cmp_lt _ _ _)
  rw [decide_eq_true (by omega), decide_eq_true (by omega)] at q
  exact step_nx (if_f (notT_ok q) nil_ok) nil_ok
end
end Hv

set_option Elab.async false
set_option linter.all false
set_option maxRecDepth 100000
set_option maxHeartbeats 4000000
/-! HvYH: far moved. -/
namespace Hv
open PySem PySem.Spec PyProof.Rows L2

/-- m steps by one letter: where to, what is sent -/
def it (rows : Rows) (a : Nat) : Nat → Nat → Nat
  | 0, s => s
  | m + 1, s => it rows a m (nxt rows s a)
def zeros (no : Nat) : List Int := List.replicate no 0
def sm (rows : Rows) (no a : Nat) : Nat → Nat → List Int
  | 0, _ => zeros no
  | m + 1, s => vadd (out rows s a) (sm rows no a m (nxt rows s a))
theorem vadd_assoc (u v w : List Int) : vadd (vadd u v) w = vadd u (vadd v w) := by
  unfold vadd
  induction u generalizing v w with
  | nil => simp
  | cons a u ih =>
    cases v with
    | nil => simp
    | cons b v =>
      cases w with
      | nil => simp
      | cons d w =>
        rw [List.zipWith_cons_cons, List.zipWith_cons_cons, List.zipWith_cons_cons, List.zipWith_cons_cons, ih, Int.add_assoc]
theorem zeros_add {no : Nat} : ∀ {v : List Int}, v.length = no → vadd (zeros no) v = v := by
  induction no with
  | zero => intro v h; rw [List.eq_nil_of_length_eq_zero h]; rfl
  | succ n ih =>
    intro v h
    cases v with
    | nil => simp at h
    | cons a v =>
      have := ih (v := v) (by simpa using h)
      unfold vadd zeros at this ⊢
      rw [List.replicate_succ, List.zipWith_cons_cons, this, Int.zero_add]
theorem add_zeros {no : Nat} {v : List Int} (h : v.length = no) : vadd v (zeros no) = v := by
  have e : vadd v (zeros no) = vadd (zeros no) v := by
    unfold vadd
    exact List.zipWith_comm_of_comm fun a b => Int.add_comm a b
  rw [e, zeros_add h]
section
variable {rows : Rows} {nl no a : Nat}
theorem it_lt (hT : TabOk rows nl no) (ha : a < nl) : ∀ (m : Nat) {s : Nat}, s < rows.length → it rows a m s < rows.length
  | 0, _, h => h
  | m + 1, s, h => it_lt hT ha m (by obtain ⟨_, _, _, h3, _⟩ := hT.cell h ha; exact h3)
theorem smv_len (hT : TabOk rows nl no) (ha : a < nl) : ∀ (m : Nat) {s : Nat}, s < rows.length → (sm rows no a m s).length = no
  | 0, _, _ => by simp [sm, zeros]
  | m + 1, s, h => by
    obtain ⟨_, _, _, h3, h4, _⟩ := hT.cell h ha
    rw [sm, vadd_len (by rw [smv_len hT ha m h3, h4]), h4]
theorem it_add (m n : Nat) : ∀ s, it rows a (m + n) s = it rows a n (it rows a m s) := by
  induction m with
  | zero => intro s; rw [Nat.zero_add]; rfl
  | succ m ih => intro s; rw [Nat.succ_add]; exact ih _
theorem sm_add (hT : TabOk rows nl no) (ha : a < nl) (n : Nat) : ∀ (m : Nat) {s : Nat}, s < rows.length → sm rows no a (m + n) s = vadd (sm rows no a m s) (sm rows no a n (it rows a m s))
  | 0, s, h => by
    rw [Nat.zero_add]
    show _ = vadd (zeros no) (sm rows no a n s)
    rw [zeros_add (smv_len hT ha n h)]
  | m + 1, s, h => by
    obtain ⟨_, _, _, h3, _⟩ := hT.cell h ha
    rw [Nat.succ_add, sm, sm_add hT ha n m h3, sm, vadd_assoc]
    rfl
end
theorem aug_ok {call : CallF} {i : Nat} {o : BOp} {e : IE} {sl : Sl} {c c1 c2 : Ct} {x y z : D} (h0 : sl[i]? = some (some x)) (h : evM call false e sl c = .ok y c1) (h2 : augD o x y c1 = .ok z c2) : evS call (.aug i o e) sl c = .ok (.nx (sl.set i (some z))) c2 := by
  rw [evS, h0]
  show ofR (evM call false e sl c) sl _ = _
  rw [h, ofR_ok, h2, ofR_ok]
section
variable {T : Tab} {k : Nat} {c : Ct} {rows : Rows} {nl no a : Nat}
def jmp (rows : Rows) (no a m : Nat) (s : Nat) : D := stepD (it rows a m s) (sm rows no a m s)
def jmps (rows : Rows) (no a m : Nat) : List D := (List.range rows.length).map (jmp rows no a m)
theorem jmps_at {m s : Nat} (hs : s < rows.length) (c : Ct) : idxD (.lst (jmps rows no a m)) (natD s) c = .ok (jmp rows no a m s) c := by
  refine idx_nat (xs := jmps rows no a m) rfl (by omega) ?_
  unfold jmps
  rw [Int.toNat_natCast, List.getElem?_map, List.getElem?_range hs]
  rfl
theorem step0 {n : Nat} {v : List Int} {c : Ct} : idxD (stepD n v) (.int 0) c = .ok (natD n) c := rfl
theorem step1 {n : Nat} {v : List Int} {c : Ct} : idxD (stepD n v) (.int 1) c = .ok (.tup (v.map .int)) c := rfl
set_option maxHeartbeats 16000000 in
theorem far_ok (L : LibM T) (hF : T.lookup P.i_far_moved = some P.fd_far_moved) (hk : 2 ≤ k) (hT : TabOk rows nl no) (hno : no ≤ 1000) (hn : rows.length ≤ 1000) {s : Nat} (hs : s < rows.length) (ha : a < nl) (q : Nat) :
    evF T k P.i_far_moved [dTab rows, natD s, natD a, natD q] c = .ok (stepD (it rows a q s) (sm rows no a q s)) c := by
  obtain ⟨k, rfl⟩ : ∃ j, k = j + 1 := ⟨k - 1, by omega⟩
  obtain ⟨sl', c', h1, ⟨w8, w9, j4, h2⟩, h3⟩ := whR_inv (q := evT (evF T k) (.cmp .gt (.var 3) (.cst (.int 0)))) (b := evSs (evF T k) (.cons (.ifs (.cmp .eq (.bin false .mod (.var 3) (.cst (.int 2))) (.cst (.int 1))) (.cons (.asg (.tp [(.nm 1), (.nm 8)]) (.idx (.var 4) (.var 1))) (.cons (.asg (.nm 6) (.call false 34 [] [.arg 0, .arg 1] (.cons (.var 6) (.cons (.var 8) .nil)) .nil)) .nil)) .nil) (.cons (.aug 3 .fdiv (.cst (.int 2))) (.cons (.asg (.nm 4) (.comp false [9, 8] (.tp [(.nm 9), (.nm 8)]) (.seq (.var 4)) (.cst (.bl true)) (.tup (.cons (.idx (.idx (.var 4) (.var 9)) (.cst (.int 0))) (.cons (.call false 34 [] [.arg 0, .arg 1] (.cons (.var 8) (.cons (.idx (.idx (.var 4) (.var 9)) (.cst (.int 1))) .nil)) .nil) .nil))))) .nil))))
    (fun m sl cc => ∃ (d j : Nat) (w8 : Option D), q = d + m * 2 ^ j ∧ sl = [some (dTab rows), some (natD (it rows a d s)), some (natD a), some (natD m), some (.lst (jmps rows no a (2 ^ j))), none, some (.tup ((sm rows no a d s).map .int)), none, w8, none] ∧ cc = c)
    (fun sl cc => (∃ (w8 w9 : Option D) (j4 : D), sl = [some (dTab rows), some (natD (it rows a q s)), some (natD a), some (natD 0), some j4, none, some (.tup ((sm rows no a q s).map .int)), none, w8, w9]) ∧ cc = c)
    (fun m sl cc hI => by
      obtain ⟨d, j, w8, hq, rfl, rfl⟩ := hI
      have qg : cmpD .gt (natD m) (.int 0) cc = .ok (.bl (decide (0 < (m : Int)))) cc := cmp_gt _ _ _
      by_cases hm : m = 0
      · subst hm
        refine .inl ⟨cmpT_ok (var_ok rfl) rfl qg, ⟨w8, none, .lst (jmps rows no a (2 ^ j)), ?_⟩, rfl⟩
        rw [show q = d by omega]
      · rw [decide_eq_true (by omega)] at qg
        have hil := it_lt hT ha d hs
        have hsl := smv_len hT ha d hs
        have comp : ∀ (w1 w3 w6 w8 : Option D), evM (evF T k) false (.comp false [9, 8] (.tp [(.nm 9), (.nm 8)]) (.seq (.var 4)) (.cst (.bl true)) (.tup (.cons (.idx (.idx (.var 4) (.var 9)) (.cst (.int 0))) (.cons (.call false 34 [] [.arg 0, .arg 1] (.cons (.var 8) (.cons (.idx (.idx (.var 4) (.var 9)) (.cst (.int 1))) .nil)) .nil) .nil)))) [some (dTab rows), w1, some (natD a), w3, some (.lst (jmps rows no a (2 ^ j))), none, w6, none, w8, none] cc = .ok (.lst (jmps rows no a (2 ^ (j + 1)))) cc := fun w1 w3 w6 w8 => by
          refine compf_ok (its := jmps rows no a (2 ^ j)) (seq_ok (var_ok rfl) rfl) (compR_lst (jmp rows no a (2 ^ j)) (jmp rows no a (2 ^ (j + 1))) _ fun t ht => ⟨[some (dTab rows), w1, some (natD a), w3, some (.lst (jmps rows no a (2 ^ j))), none, w6, none, some (.tup ((sm rows no a (2 ^ j) t).map .int)), some (natD (it rows a (2 ^ j) t))], rfl, true_ok, ?_⟩) (by unfold jmps; rw [List.length_map, List.length_range]; omega)
          have htl := List.mem_range.mp ht
          have h2 := it_lt hT ha (2 ^ j) htl
          have hadd := added_ok (c := cc) L.added (by omega : 1 ≤ k) (u := sm rows no a (2 ^ j) t) (v := sm rows no a (2 ^ j) (it rows a (2 ^ j) t)) (by rw [smv_len hT ha _ h2, smv_len hT ha _ htl]) (by rw [smv_len hT ha _ htl]; exact hno)
          have e : jmp rows no a (2 ^ (j + 1)) t = .tup [natD (it rows a (2 ^ j) (it rows a (2 ^ j) t)), .tup ((vadd (sm rows no a (2 ^ j) t) (sm rows no a (2 ^ j) (it rows a (2 ^ j) t))).map .int)] := by
            unfold jmp stepD
            rw [show 2 ^ (j + 1) = 2 ^ j + 2 ^ j by rw [Nat.pow_succ]; omega, it_add, sm_add hT ha _ _ htl]
          rw [e]
          exact tup_ok (args_cons (idx_ok (idx_ok (var_ok rfl) (var_ok rfl) (jmps_at h2 _)) rfl step0) (args_cons (call_ok (ds := [.tup ((sm rows no a (2 ^ j) t).map .int), .tup ((sm rows no a (2 ^ j) (it rows a (2 ^ j) t)).map .int)]) (args_cons (var_ok rfl) (args_cons (idx_ok (idx_ok (var_ok rfl) (var_ok rfl) (jmps_at h2 _)) rfl step1) args_nil)) args_nil rfl hadd) args_nil)) (by simp)
        have qe : cmpD .eq (.int ((m : Int) % 2)) (.int 1) cc = .ok (.bl (decide ((m : Int) % 2 = 1))) cc := cmp_eqI _ _ _
        have hmod : binD false .mod (natD m) (.int 2) cc = .ok (.int ((m : Int) % 2)) cc := modD (i := (m : Int)) (by omega) cc
        have hdiv : augD .fdiv (natD m) (.int 2) cc = .ok (natD (m / 2)) cc := by
          show binD false .fdiv (.int (m : Int)) (.int 2) cc = _
          rw [divD (by omega) (by decide)]
          rfl
        refine .inr ⟨cmpT_ok (var_ok rfl) rfl qg, m / 2, ?_⟩
        by_cases ho : m % 2 = 1
        · rw [decide_eq_true (by omega)] at qe
          have hadd := added_ok (c := cc) L.added (by omega : 1 ≤ k) (u := sm rows no a d s) (v := sm rows no a (2 ^ j) (it rows a d s)) (by rw [smv_len hT ha _ hil, hsl]) (by rw [hsl]; exact hno)
          rw [← sm_add hT ha _ _ hs] at hadd
          refine ⟨[some (dTab rows), some (natD (it rows a (d + 2 ^ j) s)), some (natD a), some (natD (m / 2)), some (.lst (jmps rows no a (2 ^ (j + 1)))), none, some (.tup ((sm rows no a (d + 2 ^ j) s).map .int)), none, some (.tup ((sm rows no a (2 ^ j) (it rows a d s)).map .int)), none], cc, by omega, ?_, d + 2 ^ j, j + 1, some (.tup ((sm rows no a (2 ^ j) (it rows a d s)).map .int)), ?_, rfl, rfl⟩
          · refine step_nx (sl' := [some (dTab rows), some (natD (it rows a (d + 2 ^ j) s)), some (natD a), some (natD m), some (.lst (jmps rows no a (2 ^ j))), none, some (.tup ((sm rows no a (d + 2 ^ j) s).map .int)), none, some (.tup ((sm rows no a (2 ^ j) (it rows a d s)).map .int)), none]) (c' := cc) (if_t (cmpT_ok (bin_ok (x := natD m) (y := .int 2) (var_ok rfl) rfl hmod) rfl qe) ?_) ?_
            · refine step_nx (sl' := [some (dTab rows), some (natD (it rows a (d + 2 ^ j) s)), some (natD a), some (natD m), some (.lst (jmps rows no a (2 ^ j))), none, some (.tup ((sm rows no a d s).map .int)), none, some (.tup ((sm rows no a (2 ^ j) (it rows a d s)).map .int)), none]) (c' := cc) (asg_ok (d := jmp rows no a (2 ^ j) (it rows a d s)) (idx_ok (var_ok rfl) (var_ok rfl) (jmps_at hil _)) (by rw [it_add]; rfl)) (step_nx (asg_ok (call_ok (ds := [.tup ((sm rows no a d s).map .int), .tup ((sm rows no a (2 ^ j) (it rows a d s)).map .int)]) (args_cons (var_ok rfl) (args_cons (var_ok rfl) args_nil)) args_nil rfl hadd) rfl) nil_ok)
            · exact step_nx (sl' := [some (dTab rows), some (natD (it rows a (d + 2 ^ j) s)), some (natD a), some (natD (m / 2)), some (.lst (jmps rows no a (2 ^ j))), none, some (.tup ((sm rows no a (d + 2 ^ j) s).map .int)), none, some (.tup ((sm rows no a (2 ^ j) (it rows a d s)).map .int)), none]) (c' := cc) (aug_ok rfl rfl hdiv) (step_nx (asg_ok (comp _ _ _ _) rfl) nil_ok)
          · have : m = 2 * (m / 2) + 1 := by omega
            rw [hq, Nat.pow_succ]
            generalize m / 2 = h at this
            subst this
            rw [Nat.add_mul, Nat.one_mul, Nat.mul_comm 2 h, Nat.mul_assoc, Nat.mul_comm 2 (2 ^ j)]
            omega
        · rw [decide_eq_false (by omega)] at qe
          refine ⟨[some (dTab rows), some (natD (it rows a d s)), some (natD a), some (natD (m / 2)), some (.lst (jmps rows no a (2 ^ (j + 1)))), none, some (.tup ((sm rows no a d s).map .int)), none, w8, none], cc, by omega, ?_, d, j + 1, w8, ?_, rfl, rfl⟩
          · exact step_nx (if_f (cmpT_ok (bin_ok (x := natD m) (y := .int 2) (var_ok rfl) rfl hmod) rfl qe) nil_ok) (step_nx (sl' := [some (dTab rows), some (natD (it rows a d s)), some (natD a), some (natD (m / 2)), some (.lst (jmps rows no a (2 ^ j))), none, some (.tup ((sm rows no a d s).map .int)), none, w8, none]) (c' := cc) (aug_ok rfl rfl hdiv) (step_nx (asg_ok (comp _ _ _ _) rfl) nil_ok))
          · have : m = 2 * (m / 2) := by omega
            rw [hq, Nat.pow_succ]
            generalize m / 2 = h at this
            subst this
            rw [Nat.mul_comm 2 h, Nat.mul_assoc, Nat.mul_comm 2 (2 ^ j)]) q [some (dTab rows), some (natD s), some (natD a), some (natD q), some (.lst (jmps rows no a (2 ^ 0))), none, some (.tup ((zeros no).map .int)), none, none, none] c ⟨0, 0, none, by simp, rfl, rfl⟩
  subst h2
  rw [h3] at h1
  refine run_rt (d := stepD (it rows a q s) (sm rows no a q s)) (sl := [some (dTab rows), some (natD (it rows a q s)), some (natD a), some (natD 0), some j4, none, some (.tup ((sm rows no a q s).map .int)), none, w8, w9]) (c' := c) hF rfl ?_ (gcK_same _ _)
  show evSs (evF T k) P.b_far_moved [some (dTab rows), some (natD s), some (natD a), some (natD q), none, none, none, none, none, none] c = _
  unfold P.b_far_moved
  have hj : jmps rows no a (2 ^ 0) = rows.map fun r => dE (r.getD a (0, [])) := by
    refine List.ext_getElem? fun i => ?_
    unfold jmps
    rw [List.getElem?_map, List.getElem?_map]
    by_cases hi : i < rows.length
    · obtain ⟨r, h1, h2, h3, h4, _⟩ := hT.cell hi ha
      rw [List.getElem?_range hi, h1]
      show some (jmp rows no a 1 i) = some (dE (r.getD a (0, [])))
      have e : r.getD a (0, []) = cell rows i a := by rw [List.getD_eq_getElem?_getD, h2]; rfl
      rw [e]
      have e2 : sm rows no a 1 i = out rows i a := add_zeros h4
      unfold jmp
      rw [e2]
      rfl
    · rw [List.getElem?_eq_none (by rw [List.length_range]; omega), List.getElem?_eq_none (by omega)]
      rfl
  refine step_nx (sl' := [some (dTab rows), some (natD s), some (natD a), some (natD q), some (.lst (jmps rows no a (2 ^ 0))), none, none, none, none, none]) (c' := c) (asg_ok (d := .lst (jmps rows no a (2 ^ 0))) ?_ rfl) ?_
  · rw [hj]
    refine compf_ok (its := rows.map dT) (seq_ok (var_ok rfl) rfl) (compR_lst dT _ _ fun r hr => ⟨[some (dTab rows), some (natD s), some (natD a), some (natD q), none, some (dT r), none, none, none, none], rfl, true_ok, idx_ok (var_ok rfl) (var_ok rfl) (RowD.idx (.inr rfl) ?_ _)⟩) (by simp; omega)
    have := hT.shp r hr
    rw [List.getD_eq_getElem?_getD, List.getElem?_eq_getElem (by omega)]
    rfl
  refine step_nx (sl' := [some (dTab rows), some (natD s), some (natD a), some (natD q), some (.lst (jmps rows no a (2 ^ 0))), none, some (.tup ((zeros no).map .int)), none, none, none]) (c' := c) (asg_ok (d := .tup ((zeros no).map .int)) (blt_ok (ds := [.lst ((zeros no).map .int)]) (args_cons ?_ args_nil) rfl) rfl) ?_
  · have e : (zeros no).map D.int = (sm rows no a (2 ^ 0) s).map fun _ => D.int 0 := by
      unfold zeros
      rw [List.map_replicate, List.map_const', smv_len hT ha _ hs]
    rw [e]
    refine compf_ok (its := (sm rows no a (2 ^ 0) s).map .int) (seq_ok (idx_ok (idx_ok (var_ok rfl) (var_ok rfl) (jmps_at hs _)) rfl step1) rfl) (compR_lst D.int _ _ fun i _ => ⟨[some (dTab rows), some (natD s), some (natD a), some (natD q), some (.lst (jmps rows no a (2 ^ 0))), none, none, some (.int i), none, none], rfl, true_ok, rfl⟩) ?_
    rw [List.length_map, smv_len hT ha _ hs]
    omega
  refine step_nx (by rw [whl_eq]; exact h1) ?_
  exact step_rt (ret_ok (tup_ok (args_cons (var_ok rfl) (args_cons (var_ok rfl) args_nil)) (by simp)))
end
end Hv

set_option Elab.async false
set_option linter.all false
set_option maxRecDepth 100000
set_option maxHeartbeats 4000000
/-! HvYI: counts move a machine; the stands that come again, as the program tells them. -/
namespace Hv
open PySem PySem.Spec PyProof.Rows L2

/-- where counts lead, and what they send -/
def mvI (rows : Rows) (no : Nat) (counts : List Nat) (s : Nat) : Nat → Nat × List Int
  | 0 => (s, zeros no)
  | i + 1 => (it rows i (counts.getD i 0) (mvI rows no counts s i).1, vadd (mvI rows no counts s i).2 (sm rows no i (counts.getD i 0) (mvI rows no counts s i).1))
theorem any_mapD {α : Type} (p : α → Bool) (l : List α) (c : Ct) : bltD .any [.lst (l.map fun a => D.bl (p a))] c = .ok (.bl (l.any p)) c := by
  show (match (itsD (.lst (l.map fun a => D.bl (p a))) c).bind blsD with | some bs => if isL (.lst (l.map fun a => D.bl (p a))) then (Res.ok (D.bl (bs.any id)) c : Res D) else .stuck | none => .stuck) = _
  show (match blsD (l.map fun a => D.bl (p a)) with | some bs => if isL (.lst (l.map fun a => D.bl (p a))) then (Res.ok (D.bl (bs.any id)) c : Res D) else .stuck | none => .stuck) = _
  rw [bls_map p l]
  show Res.ok (D.bl ((l.map p).any id)) c = _
  rw [List.any_map]
  rfl
theorem mach_no {ins outs : List Str} {rows : Rows} {m : Str} (h1 : (m == sIn) = false) (h2 : (m == sOut) = false) (h3 : (m == sTab) = false) : (machF ins outs rows).lookup m = none := by
  unfold machF
  rw [List.lookup_cons, h1]
  show List.lookup _ _ = _
  rw [List.lookup_cons, h2]
  show List.lookup _ _ = _
  rw [List.lookup_cons, h3]
  rfl
section
variable {rows : Rows} {nl no : Nat}
theorem mvI_lt (hT : TabOk rows nl no) {counts : List Nat} {s : Nat} (hs : s < rows.length) : ∀ i, i ≤ nl → (mvI rows no counts s i).1 < rows.length ∧ (mvI rows no counts s i).2.length = no
  | 0, _ => ⟨hs, by simp [mvI, zeros]⟩
  | i + 1, h => by
    obtain ⟨h1, h2⟩ := mvI_lt hT hs i (by omega)
    refine ⟨it_lt hT (by omega) _ h1, ?_⟩
    show (vadd _ _).length = no
    rw [vadd_len (by rw [smv_len hT (by omega) _ h1, h2]), h2]
end
/-- what the told stands ask -/
structure LibA (T : Tab) : Prop extends LibM T where
  far : T.lookup P.i_far_moved = some P.fd_far_moved
  mlen : T.lookup P.i_Machine_len = some P.fd_Machine_len
  letters : T.lookup P.i_Machine_letters = some P.fd_Machine_letters
  mrows : T.lookup P.i_Machine_rows = some P.fd_Machine_rows
  needS : ∃ r0, T.lookup P.i_Machine_need_stand = some (P.fd_Machine_need_stand r0)
  moved : ∃ r0, T.lookup P.i_Machine_moved = some (P.fd_Machine_moved r0)
  some_again : T.lookup P.i_some_again = some P.fd_some_again
  coming : T.lookup P.i_coming_again = some P.fd_coming_again
section
variable {T : Tab} {k : Nat} {c : Ct} {ins outs : List Str} {rows : Rows}
set_option maxHeartbeats 16000000 in
theorem moved_ok (L : LibA T) (hk : 3 ≤ k) (hD : DevOk ins outs rows 60) {counts : List Nat} (hc : counts.length = ins.length) {s : Nat} (hs : s < rows.length) :
    evF T k P.i_Machine_moved [mach ins outs rows, .lst (counts.map natD), natD s] c = .ok (.tup [natD (mvI rows outs.length counts s ins.length).1, .lst ((mvI rows outs.length counts s ins.length).2.map .int)]) c := by
  obtain ⟨k, rfl⟩ : ∃ j, k = j + 1 := ⟨k - 1, by omega⟩
  obtain ⟨r0, hM⟩ := L.moved
  obtain ⟨r1, hN⟩ := L.needS
  have hm := hD.m
  have hi3 := hD.i3
  have ho3 := hD.o3
  have hfar := L.far
  obtain ⟨sl', c', f1, w3, w6, w7, f2, f3⟩ := forR_i (tg := asT (.tp [(.nm 6), (.nm 3)])) (b := evSs (evF T k) (.cons (.asg (.tp [(.nm 2), (.nm 7)]) (.call false 33 [] [.arg 0, .arg 1, .arg 2, .arg 3] (.cons (.fld "Machine" "table" (.var 0)) (.cons (.var 2) (.cons (.var 6) (.cons (.var 3) .nil)))) .nil)) (.cons (.asg (.nm 4) (.call false 34 [] [.arg 0, .arg 1] (.cons (.var 4) (.cons (.var 7) .nil)) .nil)) .nil)))
    (fun i sl cc => ∃ w3 w6 w7, sl = [some (mach ins outs rows), some (.lst (counts.map natD)), some (natD (mvI rows outs.length counts s i).1), w3, some (.tup ((mvI rows outs.length counts s i).2.map .int)), none, w6, w7] ∧ cc = c) (enumD (counts.map natD) 0) (fun i d hd sl cc hI => by
      obtain ⟨w3, w6, w7, rfl, rfl⟩ := hI
      obtain ⟨x, hx, rfl⟩ := enum_get _ _ _ _ hd
      rw [List.getElem?_map] at hx
      cases hq : counts[i]? with
      | none => rw [hq] at hx; cases hx
      | some q =>
      rw [hq] at hx
      cases hx
      rw [Nat.zero_add]
      have hi : i < counts.length := (List.getElem?_eq_some_iff.mp hq).1
      have hg : counts.getD i 0 = q := by rw [List.getD_eq_getElem?_getD, hq]; rfl
      obtain ⟨h1, h2⟩ := mvI_lt hD.t (counts := counts) hs i (by omega)
      have e0 : mvI rows outs.length counts s (i + 1) = (it rows i q (mvI rows outs.length counts s i).1, vadd (mvI rows outs.length counts s i).2 (sm rows outs.length i q (mvI rows outs.length counts s i).1)) := by
        rw [mvI, hg]
      rw [e0]
      generalize mvI rows outs.length counts s i = st at h1 h2
      obtain ⟨t, v⟩ := st
      have e1 := far_ok (c := cc) L.toLibM L.far (by omega : 2 ≤ k) hD.t (by omega) (by omega) h1 (show i < ins.length by omega) q
      have e2 := added_ok (c := cc) L.added (by omega : 1 ≤ k) (u := v) (v := sm rows outs.length i q t) (by rw [smv_len hD.t (by omega) _ h1]; exact h2.symm) (by rw [show v.length = outs.length from h2]; omega)
      exact ⟨[some (mach ins outs rows), some (.lst (counts.map natD)), some (natD t), some (natD q), some (.tup (v.map .int)), none, some (natD i), w7], [some (mach ins outs rows), some (.lst (counts.map natD)), some (natD (it rows i q t)), some (natD q), some (.tup ((vadd v (sm rows outs.length i q t)).map .int)), none, some (natD i), some (.tup ((sm rows outs.length i q t).map .int))], cc, rfl, step_nx (sl' := [some (mach ins outs rows), some (.lst (counts.map natD)), some (natD (it rows i q t)), some (natD q), some (.tup (v.map .int)), none, some (natD i), some (.tup ((sm rows outs.length i q t).map .int))]) (c' := cc) (asg_ok (call_ok (ds := [dTab rows, natD t, natD i, natD q]) (args_cons (fld_ok (var_ok rfl) ins_mach (get_t ins outs rows)) (args_cons (var_ok rfl) (args_cons (var_ok rfl) (args_cons (var_ok rfl) args_nil)))) args_nil rfl e1) rfl) (step_nx (asg_ok (call_ok (ds := [.tup (v.map .int), .tup ((sm rows outs.length i q t).map .int)]) (args_cons (var_ok rfl) (args_cons (var_ok rfl) args_nil)) args_nil rfl e2) rfl) nil_ok), _, _, _, rfl, rfl⟩)
    (sl := [some (mach ins outs rows), some (.lst (counts.map natD)), some (natD s), none, some (.tup ((zeros outs.length).map .int)), none, none, none]) (c := c) ⟨none, none, none, rfl, rfl⟩
  rw [enum_len, List.length_map, hc] at f2
  subst f2
  rw [f3] at f1
  have e3 := need_stand_ok (c := c) (ins := ins) (outs := outs) hN (by omega : 1 ≤ k) hs
  refine run_rt (d := .tup [natD (mvI rows outs.length counts s ins.length).1, .lst ((mvI rows outs.length counts s ins.length).2.map .int)]) (sl := [some (mach ins outs rows), some (.lst (counts.map natD)), some (natD (mvI rows outs.length counts s ins.length).1), w3, some (.tup ((mvI rows outs.length counts s ins.length).2.map .int)), none, w6, w7]) (c' := c) hM rfl ?_ (gcK_same _ _)
  show evSs (evF T k) (P.b_Machine_moved r0) [some (mach ins outs rows), some (.lst (counts.map natD)), some (natD s), none, none, none, none, none] c = _
  unfold P.b_Machine_moved
  have q1 : evT (evF T k) (.cmp .ne (.blt .len (.cons (.var 1) .nil)) (.blt .len (.cons (.fld "Machine" "inward" (.var 0)) .nil))) [some (mach ins outs rows), some (.lst (counts.map natD)), some (natD s), none, none, none, none, none] c = .ok (!decide (((counts.map natD).length : Int) = ((ins.map D.str).length : Int))) c := cmpT_ok (blt_ok (args_cons (var_ok rfl) args_nil) (len_lst _ _)) (blt_ok (args_cons (fld_ok (var_ok rfl) ins_mach (get_i ins outs rows)) args_nil) (len_lst _ _)) (cmp_neI _ _ _)
  rw [decide_eq_true (by rw [List.length_map, List.length_map, hc])] at q1
  have q2 : evT (evF T k) (.blt .any (.cons (.comp false [3] (.nm 3) (.seq (.var 1)) (.cst (.bl true)) (.cmp .lt (.var 3) (.cst (.int 0)))) .nil)) [some (mach ins outs rows), some (.lst (counts.map natD)), some (natD s), none, none, none, none, none] c = .ok (counts.any fun q => decide ((q : Int) < 0)) c := by
    refine bltT_ok (blt_ok (args_cons (compf_ok (its := counts.map natD) (seq_ok (var_ok rfl) rfl) (compR_lst natD (fun q => D.bl (decide ((q : Int) < 0))) _ fun q _ => ⟨[some (mach ins outs rows), some (.lst (counts.map natD)), some (natD s), some (natD q), none, none, none, none], rfl, true_ok, ?_⟩) (by simp; omega)) args_nil) (any_mapD _ _ _))
    rw [evM, var_ok rfl, bnd_ok]
    rfl
  have q3 : (counts.any fun q => decide ((q : Int) < 0)) = false := by
    rw [List.any_eq_false]
    intro q _
    simp
  rw [q3] at q2
  refine step_nx (if_f (orT_ok q1 q2) nil_ok) ?_
  refine step_nx (expr_ok (mthE_ok (ds := [natD s]) (fs := machF ins outs rows) (var_ok rfl) ins_mach (mach_no (by decide +kernel) (by decide +kernel) (by decide +kernel)) (args_cons (var_ok rfl) args_nil) args_nil rfl e3)) ?_
  refine step_nx (sl' := [some (mach ins outs rows), some (.lst (counts.map natD)), some (natD s), none, some (.tup ((zeros outs.length).map .int)), none, none, none]) (c' := c) (asg_ok (d := .tup ((zeros outs.length).map .int)) (blt_ok (ds := [.lst ((zeros outs.length).map .int)]) (args_cons ?_ args_nil) rfl) rfl) ?_
  · have e : (zeros outs.length).map D.int = outs.map fun _ => D.int 0 := by
      unfold zeros
      rw [List.map_replicate, List.map_const']
    rw [e]
    exact compf_ok (its := outs.map .str) (seq_ok (fld_ok (var_ok rfl) ins_mach (get_o ins outs rows)) rfl) (compR_lst D.str _ _ fun o _ => ⟨[some (mach ins outs rows), some (.lst (counts.map natD)), some (natD s), none, none, some (.str o), none, none], rfl, true_ok, rfl⟩) (by simp; omega)
  refine step_nx (for_ok (enum_ok (var_ok rfl)) f1) ?_
  exact step_rt (ret_ok (tup_ok (args_cons (var_ok rfl) (args_cons (blt_ok (args_cons (var_ok rfl) args_nil) (list_its rfl)) args_nil)) (by simp)))
/-- a stand that comes again -/
def someAgain (ins outs : List Str) (rows : Rows) : Nat := (mvI rows outs.length (ins.map fun _ => rows.length) 0 ins.length).1
theorem some_ok (L : LibA T) (hk : 4 ≤ k) (hD : DevOk ins outs rows 60) : evF T k P.i_some_again [mach ins outs rows] c = .ok (natD (someAgain ins outs rows)) c := by
  obtain ⟨k, rfl⟩ : ∃ j, k = j + 1 := ⟨k - 1, by omega⟩
  have hm := hD.m
  have hi3 := hD.i3
  have e1 := letters_ok (c := c) (ins := ins) (outs := outs) (rows := rows) L.letters (by omega : 1 ≤ k)
  have e2 := moved_ok (c := c) L (by omega : 3 ≤ k) hD (counts := ins.map fun _ => rows.length) (by simp) (s := 0) (by have := hD.t.n1; omega)
  refine run_rt (d := natD (someAgain ins outs rows)) (sl := [some (mach ins outs rows), none]) (c' := c) L.some_again rfl ?_ (gcK_same _ _)
  show evSs (evF T k) P.b_some_again [some (mach ins outs rows), none] c = _
  unfold P.b_some_again
  have hl : evM (evF T k) false (.comp false [1] (.nm 1) (.seq (.mth true "Machine" "letters" 25 [] [.arg 0] (.var 0) .nil .nil)) (.cst (.bl true)) (.len1 "Machine" 26 (.var 0))) [some (mach ins outs rows), none] c = .ok (.lst ((ins.map fun _ => rows.length).map natD)) c := by
    rw [List.map_map]
    refine compf_ok (its := ins.map .str) (c1 := c) (seq_ok (d := .lst (ins.map .str)) (c1 := c) (mthzE_ok (ds := []) (zs := []) (fs := machF ins outs rows) (var_ok rfl) ins_mach (mach_no (by decide +kernel) (by decide +kernel) (by decide +kernel)) args_nil args_nil rfl e1 (frz_ref (at_end _ _) (rLts_strs _ _)) ?_) rfl) (compR_lst D.str _ _ fun n _ => ⟨[some (mach ins outs rows), some (.str n)], rfl, true_ok, len1_ok (var_ok rfl) ins_mach (mlen_ok L.mlen (by omega)) (show rows.length ≤ 100000 by omega)⟩) (by simp; omega)
    rw [set_end]
    exact gcK_drop (rLt_strs _ _)
  refine step_rt (ret_ok (idx_ok (y := .int 0) (mthE_ok (ds := [.lst ((ins.map fun _ => rows.length).map natD)]) (zs := []) (fs := machF ins outs rows) (var_ok rfl) ins_mach (mach_no (by decide +kernel) (by decide +kernel) (by decide +kernel)) (args_cons hl args_nil) args_nil rfl e2) rfl ?_))
  rfl
theorem nat_ints (S : List Nat) : S.map natD = (S.map fun n : Nat => (n : Int)).map D.int := by rw [List.map_map]; rfl
def comingL (ins outs : List Str) (rows : Rows) : List Int := ((comeTo rows (someAgain ins outs rows)).map fun n : Nat => (n : Int)).mergeSort leI
theorem coming_ok (L : LibA T) (hk : 5 ≤ k) (hD : DevOk ins outs rows 60) : evF T k P.i_coming_again [mach ins outs rows] c = .ok (.ref c.length) (c ++ [Cell.lst ((comingL ins outs rows).map .int)]) := by
  obtain ⟨k, rfl⟩ : ∃ j, k = j + 1 := ⟨k - 1, by omega⟩
  have hm := hD.m
  have hi3 := hD.i3
  have hn1 := hD.t.n1
  have e1 := mrows_ok (c := c) (ins := ins) (outs := outs) (rows := rows) L.mrows (by omega : 1 ≤ k) (by omega)
  obtain ⟨w', e2⟩ := mrows_frz (c := c) (rows := rows) (by omega)
  have e3 := some_ok (c := c) L (by omega : 4 ≤ k) hD
  have hsl : someAgain ins outs rows < rows.length := (mvI_lt hD.t (counts := ins.map fun _ => rows.length) (s := 0) (by omega) ins.length (Nat.le_refl _)).1
  have rl : ∀ r ∈ rows, r.length ≤ 1000 := fun r hr => by have := hD.t.shp r hr; omega
  have e4 := come_ok (c := c) L.come L.fresh (by omega : 2 ≤ k) (tab_l rows) (by omega) rl hsl hD.t.hin
  refine run_rt (d := .ref c.length) (sl := [some (mach ins outs rows)]) (c' := c ++ [Cell.lst ((comingL ins outs rows).map .int)]) L.coming rfl ?_ (gcK_ref _ _ _ (Nat.le_refl _))
  show evSs (evF T k) P.b_coming_again [some (mach ins outs rows)] c = _
  unfold P.b_coming_again
  refine step_rt (ret_ok (blt_ok (ds := [.lst ((comeTo rows (someAgain ins outs rows)).map natD)]) (c1 := c) (args_cons (call_ok (ds := [dRows rows, natD (someAgain ins outs rows)]) (args_cons (mthzE_ok (ds := []) (zs := []) (fs := machF ins outs rows) (var_ok rfl) ins_mach (mach_no (by decide +kernel) (by decide +kernel) (by decide +kernel)) args_nil args_nil rfl e1 e2 (gcK_drop (rLt_mono (Nat.zero_le _) _ (pl_rows rows)))) (args_cons (call_ok (ds := [mach ins outs rows]) (args_cons (var_ok rfl) args_nil) args_nil rfl e3) args_nil)) args_nil rfl e4) args_nil) ?_))
  have hints : ∀ ns : List Int, intsD (ns.map D.int) = some ns := fun ns => by
    induction ns with
    | nil => rfl
    | cons a l ih => rw [List.map_cons, intsD, ih]; rfl
  have es : sortD (.lst ((comeTo rows (someAgain ins outs rows)).map natD)) c = some ((comingL ins outs rows).map .int) := by
    rw [nat_ints]
    unfold sortD
    show (if isL _ = true then (match intsD _ with | some ns => _ | none => _) else _) = _
    rw [if_pos (show isL (D.lst ((((comeTo rows (someAgain ins outs rows))).map fun n : Nat => (n : Int)).map D.int)) = true from rfl), hints]
    rfl
  show (match sortD (.lst ((comeTo rows (someAgain ins outs rows)).map natD)) c with | some xs => newL true xs c | none => .stuck) = _
  rw [es]
  rfl
end
end Hv

set_option Elab.async false
set_option linter.all false
set_option maxRecDepth 100000
set_option maxHeartbeats 4000000
/-! HvYJ: the law's own search of stands that come again. -/
namespace Hv
open PySem PySem.Spec PyProof.Rows L2

def addT (found : List Nat) (t : Nat) : List Nat := if t ∈ found then found else found ++ [t]
theorem addT_fold (found : List Nat) : ∀ (ts acc : List Nat), ts.foldl addT (found ++ acc) = found ++ ts.foldl (addN found) acc
  | [], acc => rfl
  | t :: ts, acc => by
    rw [List.foldl_cons, List.foldl_cons]
    have e : addT (found ++ acc) t = found ++ addN found acc t := by
      unfold addT addN
      by_cases h1 : t ∈ found
      · rw [if_pos (List.mem_append_left _ h1), if_neg (fun h => h.1 h1)]
      · by_cases h2 : t ∈ acc
        · rw [if_pos (List.mem_append_right _ h2), if_neg (fun h => h.2 h2)]
        · rw [if_neg (fun h => (List.mem_append.mp h).elim h1 h2), if_pos ⟨h1, h2⟩, List.append_assoc]
    rw [e, addT_fold found ts]
theorem addT_fresh (found ts : List Nat) : ts.foldl addT found = found ++ freshL found ts := by
  have := addT_fold found ts []
  rw [List.append_nil] at this
  exact this
theorem addT_len : ∀ (ts found : List Nat), (ts.foldl addT found).length ≤ found.length + ts.length
  | [], _ => by simp
  | t :: ts, found => by
    rw [List.foldl_cons, List.length_cons]
    have := addT_len ts (addT found t)
    have h2 : (addT found t).length ≤ found.length + 1 := by
      unfold addT
      split <;> simp
    omega
section
variable {T : Tab} {k : Nat} {c : Ct} {rows : Rows}
set_option maxHeartbeats 16000000 in
theorem reached_ok (hT : T.lookup P.i_l_reached = some P.fd_l_reached) (hk : 1 ≤ k) (hn : rows.length ≤ 1000) (hrl : ∀ r ∈ rows, r.length ≤ 1000) {first : Nat} (hf : first < rows.length) (hin : ∀ s t, s < rows.length → t ∈ succs rows s → t < rows.length) :
    evF T k P.i_l_reached [dRows rows, natD first] c = .ok (.lst ((comeTo rows first).map natD)) c := by
  obtain ⟨k, rfl⟩ : ∃ j, k = j + 1 := ⟨k - 1, by omega⟩
  obtain ⟨sl', c', h1, w3, w4, w5, h2, h3⟩ := forR_i (tg := asT (.nm 3)) (b := evSs (evF T k) (.cons (.ifs (.cmp .lt (.var 3) (.blt .len (.cons (.var 2) .nil))) (.cons (.for (.tp [(.nm 4), (.nm 5)]) (.seq (.idx (.var 0) (.idx (.var 2) (.var 3)))) (.cons (.ifs (.cmp .nin (.var 4) (.var 2)) (.cons (.expr (.bm .append (.var 2) (.cons (.var 4) .nil))) .nil) .nil) .nil)) .nil) .nil) .nil))
    (fun i sl c' => ∃ w3 w4 w5, sl = [some (dRows rows), some (natD first), some (.ref c.length), w3, w4, w5] ∧ c' = c ++ [Cell.lst (((List.range i).foldl (comeStep rows) [first]).map natD)]) ((List.range rows.length).map fun (i : Nat) => D.int (i : Int)) (fun i d hd sl c' hI => by
      obtain ⟨w3, w4, w5, rfl, rfl⟩ := hI
      rw [List.getElem?_map] at hd
      by_cases hi : i < rows.length
      · rw [List.getElem?_range hi] at hd
        cases hd
        have hC := comeI_n hf hin i
        have hst : (List.range (i + 1)).foldl (comeStep rows) [first] = comeStep rows ((List.range i).foldl (comeStep rows) [first]) i := by
          rw [List.range_succ, List.foldl_append]
          rfl
        rw [hst]
        generalize (List.range i).foldl (comeStep rows) [first] = found at hC
        have hfl := nd_le rows.length found hC.nd hC.lt
        have q : cmpD .lt (natD i) (.int (found.length : Int)) (c ++ [Cell.lst (found.map natD)]) = .ok (.bl (decide ((i : Int) < (found.length : Int)))) (c ++ [Cell.lst (found.map natD)]) := cmp_lt _ _ _
        have hl5 := len_ref (at_end (Cell.lst (found.map natD)) c)
        rw [List.length_map] at hl5
        unfold comeStep
        by_cases hlt : i < found.length
        · rw [if_pos hlt]
          rw [decide_eq_true (by omega)] at q
          have hg : found[i]? = some (found[i]'hlt) := List.getElem?_eq_getElem hlt
          have hgd : found.getD i 0 = found[i]'hlt := by rw [List.getD_eq_getElem?_getD, hg]; rfl
          rw [hgd]
          generalize found[i]'hlt = s0 at hg
          have hs0 := hC.lt s0 (List.mem_of_getElem? hg)
          have hr0 : rows[s0]? = some (rows[s0]'hs0) := List.getElem?_eq_getElem hs0
          have hsc : succs rows s0 = (rows[s0]'hs0).map (·.1) := by
            unfold succs
            rw [List.getD_eq_getElem?_getD, hr0]
            rfl
          rw [hsc, ← addT_fresh]
          have hrl0 := hrl _ (List.mem_of_getElem? hr0)
          generalize rows[s0]'hs0 = r0 at hr0 hrl0
          obtain ⟨sl2, c2, g1, v4, v5, g2, g3⟩ := forR_i (tg := asT (.tp [(.nm 4), (.nm 5)])) (b := evSs (evF T k) (.cons (.ifs (.cmp .nin (.var 4) (.var 2)) (.cons (.expr (.bm .append (.var 2) (.cons (.var 4) .nil))) .nil) .nil) .nil))
            (fun j sl cc => ∃ v4 v5, sl = [some (dRows rows), some (natD first), some (.ref c.length), some (natD i), v4, v5] ∧ cc = c ++ [Cell.lst ((((r0.map (·.1)).take j).foldl addT found).map natD)]) (r0.map dE) (fun j d hd sl cc hI => by
              obtain ⟨v4, v5, rfl, rfl⟩ := hI
              rw [List.getElem?_map] at hd
              cases hp : r0[j]? with
              | none => rw [hp] at hd; cases hd
              | some p =>
              rw [hp] at hd
              cases hd
              have hts : (r0.map (·.1)).take (j + 1) = (r0.map (·.1)).take j ++ [p.1] := by
                rw [List.take_add_one, List.getElem?_map, hp]
                rfl
              have hst : ((r0.map (·.1)).take (j + 1)).foldl addT found = addT (((r0.map (·.1)).take j).foldl addT found) p.1 := by
                rw [hts, List.foldl_append]
                rfl
              have hlen := addT_len ((r0.map (·.1)).take j) found
              have hlen2 : ((r0.map (·.1)).take j).length ≤ 1000 := by
                rw [List.length_take, List.length_map]
                omega
              rw [hst]
              generalize ((r0.map (·.1)).take j).foldl addT found = acc at hlen
              have q2 := cod_nat.ninB (by decide) (y := .ref c.length) (c := c ++ [Cell.lst (acc.map natD)]) (l := acc) (a := p.1) (.inr ⟨c.length, rfl, at_end _ _⟩) trivial (fun _ _ => trivial)
              refine ⟨[some (dRows rows), some (natD first), some (.ref c.length), some (natD i), some (natD p.1), some (.tup (p.2.map .int))], [some (dRows rows), some (natD first), some (.ref c.length), some (natD i), some (natD p.1), some (.tup (p.2.map .int))], c ++ [Cell.lst ((addT acc p.1).map natD)], rfl, step_nx (sl' := [some (dRows rows), some (natD first), some (.ref c.length), some (natD i), some (natD p.1), some (.tup (p.2.map .int))]) (c' := c ++ [Cell.lst ((addT acc p.1).map natD)]) ?_ nil_ok, _, _, rfl, rfl⟩
              unfold addT
              by_cases g2 : p.1 ∈ acc
              · rw [if_pos g2]
                simp only [g2, decide_true, Bool.not_true] at q2
                exact if_f (cmpT_ok (var_ok rfl) (var_ok rfl) q2) nil_ok
              · rw [if_neg g2]
                simp only [g2, decide_false, Bool.not_false] at q2
                refine if_t (cmpT_ok (var_ok rfl) (var_ok rfl) q2) (step_nx (expr_ok (d := .non) (bm_ok (x := .ref c.length) (ds := [natD p.1]) (var_ok rfl) (lst_ref (at_end _ _)) (args_cons (var_ok rfl) args_nil) ?_)) nil_ok)
                rw [app_ok' (at_end _ _) (by simp; omega), set_end, List.map_append]
                rfl) (sl := [some (dRows rows), some (natD first), some (.ref c.length), some (natD i), w4, w5]) (c := c ++ [Cell.lst (found.map natD)]) ⟨w4, w5, rfl, rfl⟩
          rw [List.length_map, List.take_of_length_le (by simp)] at g3
          subst g2
          rw [g3] at g1
          refine ⟨[some (dRows rows), some (natD first), some (.ref c.length), some (natD i), w4, w5], [some (dRows rows), some (natD first), some (.ref c.length), some (natD i), v4, v5], _, rfl, step_nx (if_t (cmpT_ok (var_ok rfl) (blt_ok (args_cons (var_ok rfl) args_nil) hl5) q) (step_nx (for_ok (its := r0.map dE) (seq_ok (d := dR r0) (idx_ok (var_ok rfl) (idx_ok (y := natD i) (rr := .ok (natD s0) _) (var_ok rfl) (var_ok rfl) (idx_nat (its_ref (at_end _ _)) (by omega) ?_)) (idx_nat (xs := rows.map dR) rfl (by omega) ?_)) rfl) g1) nil_ok)) nil_ok, _, _, _, rfl, rfl⟩
          · rw [Int.toNat_natCast, List.getElem?_map, hg]
            rfl
          · rw [Int.toNat_natCast, List.getElem?_map, hr0]
            rfl
        · rw [if_neg hlt]
          rw [decide_eq_false (by omega)] at q
          exact ⟨[some (dRows rows), some (natD first), some (.ref c.length), some (natD i), w4, w5], [some (dRows rows), some (natD first), some (.ref c.length), some (natD i), w4, w5], _, rfl, step_nx (if_f (cmpT_ok (var_ok rfl) (blt_ok (args_cons (var_ok rfl) args_nil) hl5) q) nil_ok) nil_ok, _, _, _, rfl, rfl⟩
      · rw [List.getElem?_eq_none (by rw [List.length_range]; omega)] at hd
        cases hd) (sl := [some (dRows rows), some (natD first), some (.ref c.length), none, none, none]) (c := c ++ [Cell.lst [natD first]]) ⟨none, none, none, rfl, rfl⟩
  rw [List.length_map, List.length_range] at h3
  subst h2 h3
  refine run_rt (d := .lst ((comeTo rows first).map natD)) (sl := [some (dRows rows), some (natD first), some (.ref c.length), w3, w4, w5]) (c' := c ++ [Cell.dead]) hT rfl ?_ (gcK_drop (by rw [rLt]; exact pl_nats _ _))
  show evSs (evF T k) P.b_l_reached [some (dRows rows), some (natD first), none, none, none, none] c = _
  unfold P.b_l_reached
  refine step_nx (sl' := [some (dRows rows), some (natD first), some (.ref c.length), none, none, none]) (c' := c ++ [Cell.lst [natD first]]) (asg_ok (lstt_ok (args_cons (var_ok rfl) args_nil) (by simp)) rfl) ?_
  refine step_nx (for_ok (rng1_ok (n := rows.length) (blt_ok (args_cons (var_ok rfl) args_nil) ((tab_l rows).len _)) (by omega)) h1) ?_
  refine step_rt (ret_ok (frzE_ok (var_ok rfl) ?_))
  rw [frz_ref (at_end _ _) (pl_nats _ _), set_end]
  rfl
def againP (rows : Rows) (s : Nat) : Bool := (comeTo rows s).all fun o => decide (s ∈ comeTo rows o)
def again (rows : Rows) : List Nat := (List.range rows.length).filter (againP rows)
set_option maxHeartbeats 16000000 in
theorem again_ok (hT : T.lookup P.i_l_reached = some P.fd_l_reached) (hA : T.lookup P.i_l_again = some P.fd_l_again) (hk : 2 ≤ k) {ins outs : List Str} (hn : rows.length ≤ 1000) (hrl : ∀ r ∈ rows, r.length ≤ 1000) (hin : ∀ s t, s < rows.length → t ∈ succs rows s → t < rows.length) :
    evF T k P.i_l_again [dDev ins outs rows] c = .ok (.lst ((again rows).map natD)) c := by
  obtain ⟨k, rfl⟩ : ∃ j, k = j + 1 := ⟨k - 1, by omega⟩
  obtain ⟨sl', c', h1, w2, h2, h3⟩ := forR_i (tg := asT (.nm 2)) (b := evSs (evF T k) (.cons (.ifs (.blt .all (.cons (.comp false [3] (.nm 3) (.seq (.call false 13 [] [.arg 0, .arg 1] (.cons (.idx (.var 0) (.cst (.str "rows"))) (.cons (.var 2) .nil)) .nil)) (.cst (.bl true)) (.cmp .inn (.var 2) (.call false 13 [] [.arg 0, .arg 1] (.cons (.idx (.var 0) (.cst (.str "rows"))) (.cons (.var 3) .nil)) .nil))) .nil)) (.cons (.expr (.bm .append (.var 1) (.cons (.var 2) .nil))) .nil) .nil) .nil))
    (fun i sl c' => ∃ w2, sl = [some (dDev ins outs rows), some (.ref c.length), w2, none] ∧ c' = c ++ [Cell.lst (((List.range i).filter (againP rows)).map natD)]) ((List.range rows.length).map fun (i : Nat) => D.int (i : Int)) (fun i d hd sl c' hI => by
      obtain ⟨w2, rfl, rfl⟩ := hI
      rw [List.getElem?_map] at hd
      by_cases hi : i < rows.length
      · rw [List.getElem?_range hi] at hd
        cases hd
        have hfl : ((List.range i).filter (againP rows)).length ≤ i := by
          have := List.length_filter_le (againP rows) (List.range i)
          rwa [List.length_range] at this
        rw [List.range_succ, List.filter_append]
        generalize (List.range i).filter (againP rows) = found at hfl
        obtain ⟨hC, _⟩ := come_spec hi hin
        have hcl := nd_le rows.length _ hC.nd hC.lt
        have e1 := reached_ok (c := c ++ [Cell.lst (found.map natD)]) hT (by omega : 1 ≤ k) hn hrl hi hin
        have qa : evT (evF T k) (.blt .all (.cons (.comp false [3] (.nm 3) (.seq (.call false 13 [] [.arg 0, .arg 1] (.cons (.idx (.var 0) (.cst (.str "rows"))) (.cons (.var 2) .nil)) .nil)) (.cst (.bl true)) (.cmp .inn (.var 2) (.call false 13 [] [.arg 0, .arg 1] (.cons (.idx (.var 0) (.cst (.str "rows"))) (.cons (.var 3) .nil)) .nil))) .nil)) [some (dDev ins outs rows), some (.ref c.length), some (natD i), none] (c ++ [Cell.lst (found.map natD)]) = .ok (againP rows i) (c ++ [Cell.lst (found.map natD)]) := by
          refine bltT_ok (blt_ok (args_cons (compf_ok (its := (comeTo rows i).map natD) (seq_ok (call_ok (ds := [dRows rows, natD i]) (args_cons (idx_ok (var_ok rfl) rfl dev_rows) (args_cons (var_ok rfl) args_nil)) args_nil rfl e1) rfl) (compR_lst natD (fun o => D.bl (decide (i ∈ comeTo rows o))) _ fun o ho => ⟨[some (dDev ins outs rows), some (.ref c.length), some (natD i), some (natD o)], rfl, true_ok, ?_⟩) (by simp; omega)) args_nil) (all_map _ _))
          have e2 := reached_ok (c := c ++ [Cell.lst (found.map natD)]) hT (by omega : 1 ≤ k) hn hrl (hC.lt o ho) hin
          have q := cod_nat.inB (by decide) (y := .lst ((comeTo rows o).map natD)) (c := c ++ [Cell.lst (found.map natD)]) (l := comeTo rows o) (a := i) (.inl rfl) trivial (fun _ _ => trivial)
          rw [evM, var_ok rfl, bnd_ok, call_ok (ds := [dRows rows, natD o]) (args_cons (idx_ok (var_ok rfl) rfl dev_rows) (args_cons (var_ok rfl) args_nil)) args_nil rfl e2, bnd_ok]
          by_cases hm : i ∈ comeTo rows o
          · simp only [hm, decide_true] at q ⊢
            exact q
          · simp only [hm, decide_false] at q ⊢
            exact q
        refine ⟨[some (dDev ins outs rows), some (.ref c.length), some (natD i), none], [some (dDev ins outs rows), some (.ref c.length), some (natD i), none], c ++ [Cell.lst ((found ++ [i].filter (againP rows)).map natD)], rfl, step_nx (sl' := [some (dDev ins outs rows), some (.ref c.length), some (natD i), none]) (c' := c ++ [Cell.lst ((found ++ [i].filter (againP rows)).map natD)]) ?_ nil_ok, _, rfl, rfl⟩
        cases hp : againP rows i with
        | true =>
          rw [hp] at qa
          rw [List.filter_cons_of_pos hp, List.filter_nil]
          refine if_t qa (step_nx (expr_ok (d := .non) (bm_ok (x := .ref c.length) (ds := [natD i]) (var_ok rfl) (lst_ref (at_end _ _)) (args_cons (var_ok rfl) args_nil) ?_)) nil_ok)
          rw [app_ok' (at_end _ _) (by simp; omega), set_end, List.map_append]
          rfl
        | false =>
          rw [hp] at qa
          rw [List.filter_cons_of_neg (by simp [hp]), List.filter_nil, List.append_nil]
          exact if_f qa nil_ok
      · rw [List.getElem?_eq_none (by rw [List.length_range]; omega)] at hd
        cases hd) (sl := [some (dDev ins outs rows), some (.ref c.length), none, none]) (c := c ++ [Cell.lst []]) ⟨none, rfl, rfl⟩
  rw [List.length_map, List.length_range] at h3
  subst h2 h3
  refine run_rt (d := .lst ((again rows).map natD)) (sl := [some (dDev ins outs rows), some (.ref c.length), w2, none]) (c' := c ++ [Cell.dead]) hA rfl ?_ (gcK_drop (by rw [rLt]; exact pl_nats _ _))
  show evSs (evF T k) P.b_l_again [some (dDev ins outs rows), none, none, none] c = _
  unfold P.b_l_again
  refine step_nx (sl' := [some (dDev ins outs rows), some (.ref c.length), none, none]) (c' := c ++ [Cell.lst []]) (asg_ok (lstt_ok args_nil (by simp)) rfl) ?_
  refine step_nx (for_ok (rng1_ok (n := rows.length) (blt_ok (args_cons (idx_ok (var_ok rfl) rfl dev_rows) args_nil) ((tab_l rows).len _)) (by omega)) h1) ?_
  refine step_rt (ret_ok (frzE_ok (var_ok rfl) ?_))
  unfold again
  rw [frz_ref (at_end _ _) (pl_nats _ _), set_end]
end
end Hv

set_option Elab.async false
set_option linter.all false
set_option maxRecDepth 100000
set_option maxHeartbeats 4000000
/-! HvYK: both tell the same stands. -/
namespace Hv
open PySem PySem.Spec PyProof.Rows L2

section
variable {rows : Rows} {nl no : Nat}
theorem come_self (hT : TabOk rows nl no) {s : Nat} (hs : s < rows.length) : s ∈ comeTo rows s := (come_spec hs hT.hin).1.fst
theorem come_lt (hT : TabOk rows nl no) {s t : Nat} (hs : s < rows.length) (ht : t ∈ comeTo rows s) : t < rows.length := (come_spec hs hT.hin).1.lt t ht
theorem come_nxt (hT : TabOk rows nl no) {s t a : Nat} (hs : s < rows.length) (ht : t ∈ comeTo rows s) (ha : a < nl) : nxt rows t a ∈ comeTo rows s :=
  (come_spec hs hT.hin).2 t ht _ ((hT.succ_mem (come_lt hT hs ht)).mpr ⟨a, ha, rfl⟩)
theorem come_ind (hT : TabOk rows nl no) {s : Nat} (hs : s < rows.length) (R : Nat → Prop) (h0 : R s) (h : ∀ t a, R t → t < rows.length → a < nl → R (nxt rows t a)) : ∀ t ∈ comeTo rows s, R t :=
  (come_spec hs hT.hin).1.from_ R h0 fun t u ht hl hu => by
    obtain ⟨a, ha, rfl⟩ := (hT.succ_mem hl).mp hu
    exact h t a ht hl ha
theorem come_trans (hT : TabOk rows nl no) {s t u : Nat} (hs : s < rows.length) (ht : t ∈ comeTo rows s) (hu : u ∈ comeTo rows t) : u ∈ comeTo rows s :=
  come_ind hT (come_lt hT hs ht) (fun u => u ∈ comeTo rows s) ht (fun v a hv _ ha => come_nxt hT hs hv ha) u hu
theorem nxt_lt (hT : TabOk rows nl no) {s a : Nat} (hs : s < rows.length) (ha : a < nl) : nxt rows s a < rows.length := by
  obtain ⟨_, _, _, h, _⟩ := hT.cell hs ha
  exact h
theorem it_nxt (hT : TabOk rows nl no) {a b : Nat} (ha : a < nl) (hb : b < nl) : ∀ (m : Nat) {s : Nat}, s < rows.length → it rows b m (nxt rows s a) = nxt rows (it rows b m s) a
  | 0, _, _ => rfl
  | m + 1, s, h => by
    show it rows b m (nxt rows (nxt rows s a) b) = nxt rows (it rows b m (nxt rows s b)) a
    rw [(hT.com s a b h ha hb).1]
    exact it_nxt hT ha hb m (nxt_lt hT h hb)
theorem it_it (hT : TabOk rows nl no) {a b : Nat} (ha : a < nl) (hb : b < nl) (m : Nat) : ∀ (k : Nat) {s : Nat}, s < rows.length → it rows b m (it rows a k s) = it rows a k (it rows b m s)
  | 0, _, _ => rfl
  | k + 1, s, h => by
    show it rows b m (it rows a k (nxt rows s a)) = it rows a k (nxt rows (it rows b m s) a)
    rw [it_it hT ha hb m k (nxt_lt hT h ha), it_nxt hT ha hb m h]
theorem it_come (hT : TabOk rows nl no) {s a : Nat} (hs : s < rows.length) (ha : a < nl) : ∀ (m : Nat) {t : Nat}, t ∈ comeTo rows s → it rows a m t ∈ comeTo rows s
  | 0, _, h => h
  | m + 1, t, h => it_come hT hs ha m (come_nxt hT hs h ha)
/-- all letters, often -/
def F (rows : Rows) (no : Nat) (counts : List Nat) (s i : Nat) : Nat := (mvI rows no counts s i).1
theorem F_succ (counts : List Nat) (s i : Nat) : F rows no counts s (i + 1) = it rows i (counts.getD i 0) (F rows no counts s i) := rfl
theorem F_lt (hT : TabOk rows nl no) (counts : List Nat) {s : Nat} (hs : s < rows.length) {i : Nat} (hi : i ≤ nl) : F rows no counts s i < rows.length := (mvI_lt hT hs i hi).1
theorem F_nxt (hT : TabOk rows nl no) (counts : List Nat) {s a : Nat} (hs : s < rows.length) (ha : a < nl) : ∀ i, i ≤ nl → F rows no counts (nxt rows s a) i = nxt rows (F rows no counts s i) a
  | 0, _ => rfl
  | i + 1, h => by
    rw [F_succ, F_succ, F_nxt hT counts hs ha i (by omega), it_nxt hT ha (by omega) _ (F_lt hT counts hs (by omega))]
theorem F_come (hT : TabOk rows nl no) (counts : List Nat) {s : Nat} (hs : s < rows.length) : ∀ i, i ≤ nl → F rows no counts s i ∈ comeTo rows s
  | 0, _ => come_self hT hs
  | i + 1, h => by
    rw [F_succ]
    exact it_come hT hs (by omega) _ (F_come hT counts hs i (by omega))
theorem F_it (hT : TabOk rows nl no) {counts : List Nat} {s : Nat} (hs : s < rows.length) : ∀ i, i ≤ nl → ∀ a, a < i → ∃ y, y < rows.length ∧ F rows no counts s i = it rows a (counts.getD a 0) y
  | 0, _, a, h => by omega
  | i + 1, h, a, ha => by
    by_cases hai : a = i
    · subst hai
      exact ⟨_, F_lt hT counts hs (by omega), F_succ _ _ _⟩
    · obtain ⟨y, hy, e⟩ := F_it hT hs i (by omega) a (by omega)
      refine ⟨it rows i (counts.getD i 0) y, it_lt hT (by omega) _ hy, ?_⟩
      rw [F_succ, e, it_it hT (by omega) (by omega) _ _ hy]
/-- behind n steps of a letter there is a round -/
theorem period (hT : TabOk rows nl no) {a y : Nat} (ha : a < nl) (hy : y < rows.length) : ∃ p, 0 < p ∧ it rows a p (it rows a rows.length y) = it rows a rows.length y := by
  have hx : ∃ i j, i < j ∧ j ≤ rows.length ∧ it rows a i y = it rows a j y := by
    refine Classical.byContradiction fun hno => ?_
    have h1 : ((List.range (rows.length + 1)).map fun i => it rows a i y).Nodup := by
      refine List.pairwise_map.mpr (List.Pairwise.imp_of_mem ?_ List.nodup_range)
      intro i j hi hj hij e
      have hi := List.mem_range.mp hi
      have hj := List.mem_range.mp hj
      rcases Nat.lt_or_gt_of_ne hij with h | h
      · exact hno ⟨i, j, h, by omega, e⟩
      · exact hno ⟨j, i, h, by omega, e.symm⟩
    have h2 := nd_le rows.length _ h1 fun x hx => by
      obtain ⟨i, _, rfl⟩ := List.mem_map.mp hx
      exact it_lt hT ha i hy
    rw [List.length_map, List.length_range] at h2
    omega
  obtain ⟨i, j, hij, hj, e⟩ := hx
  refine ⟨j - i, by omega, ?_⟩
  have h1 : it rows a rows.length y = it rows a (rows.length - i) (it rows a i y) := by
    rw [← it_add, show i + (rows.length - i) = rows.length by omega]
  have h2 : it rows a (j - i) (it rows a i y) = it rows a i y := by
    rw [← it_add, show i + (j - i) = j by omega, e]
  rw [h1, ← it_add, Nat.add_comm, it_add, h2]
theorem again_iff (hT : TabOk rows nl no) {counts : List Nat} (hc : ∀ a, a < nl → counts.getD a 0 = rows.length) {s : Nat} (hs : s < rows.length) : s ∈ comeTo rows (F rows no counts 0 nl) ↔ againP rows s = true := by
  have h0 : 0 < rows.length := by have := hT.n1; omega
  have hcl := F_lt hT counts h0 (Nat.le_refl nl)
  unfold againP
  rw [List.all_eq_true]
  constructor
  · intro hm o ho
    refine decide_eq_true ?_
    -- each letter's round
    have per : ∀ a, a < nl → ∃ p, 0 < p ∧ ∀ t ∈ comeTo rows (F rows no counts 0 nl), it rows a p t = t := fun a ha => by
      obtain ⟨y, hy, e⟩ := F_it hT (counts := counts) h0 nl (Nat.le_refl _) a ha
      rw [hc a ha] at e
      obtain ⟨p, hp, e2⟩ := period hT ha hy
      rw [← e] at e2
      refine ⟨p, hp, come_ind hT hcl (fun t => it rows a p t = t) e2 fun t b ht hl hb => ?_⟩
      rw [it_nxt hT hb ha p hl, ht]
    have back : ∀ t a, t ∈ comeTo rows (F rows no counts 0 nl) → a < nl → t ∈ comeTo rows (nxt rows t a) := fun t a ht ha => by
      obtain ⟨p, hp, h⟩ := per a ha
      have hl := come_lt hT hcl ht
      obtain ⟨m, rfl⟩ : ∃ m, p = m + 1 := ⟨p - 1, by omega⟩
      have := it_come hT (nxt_lt hT hl ha) ha m (come_self hT (nxt_lt hT hl ha))
      have e : it rows a m (nxt rows t a) = t := h t ht
      rw [e] at this
      exact this
    refine (come_ind hT hs (fun o => o ∈ comeTo rows (F rows no counts 0 nl) ∧ s ∈ comeTo rows o) ⟨hm, come_self hT hs⟩ (fun t a ht hl ha => ?_) o ho).2
    exact ⟨come_nxt hT hcl ht.1 ha, come_trans hT (nxt_lt hT hl ha) (back t a ht.1 ha) ht.2⟩
  · intro h
    have key : ∀ t, Reach rows nl t → t < rows.length → F rows no counts t nl ∈ comeTo rows (F rows no counts 0 nl) := fun t ht => by
      induction ht with
      | zero => intro _; exact come_self hT hcl
      | @step s a h hs ha ih =>
        intro _
        rw [F_nxt hT counts hs ha nl (Nat.le_refl _)]
        exact come_nxt hT hcl (ih hs) ha
    have h1 := key s (hT.rch s hs) hs
    have h2 := of_decide_eq_true (h _ (F_come hT counts hs nl (Nat.le_refl _)))
    exact come_trans hT hcl h1 h2
theorem coming_again_eq {ins outs : List Str} (hT : TabOk rows ins.length outs.length) : comingL ins outs rows = (again rows).map fun n : Nat => (n : Int) := by
  have h0 : 0 < rows.length := by have := hT.n1; omega
  have hcl : someAgain ins outs rows < rows.length := F_lt hT (ins.map fun _ => rows.length) h0 (Nat.le_refl _)
  have hC := (come_spec hcl hT.hin).1
  have hperm : (comeTo rows (someAgain ins outs rows)).Perm (again rows) := (List.perm_ext_iff_of_nodup hC.nd (List.nodup_range.filter _)).mpr fun s => by
    rw [List.mem_filter, List.mem_range]
    have hcs : ∀ a, a < ins.length → (ins.map fun _ => rows.length).getD a 0 = rows.length := fun a ha => by
      rw [List.getD_eq_getElem?_getD, List.getElem?_map, List.getElem?_eq_getElem ha]
      rfl
    constructor
    · intro h
      have hl := hC.lt s h
      exact ⟨hl, (again_iff hT hcs hl).mp h⟩
    · rintro ⟨h1, h2⟩
      exact (again_iff hT hcs h1).mpr h2
  unfold comingL
  refine List.Perm.eq_of_pairwise (le := fun a b : Int => leI a b = true) (fun a b _ _ h1 h2 => ?_) (List.pairwise_mergeSort (fun a b c h1 h2 => ?_) (fun a b => ?_) _) ?_ ((List.mergeSort_perm _ _).trans (hperm.map _))
  · have := of_decide_eq_true h1
    have := of_decide_eq_true h2
    omega
  · have := of_decide_eq_true h1
    have := of_decide_eq_true h2
    exact decide_eq_true (by omega)
  · unfold leI
    by_cases h : a ≤ b
    · simp [h]
    · have : b ≤ a := by omega
      simp [this]
  · refine List.pairwise_map.mpr ((List.pairwise_lt_range.filter _).imp fun {a b} h => ?_)
    exact decide_eq_true (by omega)
end
theorem like_int {T : Tab} {k : Nat} (hT : T.lookup P.i_l_like = some P.fd_l_like) (a : Int) (c : Ct) : evF T (k + 1) P.i_l_like [.int a, .int a] c = .ok (.bl true) c := by
  refine run_rt (d := .bl true) (sl := [some (.int a), some (.int a), none]) (c' := c) hT rfl ?_ (gcK_same _ _)
  show evSs (evF T k) bLike [some (.int a), some (.int a), none] c = _
  unfold bLike
  have i0 : bltD .isi [.int a, .tup [.ty "list", .ty "tuple"]] c = .ok (.bl false) c := isi_lt2 (.int a) "int" c false rfl (by decide +kernel)
  have i1 : bltD .isi [.int a, .ty "bool"] c = .ok (.bl false) c := isi_lt (.int a) "int" c false rfl "bool" (by decide +kernel)
  have i2 : bltD .isi [.int a, .ty "int"] c = .ok (.bl true) c := isi_lt (.int a) "int" c true rfl "int" (by decide +kernel)
  have i3 : bltD .isi [.int a, .ty "str"] c = .ok (.bl false) c := isi_lt (.int a) "int" c false rfl "str" (by decide +kernel)
  have hl4 : tupK [.ty "list", .ty "tuple"] c = .ok (.tup [.ty "list", .ty "tuple"]) c := tupK_ok (by simp) c
  simp only [evSs_cons, evSs_nil, seqK_nx, seqK_rt, seqK_ex, evS, evM, evA, evO, evI, evT, bnd_ok, ofR_ok, tst_f, tst_t, varK_some, Cst.d, bolK_bl, tru_bl', truK_bl, and_bl, or_bl, notK_bl, bin_add, bin_sub, cmp_lt, cmp_le, cmp_gt, cmp_ge, cmp_eqI, cmp_neI, cmp_eqB, cmp_neB, cmp_eqS, cmp_neS, cmp_isN, cmp_isnN, cmp_isB, len_lst, len_tup, isNon, intO, seqD, asT, asTs, Option.bind_some, List.getElem?_cons_zero, List.getElem?_cons_succ, List.set_cons_zero, List.set_cons_succ, fin_rt, fin_nx, fin_ex, if_true, callK, arrD, List.cons_append, List.nil_append, Option.map_some, retK_f, eq_self, decide_true, decide_false, Bool.false_eq_true, if_false, hl4, i0, i1, i2, i3, Bool.not_true, Bool.not_false]
end Hv

set_option Elab.async false
set_option linter.all false
set_option maxRecDepth 100000
namespace K08
open PySem PySem.Spec PyProof.Rows L2 Hv
def topS (i : Nat) : Stmt := PySem.Challenge.pw_heedless_k08_stands_that_come_again.main.body.getD i (.Pass ⟨0, 0, 0, 0⟩)
def T : Tab := [(0, (P.fd_law_k08)), (1, (P.fd_l_deal)), (2, (P.fd_l_any_device)), (3, (P.fd_l_made)), (4, (P.fd_l_again)), (5, (P.fd_coming_again)), (6, (P.fd_l_like)), (7, (P.fd_l_names)), (8, (P.fd_l_of)), (9, (P.fd_l_shuffled)), (10, (P.fd_l_pick)), (11, (P.fd_l_device)), (12, (P.fd_Machine_init .nev .nev .nev .nev)), (13, (P.fd_l_reached)), (14, (P.fd_come_to)), (15, (P.fd_Machine_rows)), (16, (P.fd_some_again)), (17, (P.fd_l_rule)), (18, (P.fd_l_raw)), (19, (P.fd_l_renumbered)), (20, (P.fd_need_names .nev)), (21, (P.fd_good_row)), (22, (P.fd_heeded)), (23, (P.fd_fresh_ones)), (24, (P.fd_Machine_moved .nev)), (25, (P.fd_Machine_letters)), (26, (P.fd_Machine_len)), (27, (P.fd_l_weight)), (28, (P.fd_l_down)), (29, (P.fd_l_gain)), (30, (P.fd_is_name)), (31, (P.fd_both_ways)), (32, (P.fd_Machine_need_stand .nev)), (33, (P.fd_far_moved)), (34, (P.fd_added)), (35, (P.fd_l_times_of))]
def G : GE := ⟨[(0, "law"), (1, "_law_deal"), (2, "_law_any_device"), (3, "_law_made"), (4, "_law_again"), (5, "coming_again"), (6, "_law_like"), (7, "_law_names"), (8, "_law_of"), (9, "_law_shuffled"), (10, "_law_pick"), (11, "_law_device"), (13, "_law_reached"), (14, "come_to"), (16, "some_again"), (17, "_law_rule"), (18, "_law_raw"), (19, "_law_renumbered"), (20, "need_names"), (21, "good_row"), (22, "heeded"), (23, "fresh_ones"), (27, "_law_weight"), (28, "_law_down"), (29, "_law_gain"), (30, "is_name"), (31, "both_ways"), (33, "far_moved"), (34, "added"), (35, "_law_times_of")],
  [("LETTERS", (.int 3)), ("STANDS", (.int 60)), ("MOST", (.int 999999)), ("SIGNS", (.str "abcdefghijklmnopqrstuvwxyz"))],
  [("Machine", "inward"), ("Machine", "outward"), ("Machine", "table")],
  [("Machine", "rows", 15, 1, [], [.arg 0]), ("Machine", "moved", 24, 2, [], [.arg 0, .arg 1, .dfl (.int 0)]), ("Machine", "letters", 25, 1, [], [.arg 0]), ("Machine", "need_stand", 32, 2, [], [.arg 0, .arg 1])],
  [("Machine", 12, 4, [], [.arg 0, .arg 1, .arg 2, .arg 3])],
  [("Machine", 26)],
  [(1, 1, [], [.arg 0]), (2, 2, [], [.arg 0, .arg 1]), (3, 1, [], [.arg 0]), (4, 1, [], [.arg 0]), (5, 0, ["machine"], [.arg 0]), (6, 2, [], [.arg 0, .arg 1]), (7, 2, [], [.arg 0, .arg 1]), (8, 2, [], [.arg 0, .arg 1]), (9, 2, [], [.arg 0, .arg 1]), (10, 2, [], [.arg 0, .arg 1]), (11, 4, [], [.arg 0, .arg 1, .arg 2, .arg 3]), (13, 2, [], [.arg 0, .arg 1]), (14, 2, [], [.arg 0, .arg 1]), (16, 1, [], [.arg 0]), (17, 3, [], [.arg 0, .arg 1, .arg 2]), (18, 4, [], [.arg 0, .arg 1, .arg 2, .arg 3]), (19, 2, [], [.arg 0, .arg 1]), (20, 1, [], [.arg 0]), (21, 4, [], [.arg 0, .arg 1, .arg 2, .arg 3]), (22, 1, [], [.arg 0]), (23, 2, [], [.arg 0, .arg 1]), (27, 2, [], [.arg 0, .arg 1]), (28, 2, [], [.arg 0, .arg 1]), (29, 4, [], [.arg 0, .arg 1, .arg 2, .arg 3]), (30, 1, [], [.arg 0]), (31, 4, [], [.arg 0, .arg 1, .arg 2, .arg 3]), (33, 4, [], [.arg 0, .arg 1, .arg 2, .arg 3]), (34, 2, [], [.arg 0, .arg 1]), (35, 2, [], [.arg 0, .arg 1])],
  [],
  []⟩
abbrev s_law : Stmt := topS 48
def N_law : List Str := ["_law_script", "_law_deal_here", "_law_turn", "_law_m", "_law_made_here", "_law_due", "_law_step", "_law_found"]
theorem sc_law : FnScope N_law ["_law_script"] (defScope s_law) := ⟨rfl, rfl, rfl, by decide +kernel, rfl, by decide +kernel, by decide +kernel⟩
theorem ck_law : chkSs G ⟨N_law, defScope s_law, fun _ => true⟩ (P.b_law_k08) (defBody s_law) = true := by decide +kernel
abbrev s_l_deal : Stmt := topS 30
def N_l_deal : List Str := ["_law_script", "_law_mixed", "_law_cell"]
theorem sc_l_deal : FnScope N_l_deal ["_law_script"] (defScope s_l_deal) := ⟨rfl, rfl, rfl, by decide +kernel, rfl, by decide +kernel, by decide +kernel⟩
theorem ck_l_deal : chkSs G ⟨N_l_deal, defScope s_l_deal, fun _ => true⟩ (P.b_l_deal) (defBody s_l_deal) = true := by decide +kernel
abbrev s_l_any_device : Stmt := topS 44
def N_l_any_device : List Str := ["_law_deal_here", "_law_most", "_law_ins", "_law_outs"]
theorem sc_l_any_device : FnScope N_l_any_device ["_law_deal_here", "_law_most"] (defScope s_l_any_device) := ⟨rfl, rfl, rfl, by decide +kernel, rfl, by decide +kernel, by decide +kernel⟩
theorem ck_l_any_device : chkSs G ⟨N_l_any_device, defScope s_l_any_device, fun _ => true⟩ (P.b_l_any_device) (defBody s_l_any_device) = true := by decide +kernel
abbrev s_l_made : Stmt := topS 45
def N_l_made : List Str := ["_law_m", "_law_row"]
theorem sc_l_made : FnScope N_l_made ["_law_m"] (defScope s_l_made) := ⟨rfl, rfl, rfl, by decide +kernel, rfl, by decide +kernel, by decide +kernel⟩
theorem ck_l_made : chkSs G ⟨N_l_made, defScope s_l_made, fun _ => true⟩ (P.b_l_made) (defBody s_l_made) = true := by decide +kernel
abbrev s_l_again : Stmt := topS 47
def N_l_again : List Str := ["_law_m", "_law_found", "_law_stand", "_law_other"]
theorem sc_l_again : FnScope N_l_again ["_law_m"] (defScope s_l_again) := ⟨rfl, rfl, rfl, by decide +kernel, rfl, by decide +kernel, by decide +kernel⟩
theorem ck_l_again : chkSs G ⟨N_l_again, defScope s_l_again, fun _ => true⟩ (P.b_l_again) (defBody s_l_again) = true := by decide +kernel
abbrev s_coming_again : Stmt := topS 28
def N_coming_again : List Str := ["machine"]
theorem sc_coming_again : FnScope N_coming_again ["machine"] (defScope s_coming_again) := ⟨rfl, rfl, rfl, by decide +kernel, rfl, by decide +kernel, by decide +kernel⟩
theorem ck_coming_again : chkSs G ⟨N_coming_again, defScope s_coming_again, fun _ => true⟩ (P.b_coming_again) (defBody s_coming_again) = true := by decide +kernel
abbrev s_l_like : Stmt := topS 33
def N_l_like : List Str := ["_law_found", "_law_due", "_law_k"]
theorem sc_l_like : FnScope N_l_like ["_law_found", "_law_due"] (defScope s_l_like) := ⟨rfl, rfl, rfl, by decide +kernel, rfl, by decide +kernel, by decide +kernel⟩
theorem ck_l_like : chkSs G ⟨N_l_like, defScope s_l_like, fun _ => true⟩ (P.b_l_like) (defBody s_l_like) = true := by decide +kernel
abbrev s_l_names : Stmt := topS 34
def N_l_names : List Str := ["_law_deal_here", "_law_many", "_law_tail", "_law_at", "_law_start", "_law_signs", "_law_k"]
theorem sc_l_names : FnScope N_l_names ["_law_deal_here", "_law_many"] (defScope s_l_names) := ⟨rfl, rfl, rfl, by decide +kernel, rfl, by decide +kernel, by decide +kernel⟩
theorem ck_l_names : chkSs G ⟨N_l_names, defScope s_l_names, fun _ => true⟩ (P.b_l_names) (defBody s_l_names) = true := by decide +kernel
abbrev s_l_of : Stmt := topS 32
def N_l_of : List Str := ["_law_deal_here", "_law_some"]
theorem sc_l_of : FnScope N_l_of ["_law_deal_here", "_law_some"] (defScope s_l_of) := ⟨rfl, rfl, rfl, by decide +kernel, rfl, by decide +kernel, by decide +kernel⟩
theorem ck_l_of : chkSs G ⟨N_l_of, defScope s_l_of, fun _ => true⟩ (P.b_l_of) (defBody s_l_of) = true := by decide +kernel
abbrev s_l_shuffled : Stmt := topS 35
def N_l_shuffled : List Str := ["_law_deal_here", "_law_some", "_law_found", "_law_one"]
theorem sc_l_shuffled : FnScope N_l_shuffled ["_law_deal_here", "_law_some"] (defScope s_l_shuffled) := ⟨rfl, rfl, rfl, by decide +kernel, rfl, by decide +kernel, by decide +kernel⟩
theorem ck_l_shuffled : chkSs G ⟨N_l_shuffled, defScope s_l_shuffled, fun _ => true⟩ (P.b_l_shuffled) (defBody s_l_shuffled) = true := by decide +kernel
abbrev s_l_pick : Stmt := topS 31
def N_l_pick : List Str := ["_law_deal_here", "_law_many", "_law_cell", "_law_got", "_law_seed"]
theorem sc_l_pick : FnScope N_l_pick ["_law_deal_here", "_law_many"] (defScope s_l_pick) := ⟨rfl, rfl, rfl, by decide +kernel, rfl, by decide +kernel, by decide +kernel⟩
theorem ck_l_pick : chkSs G ⟨N_l_pick, defScope s_l_pick, fun _ => true⟩ (P.b_l_pick) (defBody s_l_pick) = true := by decide +kernel
abbrev s_l_device : Stmt := topS 43
def N_l_device : List Str := ["_law_deal_here", "_law_ins", "_law_outs", "_law_most", "_law_rules", "_law_k", "_law_ring", "_law_name", "_law_rows"]
theorem sc_l_device : FnScope N_l_device ["_law_deal_here", "_law_ins", "_law_outs", "_law_most"] (defScope s_l_device) := ⟨rfl, rfl, rfl, by decide +kernel, rfl, by decide +kernel, by decide +kernel⟩
theorem ck_l_device : chkSs G ⟨N_l_device, defScope s_l_device, fun _ => true⟩ (P.b_l_device) (defBody s_l_device) = true := by decide +kernel
abbrev s_Machine_init : Stmt := (clsBody (topS 25)).getD 0 (.Pass ⟨0, 0, 0, 0⟩)
def N_Machine_init : List Str := ["self", "letters", "outlets", "rows", "at", "row", "there", "sends", "reached", "stand", "found"]
theorem sc_Machine_init : FnScope N_Machine_init ["self", "letters", "outlets", "rows"] (defScope s_Machine_init) := ⟨rfl, rfl, rfl, by decide +kernel, rfl, by decide +kernel, by decide +kernel⟩
theorem ck_Machine_init : chkSs G ⟨N_Machine_init, defScope s_Machine_init, fun _ => true⟩ (P.b_Machine_init .nev .nev .nev .nev) (defBody s_Machine_init) = true := by decide +kernel
abbrev s_l_reached : Stmt := topS 46
def N_l_reached : List Str := ["_law_rows", "_law_start", "_law_found", "_law_k", "_law_there", "_law_sends"]
theorem sc_l_reached : FnScope N_l_reached ["_law_rows", "_law_start"] (defScope s_l_reached) := ⟨rfl, rfl, rfl, by decide +kernel, rfl, by decide +kernel, by decide +kernel⟩
theorem ck_l_reached : chkSs G ⟨N_l_reached, defScope s_l_reached, fun _ => true⟩ (P.b_l_reached) (defBody s_l_reached) = true := by decide +kernel
abbrev s_come_to : Stmt := topS 20
def N_come_to : List Str := ["table", "first", "found", "stand"]
theorem sc_come_to : FnScope N_come_to ["table", "first"] (defScope s_come_to) := ⟨rfl, rfl, rfl, by decide +kernel, rfl, by decide +kernel, by decide +kernel⟩
theorem ck_come_to : chkSs G ⟨N_come_to, defScope s_come_to, fun _ => true⟩ (P.b_come_to) (defBody s_come_to) = true := by decide +kernel
abbrev s_Machine_rows : Stmt := (clsBody (topS 25)).getD 7 (.Pass ⟨0, 0, 0, 0⟩)
def N_Machine_rows : List Str := ["self", "row"]
theorem sc_Machine_rows : FnScope N_Machine_rows ["self"] (defScope s_Machine_rows) := ⟨rfl, rfl, rfl, by decide +kernel, rfl, by decide +kernel, by decide +kernel⟩
theorem ck_Machine_rows : chkSs G ⟨N_Machine_rows, defScope s_Machine_rows, fun _ => true⟩ (P.b_Machine_rows) (defBody s_Machine_rows) = true := by decide +kernel
abbrev s_some_again : Stmt := topS 27
def N_some_again : List Str := ["machine", "letter"]
theorem sc_some_again : FnScope N_some_again ["machine"] (defScope s_some_again) := ⟨rfl, rfl, rfl, by decide +kernel, rfl, by decide +kernel, by decide +kernel⟩
theorem ck_some_again : chkSs G ⟨N_some_again, defScope s_some_again, fun _ => true⟩ (P.b_some_again) (defBody s_some_again) = true := by decide +kernel
abbrev s_l_rule : Stmt := topS 36
def N_l_rule : List Str := ["_law_deal_here", "_law_ins", "_law_outs", "_law_used", "_law_name", "_law_weights", "_law_paid", "_law_gives", "_law_every", "_law_early"]
theorem sc_l_rule : FnScope N_l_rule ["_law_deal_here", "_law_ins", "_law_outs"] (defScope s_l_rule) := ⟨rfl, rfl, rfl, by decide +kernel, rfl, by decide +kernel, by decide +kernel⟩
theorem ck_l_rule : chkSs G ⟨N_l_rule, defScope s_l_rule, fun _ => true⟩ (P.b_l_rule) (defBody s_l_rule) = true := by decide +kernel
abbrev s_l_raw : Stmt := topS 41
def N_l_raw : List Str := ["_law_rules", "_law_ins", "_law_outs", "_law_most", "_law_stands", "_law_rows", "_law_here", "_law_row", "_law_name", "_law_risen", "_law_rule_here", "_law_come", "_law_there"]
theorem sc_l_raw : FnScope N_l_raw ["_law_rules", "_law_ins", "_law_outs", "_law_most"] (defScope s_l_raw) := ⟨rfl, rfl, rfl, by decide +kernel, rfl, by decide +kernel, by decide +kernel⟩
theorem ck_l_raw : chkSs G ⟨N_l_raw, defScope s_l_raw, fun _ => true⟩ (P.b_l_raw) (defBody s_l_raw) = true := by decide +kernel
abbrev s_l_renumbered : Stmt := topS 42
def N_l_renumbered : List Str := ["_law_deal_here", "_law_rows", "_law_order", "_law_there", "_law_sends", "_law_old"]
theorem sc_l_renumbered : FnScope N_l_renumbered ["_law_deal_here", "_law_rows"] (defScope s_l_renumbered) := ⟨rfl, rfl, rfl, by decide +kernel, rfl, by decide +kernel, by decide +kernel⟩
theorem ck_l_renumbered : chkSs G ⟨N_l_renumbered, defScope s_l_renumbered, fun _ => true⟩ (P.b_l_renumbered) (defBody s_l_renumbered) = true := by decide +kernel
abbrev s_need_names : Stmt := topS 17
def N_need_names : List Str := ["names", "at", "name"]
theorem sc_need_names : FnScope N_need_names ["names"] (defScope s_need_names) := ⟨rfl, rfl, rfl, by decide +kernel, rfl, by decide +kernel, by decide +kernel⟩
theorem ck_need_names : chkSs G ⟨N_need_names, defScope s_need_names, fun _ => true⟩ (P.b_need_names .nev) (defBody s_need_names) = true := by decide +kernel
abbrev s_good_row : Stmt := topS 18
def N_good_row : List Str := ["row", "letters", "outlets", "stands", "there", "sends", "many"]
theorem sc_good_row : FnScope N_good_row ["row", "letters", "outlets", "stands"] (defScope s_good_row) := ⟨rfl, rfl, rfl, by decide +kernel, rfl, by decide +kernel, by decide +kernel⟩
theorem ck_good_row : chkSs G ⟨N_good_row, defScope s_good_row, fun _ => true⟩ (P.b_good_row) (defBody s_good_row) = true := by decide +kernel
abbrev s_heeded : Stmt := topS 23
def N_heeded : List Str := ["table", "stand", "one", "other"]
theorem sc_heeded : FnScope N_heeded ["table"] (defScope s_heeded) := ⟨rfl, rfl, rfl, by decide +kernel, rfl, by decide +kernel, by decide +kernel⟩
theorem ck_heeded : chkSs G ⟨N_heeded, defScope s_heeded, fun _ => true⟩ (P.b_heeded) (defBody s_heeded) = true := by decide +kernel
abbrev s_fresh_ones : Stmt := topS 21
def N_fresh_ones : List Str := ["row", "known", "fresh", "there", "sends"]
theorem sc_fresh_ones : FnScope N_fresh_ones ["row", "known"] (defScope s_fresh_ones) := ⟨rfl, rfl, rfl, by decide +kernel, rfl, by decide +kernel, by decide +kernel⟩
theorem ck_fresh_ones : chkSs G ⟨N_fresh_ones, defScope s_fresh_ones, fun _ => true⟩ (P.b_fresh_ones) (defBody s_fresh_ones) = true := by decide +kernel
abbrev s_Machine_moved : Stmt := (clsBody (topS 25)).getD 11 (.Pass ⟨0, 0, 0, 0⟩)
def N_Machine_moved : List Str := ["self", "counts", "stand", "many", "sent", "name", "place", "more"]
theorem sc_Machine_moved : FnScope N_Machine_moved ["self", "counts", "stand"] (defScope s_Machine_moved) := ⟨rfl, rfl, rfl, by decide +kernel, rfl, by decide +kernel, by decide +kernel⟩
theorem ck_Machine_moved : chkSs G ⟨N_Machine_moved, defScope s_Machine_moved, fun _ => true⟩ (P.b_Machine_moved .nev) (defBody s_Machine_moved) = true := by decide +kernel
abbrev s_Machine_letters : Stmt := (clsBody (topS 25)).getD 5 (.Pass ⟨0, 0, 0, 0⟩)
def N_Machine_letters : List Str := ["self"]
theorem sc_Machine_letters : FnScope N_Machine_letters ["self"] (defScope s_Machine_letters) := ⟨rfl, rfl, rfl, by decide +kernel, rfl, by decide +kernel, by decide +kernel⟩
theorem ck_Machine_letters : chkSs G ⟨N_Machine_letters, defScope s_Machine_letters, fun _ => true⟩ (P.b_Machine_letters) (defBody s_Machine_letters) = true := by decide +kernel
abbrev s_Machine_len : Stmt := (clsBody (topS 25)).getD 1 (.Pass ⟨0, 0, 0, 0⟩)
def N_Machine_len : List Str := ["self"]
theorem sc_Machine_len : FnScope N_Machine_len ["self"] (defScope s_Machine_len) := ⟨rfl, rfl, rfl, by decide +kernel, rfl, by decide +kernel, by decide +kernel⟩
theorem ck_Machine_len : chkSs G ⟨N_Machine_len, defScope s_Machine_len, fun _ => true⟩ (P.b_Machine_len) (defBody s_Machine_len) = true := by decide +kernel
abbrev s_l_weight : Stmt := topS 39
def N_l_weight : List Str := ["_law_rule_here", "_law_name", "_law_one", "_law_weight_here"]
theorem sc_l_weight : FnScope N_l_weight ["_law_rule_here", "_law_name"] (defScope s_l_weight) := ⟨rfl, rfl, rfl, by decide +kernel, rfl, by decide +kernel, by decide +kernel⟩
theorem ck_l_weight : chkSs G ⟨N_l_weight, defScope s_l_weight, fun _ => true⟩ (P.b_l_weight) (defBody s_l_weight) = true := by decide +kernel
abbrev s_l_down : Stmt := topS 37
def N_l_down : List Str := ["_law_rule_here", "_law_come"]
theorem sc_l_down : FnScope N_l_down ["_law_rule_here", "_law_come"] (defScope s_l_down) := ⟨rfl, rfl, rfl, by decide +kernel, rfl, by decide +kernel, by decide +kernel⟩
theorem ck_l_down : chkSs G ⟨N_l_down, defScope s_l_down, fun _ => true⟩ (P.b_l_down) (defBody s_l_down) = true := by decide +kernel
abbrev s_l_gain : Stmt := topS 40
def N_l_gain : List Str := ["_law_rules", "_law_outs", "_law_early", "_law_late", "_law_found", "_law_rule_here", "_law_one", "_law_two", "_law_name", "_law_many"]
theorem sc_l_gain : FnScope N_l_gain ["_law_rules", "_law_outs", "_law_early", "_law_late"] (defScope s_l_gain) := ⟨rfl, rfl, rfl, by decide +kernel, rfl, by decide +kernel, by decide +kernel⟩
theorem ck_l_gain : chkSs G ⟨N_l_gain, defScope s_l_gain, fun _ => true⟩ (P.b_l_gain) (defBody s_l_gain) = true := by decide +kernel
abbrev s_is_name : Stmt := topS 16
def N_is_name : List Str := ["text", "sign"]
theorem sc_is_name : FnScope N_is_name ["text"] (defScope s_is_name) := ⟨rfl, rfl, rfl, by decide +kernel, rfl, by decide +kernel, by decide +kernel⟩
theorem ck_is_name : chkSs G ⟨N_is_name, defScope s_is_name, fun _ => true⟩ (P.b_is_name) (defBody s_is_name) = true := by decide +kernel
abbrev s_both_ways : Stmt := topS 22
def N_both_ways : List Str := ["table", "stand", "one", "other", "first", "sends", "last", "more"]
theorem sc_both_ways : FnScope N_both_ways ["table", "stand", "one", "other"] (defScope s_both_ways) := ⟨rfl, rfl, rfl, by decide +kernel, rfl, by decide +kernel, by decide +kernel⟩
theorem ck_both_ways : chkSs G ⟨N_both_ways, defScope s_both_ways, fun _ => true⟩ (P.b_both_ways) (defBody s_both_ways) = true := by decide +kernel
abbrev s_Machine_need_stand : Stmt := (clsBody (topS 25)).getD 9 (.Pass ⟨0, 0, 0, 0⟩)
def N_Machine_need_stand : List Str := ["self", "stand"]
theorem sc_Machine_need_stand : FnScope N_Machine_need_stand ["self", "stand"] (defScope s_Machine_need_stand) := ⟨rfl, rfl, rfl, by decide +kernel, rfl, by decide +kernel, by decide +kernel⟩
theorem ck_Machine_need_stand : chkSs G ⟨N_Machine_need_stand, defScope s_Machine_need_stand, fun _ => true⟩ (P.b_Machine_need_stand .nev) (defBody s_Machine_need_stand) = true := by decide +kernel
abbrev s_far_moved : Stmt := topS 24
def N_far_moved : List Str := ["table", "stand", "place", "many", "jumps", "row", "sent", "many_sent", "more", "there"]
theorem sc_far_moved : FnScope N_far_moved ["table", "stand", "place", "many"] (defScope s_far_moved) := ⟨rfl, rfl, rfl, by decide +kernel, rfl, by decide +kernel, by decide +kernel⟩
theorem ck_far_moved : chkSs G ⟨N_far_moved, defScope s_far_moved, fun _ => true⟩ (P.b_far_moved) (defBody s_far_moved) = true := by decide +kernel
abbrev s_added : Stmt := topS 19
def N_added : List Str := ["one", "other", "a", "b"]
theorem sc_added : FnScope N_added ["one", "other"] (defScope s_added) := ⟨rfl, rfl, rfl, by decide +kernel, rfl, by decide +kernel, by decide +kernel⟩
theorem ck_added : chkSs G ⟨N_added, defScope s_added, fun _ => true⟩ (P.b_added) (defBody s_added) = true := by decide +kernel
abbrev s_l_times_of : Stmt := topS 38
def N_l_times_of : List Str := ["_law_rule_here", "_law_come", "_law_found"]
theorem sc_l_times_of : FnScope N_l_times_of ["_law_rule_here", "_law_come"] (defScope s_l_times_of) := ⟨rfl, rfl, rfl, by decide +kernel, rfl, by decide +kernel, by decide +kernel⟩
theorem ck_l_times_of : chkSs G ⟨N_l_times_of, defScope s_l_times_of, fun _ => true⟩ (P.b_l_times_of) (defBody s_l_times_of) = true := by decide +kernel
section
variable {K : PySem.W.Frag} {mg : Str → Option Value}
set_option maxHeartbeats 0 in
theorem all_mk {h : Heap} (X : K.In h) (Gl : h.Ns mainGlobals mg)
    {C_Machine : Addr}
    (xa_Machine : PySem.W.nsIn K mainGlobals "Machine" = some (some (.ref C_Machine)))
    (pg_Machine : PySem.W.plainGet K C_Machine Str.empty = true)
    (hd_Machine : PySem.W.hasDictIn K C_Machine = true)
    (po_Machine : PySem.W.plainOver K C_Machine = true)
    (sa_Machine : PySem.W.findIn K (.ref C_Machine) "__setattr__" = some (some (.builtin "object.__setattr__")))
    (mz_Machine : PySem.W.makesIn K C_Machine = true)
    (kp_Machine : PySem.W.keepIn K (.ref C_Machine) = true)
    (nf_Machine_inward : PySem.W.findIn K (.ref C_Machine) "inward" = some none)
    (nf_Machine_outward : PySem.W.findIn K (.ref C_Machine) "outward" = some none)
    (nf_Machine_table : PySem.W.findIn K (.ref C_Machine) "table" = some none)
    {u_LETTERS : Value}
    (co_LETTERS : PySem.W.nsIn K mainGlobals "LETTERS" = some (some u_LETTERS))
    (cr_LETTERS : RelV (Cst.v (.int 3)) u_LETTERS)
    {u_STANDS : Value}
    (co_STANDS : PySem.W.nsIn K mainGlobals "STANDS" = some (some u_STANDS))
    (cr_STANDS : RelV (Cst.v (.int 60)) u_STANDS)
    {u_MOST : Value}
    (co_MOST : PySem.W.nsIn K mainGlobals "MOST" = some (some u_MOST))
    (cr_MOST : RelV (Cst.v (.int 999999)) u_MOST)
    {u_SIGNS : Value}
    (co_SIGNS : PySem.W.nsIn K mainGlobals "SIGNS" = some (some u_SIGNS))
    (cr_SIGNS : RelV (Cst.v (.str "abcdefghijklmnopqrstuvwxyz")) u_SIGNS)
    {f_law : Addr}
    {od_law an_law : Option Addr}
    {sl_law : Array (Option Value)}
    {oc_law kV_law dc_law pm_law cd_law ct_law : Value}
    (a_law : PySem.W.nsIn K mainGlobals "law" = some (some (.ref f_law)))
    (l_law : K.lookup f_law = some ⟨oc_law, od_law, .func (PySem.W.fnOf "law" "law" (defArgs s_law) (defBody s_law) (defScope s_law) .none kV_law dc_law pm_law an_law cd_law ct_law), sl_law⟩)
    (c_law : PySem.W.codeIn K cd_law "law" = true)
    (k_law : PySem.W.keepIn K (.ref f_law) = true)
    {f_l_deal : Addr}
    {od_l_deal an_l_deal : Option Addr}
    {sl_l_deal : Array (Option Value)}
    {oc_l_deal kV_l_deal dc_l_deal pm_l_deal cd_l_deal ct_l_deal : Value}
    (a_l_deal : PySem.W.nsIn K mainGlobals "_law_deal" = some (some (.ref f_l_deal)))
    (l_l_deal : K.lookup f_l_deal = some ⟨oc_l_deal, od_l_deal, .func (PySem.W.fnOf "_law_deal" "_law_deal" (defArgs s_l_deal) (defBody s_l_deal) (defScope s_l_deal) .none kV_l_deal dc_l_deal pm_l_deal an_l_deal cd_l_deal ct_l_deal), sl_l_deal⟩)
    (c_l_deal : PySem.W.codeIn K cd_l_deal "_law_deal" = true)
    (k_l_deal : PySem.W.keepIn K (.ref f_l_deal) = true)
    {f_l_any_device : Addr}
    {od_l_any_device an_l_any_device : Option Addr}
    {sl_l_any_device : Array (Option Value)}
    {oc_l_any_device kV_l_any_device dc_l_any_device pm_l_any_device cd_l_any_device ct_l_any_device : Value}
    (a_l_any_device : PySem.W.nsIn K mainGlobals "_law_any_device" = some (some (.ref f_l_any_device)))
    (l_l_any_device : K.lookup f_l_any_device = some ⟨oc_l_any_device, od_l_any_device, .func (PySem.W.fnOf "_law_any_device" "_law_any_device" (defArgs s_l_any_device) (defBody s_l_any_device) (defScope s_l_any_device) .none kV_l_any_device dc_l_any_device pm_l_any_device an_l_any_device cd_l_any_device ct_l_any_device), sl_l_any_device⟩)
    (c_l_any_device : PySem.W.codeIn K cd_l_any_device "_law_any_device" = true)
    (k_l_any_device : PySem.W.keepIn K (.ref f_l_any_device) = true)
    {f_l_made : Addr}
    {od_l_made an_l_made : Option Addr}
    {sl_l_made : Array (Option Value)}
    {oc_l_made kV_l_made dc_l_made pm_l_made cd_l_made ct_l_made : Value}
    (a_l_made : PySem.W.nsIn K mainGlobals "_law_made" = some (some (.ref f_l_made)))
    (l_l_made : K.lookup f_l_made = some ⟨oc_l_made, od_l_made, .func (PySem.W.fnOf "_law_made" "_law_made" (defArgs s_l_made) (defBody s_l_made) (defScope s_l_made) .none kV_l_made dc_l_made pm_l_made an_l_made cd_l_made ct_l_made), sl_l_made⟩)
    (c_l_made : PySem.W.codeIn K cd_l_made "_law_made" = true)
    (k_l_made : PySem.W.keepIn K (.ref f_l_made) = true)
    {f_l_again : Addr}
    {od_l_again an_l_again : Option Addr}
    {sl_l_again : Array (Option Value)}
    {oc_l_again kV_l_again dc_l_again pm_l_again cd_l_again ct_l_again : Value}
    (a_l_again : PySem.W.nsIn K mainGlobals "_law_again" = some (some (.ref f_l_again)))
    (l_l_again : K.lookup f_l_again = some ⟨oc_l_again, od_l_again, .func (PySem.W.fnOf "_law_again" "_law_again" (defArgs s_l_again) (defBody s_l_again) (defScope s_l_again) .none kV_l_again dc_l_again pm_l_again an_l_again cd_l_again ct_l_again), sl_l_again⟩)
    (c_l_again : PySem.W.codeIn K cd_l_again "_law_again" = true)
    (k_l_again : PySem.W.keepIn K (.ref f_l_again) = true)
    {f_coming_again : Addr}
    {od_coming_again an_coming_again : Option Addr}
    {sl_coming_again : Array (Option Value)}
    {oc_coming_again kV_coming_again dc_coming_again pm_coming_again cd_coming_again ct_coming_again : Value}
    (a_coming_again : PySem.W.nsIn K mainGlobals "coming_again" = some (some (.ref f_coming_again)))
    (l_coming_again : K.lookup f_coming_again = some ⟨oc_coming_again, od_coming_again, .func (PySem.W.fnOf "coming_again" "coming_again" (defArgs s_coming_again) (defBody s_coming_again) (defScope s_coming_again) .none kV_coming_again dc_coming_again pm_coming_again an_coming_again cd_coming_again ct_coming_again), sl_coming_again⟩)
    (c_coming_again : PySem.W.codeIn K cd_coming_again "coming_again" = true)
    (k_coming_again : PySem.W.keepIn K (.ref f_coming_again) = true)
    {f_l_like : Addr}
    {od_l_like an_l_like : Option Addr}
    {sl_l_like : Array (Option Value)}
    {oc_l_like kV_l_like dc_l_like pm_l_like cd_l_like ct_l_like : Value}
    (a_l_like : PySem.W.nsIn K mainGlobals "_law_like" = some (some (.ref f_l_like)))
    (l_l_like : K.lookup f_l_like = some ⟨oc_l_like, od_l_like, .func (PySem.W.fnOf "_law_like" "_law_like" (defArgs s_l_like) (defBody s_l_like) (defScope s_l_like) .none kV_l_like dc_l_like pm_l_like an_l_like cd_l_like ct_l_like), sl_l_like⟩)
    (c_l_like : PySem.W.codeIn K cd_l_like "_law_like" = true)
    (k_l_like : PySem.W.keepIn K (.ref f_l_like) = true)
    {f_l_names : Addr}
    {od_l_names an_l_names : Option Addr}
    {sl_l_names : Array (Option Value)}
    {oc_l_names kV_l_names dc_l_names pm_l_names cd_l_names ct_l_names : Value}
    (a_l_names : PySem.W.nsIn K mainGlobals "_law_names" = some (some (.ref f_l_names)))
    (l_l_names : K.lookup f_l_names = some ⟨oc_l_names, od_l_names, .func (PySem.W.fnOf "_law_names" "_law_names" (defArgs s_l_names) (defBody s_l_names) (defScope s_l_names) .none kV_l_names dc_l_names pm_l_names an_l_names cd_l_names ct_l_names), sl_l_names⟩)
    (c_l_names : PySem.W.codeIn K cd_l_names "_law_names" = true)
    (k_l_names : PySem.W.keepIn K (.ref f_l_names) = true)
    {f_l_of : Addr}
    {od_l_of an_l_of : Option Addr}
    {sl_l_of : Array (Option Value)}
    {oc_l_of kV_l_of dc_l_of pm_l_of cd_l_of ct_l_of : Value}
    (a_l_of : PySem.W.nsIn K mainGlobals "_law_of" = some (some (.ref f_l_of)))
    (l_l_of : K.lookup f_l_of = some ⟨oc_l_of, od_l_of, .func (PySem.W.fnOf "_law_of" "_law_of" (defArgs s_l_of) (defBody s_l_of) (defScope s_l_of) .none kV_l_of dc_l_of pm_l_of an_l_of cd_l_of ct_l_of), sl_l_of⟩)
    (c_l_of : PySem.W.codeIn K cd_l_of "_law_of" = true)
    (k_l_of : PySem.W.keepIn K (.ref f_l_of) = true)
    {f_l_shuffled : Addr}
    {od_l_shuffled an_l_shuffled : Option Addr}
    {sl_l_shuffled : Array (Option Value)}
    {oc_l_shuffled kV_l_shuffled dc_l_shuffled pm_l_shuffled cd_l_shuffled ct_l_shuffled : Value}
    (a_l_shuffled : PySem.W.nsIn K mainGlobals "_law_shuffled" = some (some (.ref f_l_shuffled)))
    (l_l_shuffled : K.lookup f_l_shuffled = some ⟨oc_l_shuffled, od_l_shuffled, .func (PySem.W.fnOf "_law_shuffled" "_law_shuffled" (defArgs s_l_shuffled) (defBody s_l_shuffled) (defScope s_l_shuffled) .none kV_l_shuffled dc_l_shuffled pm_l_shuffled an_l_shuffled cd_l_shuffled ct_l_shuffled), sl_l_shuffled⟩)
    (c_l_shuffled : PySem.W.codeIn K cd_l_shuffled "_law_shuffled" = true)
    (k_l_shuffled : PySem.W.keepIn K (.ref f_l_shuffled) = true)
    {f_l_pick : Addr}
    {od_l_pick an_l_pick : Option Addr}
    {sl_l_pick : Array (Option Value)}
    {oc_l_pick kV_l_pick dc_l_pick pm_l_pick cd_l_pick ct_l_pick : Value}
    (a_l_pick : PySem.W.nsIn K mainGlobals "_law_pick" = some (some (.ref f_l_pick)))
    (l_l_pick : K.lookup f_l_pick = some ⟨oc_l_pick, od_l_pick, .func (PySem.W.fnOf "_law_pick" "_law_pick" (defArgs s_l_pick) (defBody s_l_pick) (defScope s_l_pick) .none kV_l_pick dc_l_pick pm_l_pick an_l_pick cd_l_pick ct_l_pick), sl_l_pick⟩)
    (c_l_pick : PySem.W.codeIn K cd_l_pick "_law_pick" = true)
    (k_l_pick : PySem.W.keepIn K (.ref f_l_pick) = true)
    {f_l_device : Addr}
    {od_l_device an_l_device : Option Addr}
    {sl_l_device : Array (Option Value)}
    {oc_l_device kV_l_device dc_l_device pm_l_device cd_l_device ct_l_device : Value}
    (a_l_device : PySem.W.nsIn K mainGlobals "_law_device" = some (some (.ref f_l_device)))
    (l_l_device : K.lookup f_l_device = some ⟨oc_l_device, od_l_device, .func (PySem.W.fnOf "_law_device" "_law_device" (defArgs s_l_device) (defBody s_l_device) (defScope s_l_device) .none kV_l_device dc_l_device pm_l_device an_l_device cd_l_device ct_l_device), sl_l_device⟩)
    (c_l_device : PySem.W.codeIn K cd_l_device "_law_device" = true)
    (k_l_device : PySem.W.keepIn K (.ref f_l_device) = true)
    {f_Machine_init : Addr}
    {od_Machine_init an_Machine_init : Option Addr}
    {sl_Machine_init : Array (Option Value)}
    {oc_Machine_init kV_Machine_init dc_Machine_init pm_Machine_init cd_Machine_init ct_Machine_init : Value}
    (m_Machine_init : PySem.W.findIn K (.ref C_Machine) "__init__" = some (some (.ref f_Machine_init)))
    (n_Machine_init : PySem.W.isFn K (.ref f_Machine_init) = true)
    (l_Machine_init : K.lookup f_Machine_init = some ⟨oc_Machine_init, od_Machine_init, .func (PySem.W.fnOf "__init__" "Machine.__init__" (defArgs s_Machine_init) (defBody s_Machine_init) (defScope s_Machine_init) .none kV_Machine_init dc_Machine_init pm_Machine_init an_Machine_init cd_Machine_init ct_Machine_init), sl_Machine_init⟩)
    (c_Machine_init : PySem.W.codeIn K cd_Machine_init "Machine.__init__" = true)
    (k_Machine_init : PySem.W.keepIn K (.ref f_Machine_init) = true)
    {f_l_reached : Addr}
    {od_l_reached an_l_reached : Option Addr}
    {sl_l_reached : Array (Option Value)}
    {oc_l_reached kV_l_reached dc_l_reached pm_l_reached cd_l_reached ct_l_reached : Value}
    (a_l_reached : PySem.W.nsIn K mainGlobals "_law_reached" = some (some (.ref f_l_reached)))
    (l_l_reached : K.lookup f_l_reached = some ⟨oc_l_reached, od_l_reached, .func (PySem.W.fnOf "_law_reached" "_law_reached" (defArgs s_l_reached) (defBody s_l_reached) (defScope s_l_reached) .none kV_l_reached dc_l_reached pm_l_reached an_l_reached cd_l_reached ct_l_reached), sl_l_reached⟩)
    (c_l_reached : PySem.W.codeIn K cd_l_reached "_law_reached" = true)
    (k_l_reached : PySem.W.keepIn K (.ref f_l_reached) = true)
    {f_come_to : Addr}
    {od_come_to an_come_to : Option Addr}
    {sl_come_to : Array (Option Value)}
    {oc_come_to kV_come_to dc_come_to pm_come_to cd_come_to ct_come_to : Value}
    (a_come_to : PySem.W.nsIn K mainGlobals "come_to" = some (some (.ref f_come_to)))
    (l_come_to : K.lookup f_come_to = some ⟨oc_come_to, od_come_to, .func (PySem.W.fnOf "come_to" "come_to" (defArgs s_come_to) (defBody s_come_to) (defScope s_come_to) .none kV_come_to dc_come_to pm_come_to an_come_to cd_come_to ct_come_to), sl_come_to⟩)
    (c_come_to : PySem.W.codeIn K cd_come_to "come_to" = true)
    (k_come_to : PySem.W.keepIn K (.ref f_come_to) = true)
    {f_Machine_rows : Addr}
    {od_Machine_rows an_Machine_rows : Option Addr}
    {sl_Machine_rows : Array (Option Value)}
    {oc_Machine_rows kV_Machine_rows dc_Machine_rows pm_Machine_rows cd_Machine_rows ct_Machine_rows : Value}
    (m_Machine_rows : PySem.W.findIn K (.ref C_Machine) "rows" = some (some (.ref f_Machine_rows)))
    (n_Machine_rows : PySem.W.isFn K (.ref f_Machine_rows) = true)
    (l_Machine_rows : K.lookup f_Machine_rows = some ⟨oc_Machine_rows, od_Machine_rows, .func (PySem.W.fnOf "rows" "Machine.rows" (defArgs s_Machine_rows) (defBody s_Machine_rows) (defScope s_Machine_rows) .none kV_Machine_rows dc_Machine_rows pm_Machine_rows an_Machine_rows cd_Machine_rows ct_Machine_rows), sl_Machine_rows⟩)
    (c_Machine_rows : PySem.W.codeIn K cd_Machine_rows "Machine.rows" = true)
    (k_Machine_rows : PySem.W.keepIn K (.ref f_Machine_rows) = true)
    {f_some_again : Addr}
    {od_some_again an_some_again : Option Addr}
    {sl_some_again : Array (Option Value)}
    {oc_some_again kV_some_again dc_some_again pm_some_again cd_some_again ct_some_again : Value}
    (a_some_again : PySem.W.nsIn K mainGlobals "some_again" = some (some (.ref f_some_again)))
    (l_some_again : K.lookup f_some_again = some ⟨oc_some_again, od_some_again, .func (PySem.W.fnOf "some_again" "some_again" (defArgs s_some_again) (defBody s_some_again) (defScope s_some_again) .none kV_some_again dc_some_again pm_some_again an_some_again cd_some_again ct_some_again), sl_some_again⟩)
    (c_some_again : PySem.W.codeIn K cd_some_again "some_again" = true)
    (k_some_again : PySem.W.keepIn K (.ref f_some_again) = true)
    {f_l_rule : Addr}
    {od_l_rule an_l_rule : Option Addr}
    {sl_l_rule : Array (Option Value)}
    {oc_l_rule kV_l_rule dc_l_rule pm_l_rule cd_l_rule ct_l_rule : Value}
    (a_l_rule : PySem.W.nsIn K mainGlobals "_law_rule" = some (some (.ref f_l_rule)))
    (l_l_rule : K.lookup f_l_rule = some ⟨oc_l_rule, od_l_rule, .func (PySem.W.fnOf "_law_rule" "_law_rule" (defArgs s_l_rule) (defBody s_l_rule) (defScope s_l_rule) .none kV_l_rule dc_l_rule pm_l_rule an_l_rule cd_l_rule ct_l_rule), sl_l_rule⟩)
    (c_l_rule : PySem.W.codeIn K cd_l_rule "_law_rule" = true)
    (k_l_rule : PySem.W.keepIn K (.ref f_l_rule) = true)
    {f_l_raw : Addr}
    {od_l_raw an_l_raw : Option Addr}
    {sl_l_raw : Array (Option Value)}
    {oc_l_raw kV_l_raw dc_l_raw pm_l_raw cd_l_raw ct_l_raw : Value}
    (a_l_raw : PySem.W.nsIn K mainGlobals "_law_raw" = some (some (.ref f_l_raw)))
    (l_l_raw : K.lookup f_l_raw = some ⟨oc_l_raw, od_l_raw, .func (PySem.W.fnOf "_law_raw" "_law_raw" (defArgs s_l_raw) (defBody s_l_raw) (defScope s_l_raw) .none kV_l_raw dc_l_raw pm_l_raw an_l_raw cd_l_raw ct_l_raw), sl_l_raw⟩)
    (c_l_raw : PySem.W.codeIn K cd_l_raw "_law_raw" = true)
    (k_l_raw : PySem.W.keepIn K (.ref f_l_raw) = true)
    {f_l_renumbered : Addr}
    {od_l_renumbered an_l_renumbered : Option Addr}
    {sl_l_renumbered : Array (Option Value)}
    {oc_l_renumbered kV_l_renumbered dc_l_renumbered pm_l_renumbered cd_l_renumbered ct_l_renumbered : Value}
    (a_l_renumbered : PySem.W.nsIn K mainGlobals "_law_renumbered" = some (some (.ref f_l_renumbered)))
    (l_l_renumbered : K.lookup f_l_renumbered = some ⟨oc_l_renumbered, od_l_renumbered, .func (PySem.W.fnOf "_law_renumbered" "_law_renumbered" (defArgs s_l_renumbered) (defBody s_l_renumbered) (defScope s_l_renumbered) .none kV_l_renumbered dc_l_renumbered pm_l_renumbered an_l_renumbered cd_l_renumbered ct_l_renumbered), sl_l_renumbered⟩)
    (c_l_renumbered : PySem.W.codeIn K cd_l_renumbered "_law_renumbered" = true)
    (k_l_renumbered : PySem.W.keepIn K (.ref f_l_renumbered) = true)
    {f_need_names : Addr}
    {od_need_names an_need_names : Option Addr}
    {sl_need_names : Array (Option Value)}
    {oc_need_names kV_need_names dc_need_names pm_need_names cd_need_names ct_need_names : Value}
    (a_need_names : PySem.W.nsIn K mainGlobals "need_names" = some (some (.ref f_need_names)))
    (l_need_names : K.lookup f_need_names = some ⟨oc_need_names, od_need_names, .func (PySem.W.fnOf "need_names" "need_names" (defArgs s_need_names) (defBody s_need_names) (defScope s_need_names) .none kV_need_names dc_need_names pm_need_names an_need_names cd_need_names ct_need_names), sl_need_names⟩)
    (c_need_names : PySem.W.codeIn K cd_need_names "need_names" = true)
    (k_need_names : PySem.W.keepIn K (.ref f_need_names) = true)
    {f_good_row : Addr}
    {od_good_row an_good_row : Option Addr}
    {sl_good_row : Array (Option Value)}
    {oc_good_row kV_good_row dc_good_row pm_good_row cd_good_row ct_good_row : Value}
    (a_good_row : PySem.W.nsIn K mainGlobals "good_row" = some (some (.ref f_good_row)))
    (l_good_row : K.lookup f_good_row = some ⟨oc_good_row, od_good_row, .func (PySem.W.fnOf "good_row" "good_row" (defArgs s_good_row) (defBody s_good_row) (defScope s_good_row) .none kV_good_row dc_good_row pm_good_row an_good_row cd_good_row ct_good_row), sl_good_row⟩)
    (c_good_row : PySem.W.codeIn K cd_good_row "good_row" = true)
    (k_good_row : PySem.W.keepIn K (.ref f_good_row) = true)
    {f_heeded : Addr}
    {od_heeded an_heeded : Option Addr}
    {sl_heeded : Array (Option Value)}
    {oc_heeded kV_heeded dc_heeded pm_heeded cd_heeded ct_heeded : Value}
    (a_heeded : PySem.W.nsIn K mainGlobals "heeded" = some (some (.ref f_heeded)))
    (l_heeded : K.lookup f_heeded = some ⟨oc_heeded, od_heeded, .func (PySem.W.fnOf "heeded" "heeded" (defArgs s_heeded) (defBody s_heeded) (defScope s_heeded) .none kV_heeded dc_heeded pm_heeded an_heeded cd_heeded ct_heeded), sl_heeded⟩)
    (c_heeded : PySem.W.codeIn K cd_heeded "heeded" = true)
    (k_heeded : PySem.W.keepIn K (.ref f_heeded) = true)
    {f_fresh_ones : Addr}
    {od_fresh_ones an_fresh_ones : Option Addr}
    {sl_fresh_ones : Array (Option Value)}
    {oc_fresh_ones kV_fresh_ones dc_fresh_ones pm_fresh_ones cd_fresh_ones ct_fresh_ones : Value}
    (a_fresh_ones : PySem.W.nsIn K mainGlobals "fresh_ones" = some (some (.ref f_fresh_ones)))
    (l_fresh_ones : K.lookup f_fresh_ones = some ⟨oc_fresh_ones, od_fresh_ones, .func (PySem.W.fnOf "fresh_ones" "fresh_ones" (defArgs s_fresh_ones) (defBody s_fresh_ones) (defScope s_fresh_ones) .none kV_fresh_ones dc_fresh_ones pm_fresh_ones an_fresh_ones cd_fresh_ones ct_fresh_ones), sl_fresh_ones⟩)
    (c_fresh_ones : PySem.W.codeIn K cd_fresh_ones "fresh_ones" = true)
    (k_fresh_ones : PySem.W.keepIn K (.ref f_fresh_ones) = true)
    {f_Machine_moved : Addr}
    {od_Machine_moved an_Machine_moved : Option Addr}
    {sl_Machine_moved : Array (Option Value)}
    {oc_Machine_moved dc_Machine_moved pm_Machine_moved cd_Machine_moved ct_Machine_moved : Value}
    (m_Machine_moved : PySem.W.findIn K (.ref C_Machine) "moved" = some (some (.ref f_Machine_moved)))
    (n_Machine_moved : PySem.W.isFn K (.ref f_Machine_moved) = true)
    {kD_Machine_moved : Addr}
    (l_Machine_moved : K.lookup f_Machine_moved = some ⟨oc_Machine_moved, od_Machine_moved, .func (PySem.W.fnOf "moved" "Machine.moved" (defArgs s_Machine_moved) (defBody s_Machine_moved) (defScope s_Machine_moved) .none (.ref kD_Machine_moved) dc_Machine_moved pm_Machine_moved an_Machine_moved cd_Machine_moved ct_Machine_moved), sl_Machine_moved⟩)
    (c_Machine_moved : PySem.W.codeIn K cd_Machine_moved "Machine.moved" = true)
    (k_Machine_moved : PySem.W.keepIn K (.ref f_Machine_moved) = true)
    {ku_Machine_moved_stand : Value}
    (kn_Machine_moved_stand : PySem.W.nsIn K kD_Machine_moved "stand" = some (some ku_Machine_moved_stand))
    (kr_Machine_moved_stand : RelV (Cst.v (.int 0)) ku_Machine_moved_stand)
    {f_Machine_letters : Addr}
    {od_Machine_letters an_Machine_letters : Option Addr}
    {sl_Machine_letters : Array (Option Value)}
    {oc_Machine_letters kV_Machine_letters dc_Machine_letters pm_Machine_letters cd_Machine_letters ct_Machine_letters : Value}
    (m_Machine_letters : PySem.W.findIn K (.ref C_Machine) "letters" = some (some (.ref f_Machine_letters)))
    (n_Machine_letters : PySem.W.isFn K (.ref f_Machine_letters) = true)
    (l_Machine_letters : K.lookup f_Machine_letters = some ⟨oc_Machine_letters, od_Machine_letters, .func (PySem.W.fnOf "letters" "Machine.letters" (defArgs s_Machine_letters) (defBody s_Machine_letters) (defScope s_Machine_letters) .none kV_Machine_letters dc_Machine_letters pm_Machine_letters an_Machine_letters cd_Machine_letters ct_Machine_letters), sl_Machine_letters⟩)
    (c_Machine_letters : PySem.W.codeIn K cd_Machine_letters "Machine.letters" = true)
    (k_Machine_letters : PySem.W.keepIn K (.ref f_Machine_letters) = true)
    {f_Machine_len : Addr}
    {od_Machine_len an_Machine_len : Option Addr}
    {sl_Machine_len : Array (Option Value)}
    {oc_Machine_len kV_Machine_len dc_Machine_len pm_Machine_len cd_Machine_len ct_Machine_len : Value}
    (m_Machine_len : PySem.W.findIn K (.ref C_Machine) "__len__" = some (some (.ref f_Machine_len)))
    (n_Machine_len : PySem.W.isFn K (.ref f_Machine_len) = true)
    (l_Machine_len : K.lookup f_Machine_len = some ⟨oc_Machine_len, od_Machine_len, .func (PySem.W.fnOf "__len__" "Machine.__len__" (defArgs s_Machine_len) (defBody s_Machine_len) (defScope s_Machine_len) .none kV_Machine_len dc_Machine_len pm_Machine_len an_Machine_len cd_Machine_len ct_Machine_len), sl_Machine_len⟩)
    (c_Machine_len : PySem.W.codeIn K cd_Machine_len "Machine.__len__" = true)
    (k_Machine_len : PySem.W.keepIn K (.ref f_Machine_len) = true)
    {f_l_weight : Addr}
    {od_l_weight an_l_weight : Option Addr}
    {sl_l_weight : Array (Option Value)}
    {oc_l_weight kV_l_weight dc_l_weight pm_l_weight cd_l_weight ct_l_weight : Value}
    (a_l_weight : PySem.W.nsIn K mainGlobals "_law_weight" = some (some (.ref f_l_weight)))
    (l_l_weight : K.lookup f_l_weight = some ⟨oc_l_weight, od_l_weight, .func (PySem.W.fnOf "_law_weight" "_law_weight" (defArgs s_l_weight) (defBody s_l_weight) (defScope s_l_weight) .none kV_l_weight dc_l_weight pm_l_weight an_l_weight cd_l_weight ct_l_weight), sl_l_weight⟩)
    (c_l_weight : PySem.W.codeIn K cd_l_weight "_law_weight" = true)
    (k_l_weight : PySem.W.keepIn K (.ref f_l_weight) = true)
    {f_l_down : Addr}
    {od_l_down an_l_down : Option Addr}
    {sl_l_down : Array (Option Value)}
    {oc_l_down kV_l_down dc_l_down pm_l_down cd_l_down ct_l_down : Value}
    (a_l_down : PySem.W.nsIn K mainGlobals "_law_down" = some (some (.ref f_l_down)))
    (l_l_down : K.lookup f_l_down = some ⟨oc_l_down, od_l_down, .func (PySem.W.fnOf "_law_down" "_law_down" (defArgs s_l_down) (defBody s_l_down) (defScope s_l_down) .none kV_l_down dc_l_down pm_l_down an_l_down cd_l_down ct_l_down), sl_l_down⟩)
    (c_l_down : PySem.W.codeIn K cd_l_down "_law_down" = true)
    (k_l_down : PySem.W.keepIn K (.ref f_l_down) = true)
    {f_l_gain : Addr}
    {od_l_gain an_l_gain : Option Addr}
    {sl_l_gain : Array (Option Value)}
    {oc_l_gain kV_l_gain dc_l_gain pm_l_gain cd_l_gain ct_l_gain : Value}
    (a_l_gain : PySem.W.nsIn K mainGlobals "_law_gain" = some (some (.ref f_l_gain)))
    (l_l_gain : K.lookup f_l_gain = some ⟨oc_l_gain, od_l_gain, .func (PySem.W.fnOf "_law_gain" "_law_gain" (defArgs s_l_gain) (defBody s_l_gain) (defScope s_l_gain) .none kV_l_gain dc_l_gain pm_l_gain an_l_gain cd_l_gain ct_l_gain), sl_l_gain⟩)
    (c_l_gain : PySem.W.codeIn K cd_l_gain "_law_gain" = true)
    (k_l_gain : PySem.W.keepIn K (.ref f_l_gain) = true)
    {f_is_name : Addr}
    {od_is_name an_is_name : Option Addr}
    {sl_is_name : Array (Option Value)}
    {oc_is_name kV_is_name dc_is_name pm_is_name cd_is_name ct_is_name : Value}
    (a_is_name : PySem.W.nsIn K mainGlobals "is_name" = some (some (.ref f_is_name)))
    (l_is_name : K.lookup f_is_name = some ⟨oc_is_name, od_is_name, .func (PySem.W.fnOf "is_name" "is_name" (defArgs s_is_name) (defBody s_is_name) (defScope s_is_name) .none kV_is_name dc_is_name pm_is_name an_is_name cd_is_name ct_is_name), sl_is_name⟩)
    (c_is_name : PySem.W.codeIn K cd_is_name "is_name" = true)
    (k_is_name : PySem.W.keepIn K (.ref f_is_name) = true)
    {f_both_ways : Addr}
    {od_both_ways an_both_ways : Option Addr}
    {sl_both_ways : Array (Option Value)}
    {oc_both_ways kV_both_ways dc_both_ways pm_both_ways cd_both_ways ct_both_ways : Value}
    (a_both_ways : PySem.W.nsIn K mainGlobals "both_ways" = some (some (.ref f_both_ways)))
    (l_both_ways : K.lookup f_both_ways = some ⟨oc_both_ways, od_both_ways, .func (PySem.W.fnOf "both_ways" "both_ways" (defArgs s_both_ways) (defBody s_both_ways) (defScope s_both_ways) .none kV_both_ways dc_both_ways pm_both_ways an_both_ways cd_both_ways ct_both_ways), sl_both_ways⟩)
    (c_both_ways : PySem.W.codeIn K cd_both_ways "both_ways" = true)
    (k_both_ways : PySem.W.keepIn K (.ref f_both_ways) = true)
    {f_Machine_need_stand : Addr}
    {od_Machine_need_stand an_Machine_need_stand : Option Addr}
    {sl_Machine_need_stand : Array (Option Value)}
    {oc_Machine_need_stand kV_Machine_need_stand dc_Machine_need_stand pm_Machine_need_stand cd_Machine_need_stand ct_Machine_need_stand : Value}
    (m_Machine_need_stand : PySem.W.findIn K (.ref C_Machine) "need_stand" = some (some (.ref f_Machine_need_stand)))
    (n_Machine_need_stand : PySem.W.isFn K (.ref f_Machine_need_stand) = true)
    (l_Machine_need_stand : K.lookup f_Machine_need_stand = some ⟨oc_Machine_need_stand, od_Machine_need_stand, .func (PySem.W.fnOf "need_stand" "Machine.need_stand" (defArgs s_Machine_need_stand) (defBody s_Machine_need_stand) (defScope s_Machine_need_stand) .none kV_Machine_need_stand dc_Machine_need_stand pm_Machine_need_stand an_Machine_need_stand cd_Machine_need_stand ct_Machine_need_stand), sl_Machine_need_stand⟩)
    (c_Machine_need_stand : PySem.W.codeIn K cd_Machine_need_stand "Machine.need_stand" = true)
    (k_Machine_need_stand : PySem.W.keepIn K (.ref f_Machine_need_stand) = true)
    {f_far_moved : Addr}
    {od_far_moved an_far_moved : Option Addr}
    {sl_far_moved : Array (Option Value)}
    {oc_far_moved kV_far_moved dc_far_moved pm_far_moved cd_far_moved ct_far_moved : Value}
    (a_far_moved : PySem.W.nsIn K mainGlobals "far_moved" = some (some (.ref f_far_moved)))
    (l_far_moved : K.lookup f_far_moved = some ⟨oc_far_moved, od_far_moved, .func (PySem.W.fnOf "far_moved" "far_moved" (defArgs s_far_moved) (defBody s_far_moved) (defScope s_far_moved) .none kV_far_moved dc_far_moved pm_far_moved an_far_moved cd_far_moved ct_far_moved), sl_far_moved⟩)
    (c_far_moved : PySem.W.codeIn K cd_far_moved "far_moved" = true)
    (k_far_moved : PySem.W.keepIn K (.ref f_far_moved) = true)
    {f_added : Addr}
    {od_added an_added : Option Addr}
    {sl_added : Array (Option Value)}
    {oc_added kV_added dc_added pm_added cd_added ct_added : Value}
    (a_added : PySem.W.nsIn K mainGlobals "added" = some (some (.ref f_added)))
    (l_added : K.lookup f_added = some ⟨oc_added, od_added, .func (PySem.W.fnOf "added" "added" (defArgs s_added) (defBody s_added) (defScope s_added) .none kV_added dc_added pm_added an_added cd_added ct_added), sl_added⟩)
    (c_added : PySem.W.codeIn K cd_added "added" = true)
    (k_added : PySem.W.keepIn K (.ref f_added) = true)
    {f_l_times_of : Addr}
    {od_l_times_of an_l_times_of : Option Addr}
    {sl_l_times_of : Array (Option Value)}
    {oc_l_times_of kV_l_times_of dc_l_times_of pm_l_times_of cd_l_times_of ct_l_times_of : Value}
    (a_l_times_of : PySem.W.nsIn K mainGlobals "_law_times_of" = some (some (.ref f_l_times_of)))
    (l_l_times_of : K.lookup f_l_times_of = some ⟨oc_l_times_of, od_l_times_of, .func (PySem.W.fnOf "_law_times_of" "_law_times_of" (defArgs s_l_times_of) (defBody s_l_times_of) (defScope s_l_times_of) .none kV_l_times_of dc_l_times_of pm_l_times_of an_l_times_of cd_l_times_of ct_l_times_of), sl_l_times_of⟩)
    (c_l_times_of : PySem.W.codeIn K cd_l_times_of "_law_times_of" = true)
    (k_l_times_of : PySem.W.keepIn K (.ref f_l_times_of) = true)
    (z_len : PySem.W.nsIn K mainGlobals "len" = some none)
    (z_list : PySem.W.nsIn K mainGlobals "list" = some none)
    (z_tuple : PySem.W.nsIn K mainGlobals "tuple" = some none)
    (z_abs : PySem.W.nsIn K mainGlobals "abs" = some none)
    (z_all : PySem.W.nsIn K mainGlobals "all" = some none)
    (z_any : PySem.W.nsIn K mainGlobals "any" = some none)
    (z_sum : PySem.W.nsIn K mainGlobals "sum" = some none)
    (z_isinstance : PySem.W.nsIn K mainGlobals "isinstance" = some none)
    (z_int : PySem.W.nsIn K mainGlobals "int" = some none)
    (z_max : PySem.W.nsIn K mainGlobals "max" = some none)
    (z_min : PySem.W.nsIn K mainGlobals "min" = some none)
    (z_sorted : PySem.W.nsIn K mainGlobals "sorted" = some none)
    (z_str : PySem.W.nsIn K mainGlobals "str" = some none)
    (z_range : PySem.W.nsIn K mainGlobals "range" = some none)
    (z_enumerate : PySem.W.nsIn K mainGlobals "enumerate" = some none)
    (z_zip : PySem.W.nsIn K mainGlobals "zip" = some none)
    (z_bool : PySem.W.nsIn K mainGlobals "bool" = some none)
    (z_dict : PySem.W.nsIn K mainGlobals "dict" = some none)
    : AllOk K mg G T ∧ ∃ fa fd, mg "law" = some (.ref fa) ∧ DefB K G (P.fd_law_k08) fa fd ["_law_script"] ∧ ∀ s v, BindsTo s fd ⟨[v], []⟩ [("_law_script", v)] := by
  have D_law : DefB K G (P.fd_law_k08) f_law (PySem.W.fnOf "law" "law" (defArgs s_law) (defBody s_law) (defScope s_law) .none kV_law dc_law pm_law an_law cd_law ct_law) ["_law_script"] := ⟨_, _, _, _, _, _, _, _, _, _, _, _, _, _, _, N_law, rfl, l_law, c_law, sc_law, rfl, rfl, ck_law⟩
  have D_l_deal : DefB K G (P.fd_l_deal) f_l_deal (PySem.W.fnOf "_law_deal" "_law_deal" (defArgs s_l_deal) (defBody s_l_deal) (defScope s_l_deal) .none kV_l_deal dc_l_deal pm_l_deal an_l_deal cd_l_deal ct_l_deal) ["_law_script"] := ⟨_, _, _, _, _, _, _, _, _, _, _, _, _, _, _, N_l_deal, rfl, l_l_deal, c_l_deal, sc_l_deal, rfl, rfl, ck_l_deal⟩
  have D_l_any_device : DefB K G (P.fd_l_any_device) f_l_any_device (PySem.W.fnOf "_law_any_device" "_law_any_device" (defArgs s_l_any_device) (defBody s_l_any_device) (defScope s_l_any_device) .none kV_l_any_device dc_l_any_device pm_l_any_device an_l_any_device cd_l_any_device ct_l_any_device) ["_law_deal_here", "_law_most"] := ⟨_, _, _, _, _, _, _, _, _, _, _, _, _, _, _, N_l_any_device, rfl, l_l_any_device, c_l_any_device, sc_l_any_device, rfl, rfl, ck_l_any_device⟩
  have D_l_made : DefB K G (P.fd_l_made) f_l_made (PySem.W.fnOf "_law_made" "_law_made" (defArgs s_l_made) (defBody s_l_made) (defScope s_l_made) .none kV_l_made dc_l_made pm_l_made an_l_made cd_l_made ct_l_made) ["_law_m"] := ⟨_, _, _, _, _, _, _, _, _, _, _, _, _, _, _, N_l_made, rfl, l_l_made, c_l_made, sc_l_made, rfl, rfl, ck_l_made⟩
  have D_l_again : DefB K G (P.fd_l_again) f_l_again (PySem.W.fnOf "_law_again" "_law_again" (defArgs s_l_again) (defBody s_l_again) (defScope s_l_again) .none kV_l_again dc_l_again pm_l_again an_l_again cd_l_again ct_l_again) ["_law_m"] := ⟨_, _, _, _, _, _, _, _, _, _, _, _, _, _, _, N_l_again, rfl, l_l_again, c_l_again, sc_l_again, rfl, rfl, ck_l_again⟩
  have D_coming_again : DefB K G (P.fd_coming_again) f_coming_again (PySem.W.fnOf "coming_again" "coming_again" (defArgs s_coming_again) (defBody s_coming_again) (defScope s_coming_again) .none kV_coming_again dc_coming_again pm_coming_again an_coming_again cd_coming_again ct_coming_again) ["machine"] := ⟨_, _, _, _, _, _, _, _, _, _, _, _, _, _, _, N_coming_again, rfl, l_coming_again, c_coming_again, sc_coming_again, rfl, rfl, ck_coming_again⟩
  have D_l_like : DefB K G (P.fd_l_like) f_l_like (PySem.W.fnOf "_law_like" "_law_like" (defArgs s_l_like) (defBody s_l_like) (defScope s_l_like) .none kV_l_like dc_l_like pm_l_like an_l_like cd_l_like ct_l_like) ["_law_found", "_law_due"] := ⟨_, _, _, _, _, _, _, _, _, _, _, _, _, _, _, N_l_like, rfl, l_l_like, c_l_like, sc_l_like, rfl, rfl, ck_l_like⟩
  have D_l_names : DefB K G (P.fd_l_names) f_l_names (PySem.W.fnOf "_law_names" "_law_names" (defArgs s_l_names) (defBody s_l_names) (defScope s_l_names) .none kV_l_names dc_l_names pm_l_names an_l_names cd_l_names ct_l_names) ["_law_deal_here", "_law_many"] := ⟨_, _, _, _, _, _, _, _, _, _, _, _, _, _, _, N_l_names, rfl, l_l_names, c_l_names, sc_l_names, rfl, rfl, ck_l_names⟩
  have D_l_of : DefB K G (P.fd_l_of) f_l_of (PySem.W.fnOf "_law_of" "_law_of" (defArgs s_l_of) (defBody s_l_of) (defScope s_l_of) .none kV_l_of dc_l_of pm_l_of an_l_of cd_l_of ct_l_of) ["_law_deal_here", "_law_some"] := ⟨_, _, _, _, _, _, _, _, _, _, _, _, _, _, _, N_l_of, rfl, l_l_of, c_l_of, sc_l_of, rfl, rfl, ck_l_of⟩
  have D_l_shuffled : DefB K G (P.fd_l_shuffled) f_l_shuffled (PySem.W.fnOf "_law_shuffled" "_law_shuffled" (defArgs s_l_shuffled) (defBody s_l_shuffled) (defScope s_l_shuffled) .none kV_l_shuffled dc_l_shuffled pm_l_shuffled an_l_shuffled cd_l_shuffled ct_l_shuffled) ["_law_deal_here", "_law_some"] := ⟨_, _, _, _, _, _, _, _, _, _, _, _, _, _, _, N_l_shuffled, rfl, l_l_shuffled, c_l_shuffled, sc_l_shuffled, rfl, rfl, ck_l_shuffled⟩
  have D_l_pick : DefB K G (P.fd_l_pick) f_l_pick (PySem.W.fnOf "_law_pick" "_law_pick" (defArgs s_l_pick) (defBody s_l_pick) (defScope s_l_pick) .none kV_l_pick dc_l_pick pm_l_pick an_l_pick cd_l_pick ct_l_pick) ["_law_deal_here", "_law_many"] := ⟨_, _, _, _, _, _, _, _, _, _, _, _, _, _, _, N_l_pick, rfl, l_l_pick, c_l_pick, sc_l_pick, rfl, rfl, ck_l_pick⟩
  have D_l_device : DefB K G (P.fd_l_device) f_l_device (PySem.W.fnOf "_law_device" "_law_device" (defArgs s_l_device) (defBody s_l_device) (defScope s_l_device) .none kV_l_device dc_l_device pm_l_device an_l_device cd_l_device ct_l_device) ["_law_deal_here", "_law_ins", "_law_outs", "_law_most"] := ⟨_, _, _, _, _, _, _, _, _, _, _, _, _, _, _, N_l_device, rfl, l_l_device, c_l_device, sc_l_device, rfl, rfl, ck_l_device⟩
  have D_Machine_init : DefB K G (P.fd_Machine_init .nev .nev .nev .nev) f_Machine_init (PySem.W.fnOf "__init__" "Machine.__init__" (defArgs s_Machine_init) (defBody s_Machine_init) (defScope s_Machine_init) .none kV_Machine_init dc_Machine_init pm_Machine_init an_Machine_init cd_Machine_init ct_Machine_init) ["self", "letters", "outlets", "rows"] := ⟨_, _, _, _, _, _, _, _, _, _, _, _, _, _, _, N_Machine_init, rfl, l_Machine_init, c_Machine_init, sc_Machine_init, rfl, rfl, ck_Machine_init⟩
  have D_l_reached : DefB K G (P.fd_l_reached) f_l_reached (PySem.W.fnOf "_law_reached" "_law_reached" (defArgs s_l_reached) (defBody s_l_reached) (defScope s_l_reached) .none kV_l_reached dc_l_reached pm_l_reached an_l_reached cd_l_reached ct_l_reached) ["_law_rows", "_law_start"] := ⟨_, _, _, _, _, _, _, _, _, _, _, _, _, _, _, N_l_reached, rfl, l_l_reached, c_l_reached, sc_l_reached, rfl, rfl, ck_l_reached⟩
  have D_come_to : DefB K G (P.fd_come_to) f_come_to (PySem.W.fnOf "come_to" "come_to" (defArgs s_come_to) (defBody s_come_to) (defScope s_come_to) .none kV_come_to dc_come_to pm_come_to an_come_to cd_come_to ct_come_to) ["table", "first"] := ⟨_, _, _, _, _, _, _, _, _, _, _, _, _, _, _, N_come_to, rfl, l_come_to, c_come_to, sc_come_to, rfl, rfl, ck_come_to⟩
  have D_Machine_rows : DefB K G (P.fd_Machine_rows) f_Machine_rows (PySem.W.fnOf "rows" "Machine.rows" (defArgs s_Machine_rows) (defBody s_Machine_rows) (defScope s_Machine_rows) .none kV_Machine_rows dc_Machine_rows pm_Machine_rows an_Machine_rows cd_Machine_rows ct_Machine_rows) ["self"] := ⟨_, _, _, _, _, _, _, _, _, _, _, _, _, _, _, N_Machine_rows, rfl, l_Machine_rows, c_Machine_rows, sc_Machine_rows, rfl, rfl, ck_Machine_rows⟩
  have D_some_again : DefB K G (P.fd_some_again) f_some_again (PySem.W.fnOf "some_again" "some_again" (defArgs s_some_again) (defBody s_some_again) (defScope s_some_again) .none kV_some_again dc_some_again pm_some_again an_some_again cd_some_again ct_some_again) ["machine"] := ⟨_, _, _, _, _, _, _, _, _, _, _, _, _, _, _, N_some_again, rfl, l_some_again, c_some_again, sc_some_again, rfl, rfl, ck_some_again⟩
  have D_l_rule : DefB K G (P.fd_l_rule) f_l_rule (PySem.W.fnOf "_law_rule" "_law_rule" (defArgs s_l_rule) (defBody s_l_rule) (defScope s_l_rule) .none kV_l_rule dc_l_rule pm_l_rule an_l_rule cd_l_rule ct_l_rule) ["_law_deal_here", "_law_ins", "_law_outs"] := ⟨_, _, _, _, _, _, _, _, _, _, _, _, _, _, _, N_l_rule, rfl, l_l_rule, c_l_rule, sc_l_rule, rfl, rfl, ck_l_rule⟩
  have D_l_raw : DefB K G (P.fd_l_raw) f_l_raw (PySem.W.fnOf "_law_raw" "_law_raw" (defArgs s_l_raw) (defBody s_l_raw) (defScope s_l_raw) .none kV_l_raw dc_l_raw pm_l_raw an_l_raw cd_l_raw ct_l_raw) ["_law_rules", "_law_ins", "_law_outs", "_law_most"] := ⟨_, _, _, _, _, _, _, _, _, _, _, _, _, _, _, N_l_raw, rfl, l_l_raw, c_l_raw, sc_l_raw, rfl, rfl, ck_l_raw⟩
  have D_l_renumbered : DefB K G (P.fd_l_renumbered) f_l_renumbered (PySem.W.fnOf "_law_renumbered" "_law_renumbered" (defArgs s_l_renumbered) (defBody s_l_renumbered) (defScope s_l_renumbered) .none kV_l_renumbered dc_l_renumbered pm_l_renumbered an_l_renumbered cd_l_renumbered ct_l_renumbered) ["_law_deal_here", "_law_rows"] := ⟨_, _, _, _, _, _, _, _, _, _, _, _, _, _, _, N_l_renumbered, rfl, l_l_renumbered, c_l_renumbered, sc_l_renumbered, rfl, rfl, ck_l_renumbered⟩
  have D_need_names : DefB K G (P.fd_need_names .nev) f_need_names (PySem.W.fnOf "need_names" "need_names" (defArgs s_need_names) (defBody s_need_names) (defScope s_need_names) .none kV_need_names dc_need_names pm_need_names an_need_names cd_need_names ct_need_names) ["names"] := ⟨_, _, _, _, _, _, _, _, _, _, _, _, _, _, _, N_need_names, rfl, l_need_names, c_need_names, sc_need_names, rfl, rfl, ck_need_names⟩
  have D_good_row : DefB K G (P.fd_good_row) f_good_row (PySem.W.fnOf "good_row" "good_row" (defArgs s_good_row) (defBody s_good_row) (defScope s_good_row) .none kV_good_row dc_good_row pm_good_row an_good_row cd_good_row ct_good_row) ["row", "letters", "outlets", "stands"] := ⟨_, _, _, _, _, _, _, _, _, _, _, _, _, _, _, N_good_row, rfl, l_good_row, c_good_row, sc_good_row, rfl, rfl, ck_good_row⟩
  have D_heeded : DefB K G (P.fd_heeded) f_heeded (PySem.W.fnOf "heeded" "heeded" (defArgs s_heeded) (defBody s_heeded) (defScope s_heeded) .none kV_heeded dc_heeded pm_heeded an_heeded cd_heeded ct_heeded) ["table"] := ⟨_, _, _, _, _, _, _, _, _, _, _, _, _, _, _, N_heeded, rfl, l_heeded, c_heeded, sc_heeded, rfl, rfl, ck_heeded⟩
  have D_fresh_ones : DefB K G (P.fd_fresh_ones) f_fresh_ones (PySem.W.fnOf "fresh_ones" "fresh_ones" (defArgs s_fresh_ones) (defBody s_fresh_ones) (defScope s_fresh_ones) .none kV_fresh_ones dc_fresh_ones pm_fresh_ones an_fresh_ones cd_fresh_ones ct_fresh_ones) ["row", "known"] := ⟨_, _, _, _, _, _, _, _, _, _, _, _, _, _, _, N_fresh_ones, rfl, l_fresh_ones, c_fresh_ones, sc_fresh_ones, rfl, rfl, ck_fresh_ones⟩
  have D_Machine_moved : DefB K G (P.fd_Machine_moved .nev) f_Machine_moved (PySem.W.fnOf "moved" "Machine.moved" (defArgs s_Machine_moved) (defBody s_Machine_moved) (defScope s_Machine_moved) .none (.ref kD_Machine_moved) dc_Machine_moved pm_Machine_moved an_Machine_moved cd_Machine_moved ct_Machine_moved) ["self", "counts", "stand"] := ⟨_, _, _, _, _, _, _, _, _, _, _, _, _, _, _, N_Machine_moved, rfl, l_Machine_moved, c_Machine_moved, sc_Machine_moved, rfl, rfl, ck_Machine_moved⟩
  have D_Machine_letters : DefB K G (P.fd_Machine_letters) f_Machine_letters (PySem.W.fnOf "letters" "Machine.letters" (defArgs s_Machine_letters) (defBody s_Machine_letters) (defScope s_Machine_letters) .none kV_Machine_letters dc_Machine_letters pm_Machine_letters an_Machine_letters cd_Machine_letters ct_Machine_letters) ["self"] := ⟨_, _, _, _, _, _, _, _, _, _, _, _, _, _, _, N_Machine_letters, rfl, l_Machine_letters, c_Machine_letters, sc_Machine_letters, rfl, rfl, ck_Machine_letters⟩
  have D_Machine_len : DefB K G (P.fd_Machine_len) f_Machine_len (PySem.W.fnOf "__len__" "Machine.__len__" (defArgs s_Machine_len) (defBody s_Machine_len) (defScope s_Machine_len) .none kV_Machine_len dc_Machine_len pm_Machine_len an_Machine_len cd_Machine_len ct_Machine_len) ["self"] := ⟨_, _, _, _, _, _, _, _, _, _, _, _, _, _, _, N_Machine_len, rfl, l_Machine_len, c_Machine_len, sc_Machine_len, rfl, rfl, ck_Machine_len⟩
  have D_l_weight : DefB K G (P.fd_l_weight) f_l_weight (PySem.W.fnOf "_law_weight" "_law_weight" (defArgs s_l_weight) (defBody s_l_weight) (defScope s_l_weight) .none kV_l_weight dc_l_weight pm_l_weight an_l_weight cd_l_weight ct_l_weight) ["_law_rule_here", "_law_name"] := ⟨_, _, _, _, _, _, _, _, _, _, _, _, _, _, _, N_l_weight, rfl, l_l_weight, c_l_weight, sc_l_weight, rfl, rfl, ck_l_weight⟩
  have D_l_down : DefB K G (P.fd_l_down) f_l_down (PySem.W.fnOf "_law_down" "_law_down" (defArgs s_l_down) (defBody s_l_down) (defScope s_l_down) .none kV_l_down dc_l_down pm_l_down an_l_down cd_l_down ct_l_down) ["_law_rule_here", "_law_come"] := ⟨_, _, _, _, _, _, _, _, _, _, _, _, _, _, _, N_l_down, rfl, l_l_down, c_l_down, sc_l_down, rfl, rfl, ck_l_down⟩
  have D_l_gain : DefB K G (P.fd_l_gain) f_l_gain (PySem.W.fnOf "_law_gain" "_law_gain" (defArgs s_l_gain) (defBody s_l_gain) (defScope s_l_gain) .none kV_l_gain dc_l_gain pm_l_gain an_l_gain cd_l_gain ct_l_gain) ["_law_rules", "_law_outs", "_law_early", "_law_late"] := ⟨_, _, _, _, _, _, _, _, _, _, _, _, _, _, _, N_l_gain, rfl, l_l_gain, c_l_gain, sc_l_gain, rfl, rfl, ck_l_gain⟩
  have D_is_name : DefB K G (P.fd_is_name) f_is_name (PySem.W.fnOf "is_name" "is_name" (defArgs s_is_name) (defBody s_is_name) (defScope s_is_name) .none kV_is_name dc_is_name pm_is_name an_is_name cd_is_name ct_is_name) ["text"] := ⟨_, _, _, _, _, _, _, _, _, _, _, _, _, _, _, N_is_name, rfl, l_is_name, c_is_name, sc_is_name, rfl, rfl, ck_is_name⟩
  have D_both_ways : DefB K G (P.fd_both_ways) f_both_ways (PySem.W.fnOf "both_ways" "both_ways" (defArgs s_both_ways) (defBody s_both_ways) (defScope s_both_ways) .none kV_both_ways dc_both_ways pm_both_ways an_both_ways cd_both_ways ct_both_ways) ["table", "stand", "one", "other"] := ⟨_, _, _, _, _, _, _, _, _, _, _, _, _, _, _, N_both_ways, rfl, l_both_ways, c_both_ways, sc_both_ways, rfl, rfl, ck_both_ways⟩
  have D_Machine_need_stand : DefB K G (P.fd_Machine_need_stand .nev) f_Machine_need_stand (PySem.W.fnOf "need_stand" "Machine.need_stand" (defArgs s_Machine_need_stand) (defBody s_Machine_need_stand) (defScope s_Machine_need_stand) .none kV_Machine_need_stand dc_Machine_need_stand pm_Machine_need_stand an_Machine_need_stand cd_Machine_need_stand ct_Machine_need_stand) ["self", "stand"] := ⟨_, _, _, _, _, _, _, _, _, _, _, _, _, _, _, N_Machine_need_stand, rfl, l_Machine_need_stand, c_Machine_need_stand, sc_Machine_need_stand, rfl, rfl, ck_Machine_need_stand⟩
  have D_far_moved : DefB K G (P.fd_far_moved) f_far_moved (PySem.W.fnOf "far_moved" "far_moved" (defArgs s_far_moved) (defBody s_far_moved) (defScope s_far_moved) .none kV_far_moved dc_far_moved pm_far_moved an_far_moved cd_far_moved ct_far_moved) ["table", "stand", "place", "many"] := ⟨_, _, _, _, _, _, _, _, _, _, _, _, _, _, _, N_far_moved, rfl, l_far_moved, c_far_moved, sc_far_moved, rfl, rfl, ck_far_moved⟩
  have D_added : DefB K G (P.fd_added) f_added (PySem.W.fnOf "added" "added" (defArgs s_added) (defBody s_added) (defScope s_added) .none kV_added dc_added pm_added an_added cd_added ct_added) ["one", "other"] := ⟨_, _, _, _, _, _, _, _, _, _, _, _, _, _, _, N_added, rfl, l_added, c_added, sc_added, rfl, rfl, ck_added⟩
  have D_l_times_of : DefB K G (P.fd_l_times_of) f_l_times_of (PySem.W.fnOf "_law_times_of" "_law_times_of" (defArgs s_l_times_of) (defBody s_l_times_of) (defScope s_l_times_of) .none kV_l_times_of dc_l_times_of pm_l_times_of an_l_times_of cd_l_times_of ct_l_times_of) ["_law_rule_here", "_law_come"] := ⟨_, _, _, _, _, _, _, _, _, _, _, _, _, _, _, N_l_times_of, rfl, l_l_times_of, c_l_times_of, sc_l_times_of, rfl, rfl, ck_l_times_of⟩
  have S0 : ShapeOk K (PySem.W.fnOf "_law_deal" "_law_deal" (defArgs s_l_deal) (defBody s_l_deal) (defScope s_l_deal) .none kV_l_deal dc_l_deal pm_l_deal an_l_deal cd_l_deal ct_l_deal) ["_law_script"] 1 [] [.arg 0] := ⟨rfl, fun s us ws _ hu hw => match us, ws, hu, hw with | [u0], [], _, _ => ⟨[u0], .of_eq (by first | rfl | with_unfolding_all rfl), u0, _, rfl, rfl, rfl⟩⟩
  have S1 : ShapeOk K (PySem.W.fnOf "_law_any_device" "_law_any_device" (defArgs s_l_any_device) (defBody s_l_any_device) (defScope s_l_any_device) .none kV_l_any_device dc_l_any_device pm_l_any_device an_l_any_device cd_l_any_device ct_l_any_device) ["_law_deal_here", "_law_most"] 2 [] [.arg 0, .arg 1] := ⟨rfl, fun s us ws _ hu hw => match us, ws, hu, hw with | [u0, u1], [], _, _ => ⟨[u0, u1], .of_eq (by first | rfl | with_unfolding_all rfl), u0, _, rfl, rfl, u1, _, rfl, rfl, rfl⟩⟩
  have S2 : ShapeOk K (PySem.W.fnOf "_law_made" "_law_made" (defArgs s_l_made) (defBody s_l_made) (defScope s_l_made) .none kV_l_made dc_l_made pm_l_made an_l_made cd_l_made ct_l_made) ["_law_m"] 1 [] [.arg 0] := ⟨rfl, fun s us ws _ hu hw => match us, ws, hu, hw with | [u0], [], _, _ => ⟨[u0], .of_eq (by first | rfl | with_unfolding_all rfl), u0, _, rfl, rfl, rfl⟩⟩
  have S3 : ShapeOk K (PySem.W.fnOf "_law_again" "_law_again" (defArgs s_l_again) (defBody s_l_again) (defScope s_l_again) .none kV_l_again dc_l_again pm_l_again an_l_again cd_l_again ct_l_again) ["_law_m"] 1 [] [.arg 0] := ⟨rfl, fun s us ws _ hu hw => match us, ws, hu, hw with | [u0], [], _, _ => ⟨[u0], .of_eq (by first | rfl | with_unfolding_all rfl), u0, _, rfl, rfl, rfl⟩⟩
  have S4 : ShapeOk K (PySem.W.fnOf "coming_again" "coming_again" (defArgs s_coming_again) (defBody s_coming_again) (defScope s_coming_again) .none kV_coming_again dc_coming_again pm_coming_again an_coming_again cd_coming_again ct_coming_again) ["machine"] 0 ["machine"] [.arg 0] := ⟨rfl, fun s us ws _ hu hw => match us, ws, hu, hw with | [], [w0], _, _ => ⟨[w0], .of_eq (by first | rfl | with_unfolding_all rfl), w0, _, rfl, rfl, rfl⟩⟩
  have S5 : ShapeOk K (PySem.W.fnOf "_law_like" "_law_like" (defArgs s_l_like) (defBody s_l_like) (defScope s_l_like) .none kV_l_like dc_l_like pm_l_like an_l_like cd_l_like ct_l_like) ["_law_found", "_law_due"] 2 [] [.arg 0, .arg 1] := ⟨rfl, fun s us ws _ hu hw => match us, ws, hu, hw with | [u0, u1], [], _, _ => ⟨[u0, u1], .of_eq (by first | rfl | with_unfolding_all rfl), u0, _, rfl, rfl, u1, _, rfl, rfl, rfl⟩⟩
  have S6 : ShapeOk K (PySem.W.fnOf "_law_names" "_law_names" (defArgs s_l_names) (defBody s_l_names) (defScope s_l_names) .none kV_l_names dc_l_names pm_l_names an_l_names cd_l_names ct_l_names) ["_law_deal_here", "_law_many"] 2 [] [.arg 0, .arg 1] := ⟨rfl, fun s us ws _ hu hw => match us, ws, hu, hw with | [u0, u1], [], _, _ => ⟨[u0, u1], .of_eq (by first | rfl | with_unfolding_all rfl), u0, _, rfl, rfl, u1, _, rfl, rfl, rfl⟩⟩
  have S7 : ShapeOk K (PySem.W.fnOf "_law_of" "_law_of" (defArgs s_l_of) (defBody s_l_of) (defScope s_l_of) .none kV_l_of dc_l_of pm_l_of an_l_of cd_l_of ct_l_of) ["_law_deal_here", "_law_some"] 2 [] [.arg 0, .arg 1] := ⟨rfl, fun s us ws _ hu hw => match us, ws, hu, hw with | [u0, u1], [], _, _ => ⟨[u0, u1], .of_eq (by first | rfl | with_unfolding_all rfl), u0, _, rfl, rfl, u1, _, rfl, rfl, rfl⟩⟩
  have S8 : ShapeOk K (PySem.W.fnOf "_law_shuffled" "_law_shuffled" (defArgs s_l_shuffled) (defBody s_l_shuffled) (defScope s_l_shuffled) .none kV_l_shuffled dc_l_shuffled pm_l_shuffled an_l_shuffled cd_l_shuffled ct_l_shuffled) ["_law_deal_here", "_law_some"] 2 [] [.arg 0, .arg 1] := ⟨rfl, fun s us ws _ hu hw => match us, ws, hu, hw with | [u0, u1], [], _, _ => ⟨[u0, u1], .of_eq (by first | rfl | with_unfolding_all rfl), u0, _, rfl, rfl, u1, _, rfl, rfl, rfl⟩⟩
  have S9 : ShapeOk K (PySem.W.fnOf "_law_pick" "_law_pick" (defArgs s_l_pick) (defBody s_l_pick) (defScope s_l_pick) .none kV_l_pick dc_l_pick pm_l_pick an_l_pick cd_l_pick ct_l_pick) ["_law_deal_here", "_law_many"] 2 [] [.arg 0, .arg 1] := ⟨rfl, fun s us ws _ hu hw => match us, ws, hu, hw with | [u0, u1], [], _, _ => ⟨[u0, u1], .of_eq (by first | rfl | with_unfolding_all rfl), u0, _, rfl, rfl, u1, _, rfl, rfl, rfl⟩⟩
  have S10 : ShapeOk K (PySem.W.fnOf "_law_device" "_law_device" (defArgs s_l_device) (defBody s_l_device) (defScope s_l_device) .none kV_l_device dc_l_device pm_l_device an_l_device cd_l_device ct_l_device) ["_law_deal_here", "_law_ins", "_law_outs", "_law_most"] 4 [] [.arg 0, .arg 1, .arg 2, .arg 3] := ⟨rfl, fun s us ws _ hu hw => match us, ws, hu, hw with | [u0, u1, u2, u3], [], _, _ => ⟨[u0, u1, u2, u3], .of_eq (by first | rfl | with_unfolding_all rfl), u0, _, rfl, rfl, u1, _, rfl, rfl, u2, _, rfl, rfl, u3, _, rfl, rfl, rfl⟩⟩
  have S11 : ShapeOk K (PySem.W.fnOf "_law_reached" "_law_reached" (defArgs s_l_reached) (defBody s_l_reached) (defScope s_l_reached) .none kV_l_reached dc_l_reached pm_l_reached an_l_reached cd_l_reached ct_l_reached) ["_law_rows", "_law_start"] 2 [] [.arg 0, .arg 1] := ⟨rfl, fun s us ws _ hu hw => match us, ws, hu, hw with | [u0, u1], [], _, _ => ⟨[u0, u1], .of_eq (by first | rfl | with_unfolding_all rfl), u0, _, rfl, rfl, u1, _, rfl, rfl, rfl⟩⟩
  have S12 : ShapeOk K (PySem.W.fnOf "come_to" "come_to" (defArgs s_come_to) (defBody s_come_to) (defScope s_come_to) .none kV_come_to dc_come_to pm_come_to an_come_to cd_come_to ct_come_to) ["table", "first"] 2 [] [.arg 0, .arg 1] := ⟨rfl, fun s us ws _ hu hw => match us, ws, hu, hw with | [u0, u1], [], _, _ => ⟨[u0, u1], .of_eq (by first | rfl | with_unfolding_all rfl), u0, _, rfl, rfl, u1, _, rfl, rfl, rfl⟩⟩
  have S13 : ShapeOk K (PySem.W.fnOf "some_again" "some_again" (defArgs s_some_again) (defBody s_some_again) (defScope s_some_again) .none kV_some_again dc_some_again pm_some_again an_some_again cd_some_again ct_some_again) ["machine"] 1 [] [.arg 0] := ⟨rfl, fun s us ws _ hu hw => match us, ws, hu, hw with | [u0], [], _, _ => ⟨[u0], .of_eq (by first | rfl | with_unfolding_all rfl), u0, _, rfl, rfl, rfl⟩⟩
  have S14 : ShapeOk K (PySem.W.fnOf "_law_rule" "_law_rule" (defArgs s_l_rule) (defBody s_l_rule) (defScope s_l_rule) .none kV_l_rule dc_l_rule pm_l_rule an_l_rule cd_l_rule ct_l_rule) ["_law_deal_here", "_law_ins", "_law_outs"] 3 [] [.arg 0, .arg 1, .arg 2] := ⟨rfl, fun s us ws _ hu hw => match us, ws, hu, hw with | [u0, u1, u2], [], _, _ => ⟨[u0, u1, u2], .of_eq (by first | rfl | with_unfolding_all rfl), u0, _, rfl, rfl, u1, _, rfl, rfl, u2, _, rfl, rfl, rfl⟩⟩
  have S15 : ShapeOk K (PySem.W.fnOf "_law_raw" "_law_raw" (defArgs s_l_raw) (defBody s_l_raw) (defScope s_l_raw) .none kV_l_raw dc_l_raw pm_l_raw an_l_raw cd_l_raw ct_l_raw) ["_law_rules", "_law_ins", "_law_outs", "_law_most"] 4 [] [.arg 0, .arg 1, .arg 2, .arg 3] := ⟨rfl, fun s us ws _ hu hw => match us, ws, hu, hw with | [u0, u1, u2, u3], [], _, _ => ⟨[u0, u1, u2, u3], .of_eq (by first | rfl | with_unfolding_all rfl), u0, _, rfl, rfl, u1, _, rfl, rfl, u2, _, rfl, rfl, u3, _, rfl, rfl, rfl⟩⟩
  have S16 : ShapeOk K (PySem.W.fnOf "_law_renumbered" "_law_renumbered" (defArgs s_l_renumbered) (defBody s_l_renumbered) (defScope s_l_renumbered) .none kV_l_renumbered dc_l_renumbered pm_l_renumbered an_l_renumbered cd_l_renumbered ct_l_renumbered) ["_law_deal_here", "_law_rows"] 2 [] [.arg 0, .arg 1] := ⟨rfl, fun s us ws _ hu hw => match us, ws, hu, hw with | [u0, u1], [], _, _ => ⟨[u0, u1], .of_eq (by first | rfl | with_unfolding_all rfl), u0, _, rfl, rfl, u1, _, rfl, rfl, rfl⟩⟩
  have S17 : ShapeOk K (PySem.W.fnOf "need_names" "need_names" (defArgs s_need_names) (defBody s_need_names) (defScope s_need_names) .none kV_need_names dc_need_names pm_need_names an_need_names cd_need_names ct_need_names) ["names"] 1 [] [.arg 0] := ⟨rfl, fun s us ws _ hu hw => match us, ws, hu, hw with | [u0], [], _, _ => ⟨[u0], .of_eq (by first | rfl | with_unfolding_all rfl), u0, _, rfl, rfl, rfl⟩⟩
  have S18 : ShapeOk K (PySem.W.fnOf "good_row" "good_row" (defArgs s_good_row) (defBody s_good_row) (defScope s_good_row) .none kV_good_row dc_good_row pm_good_row an_good_row cd_good_row ct_good_row) ["row", "letters", "outlets", "stands"] 4 [] [.arg 0, .arg 1, .arg 2, .arg 3] := ⟨rfl, fun s us ws _ hu hw => match us, ws, hu, hw with | [u0, u1, u2, u3], [], _, _ => ⟨[u0, u1, u2, u3], .of_eq (by first | rfl | with_unfolding_all rfl), u0, _, rfl, rfl, u1, _, rfl, rfl, u2, _, rfl, rfl, u3, _, rfl, rfl, rfl⟩⟩
  have S19 : ShapeOk K (PySem.W.fnOf "heeded" "heeded" (defArgs s_heeded) (defBody s_heeded) (defScope s_heeded) .none kV_heeded dc_heeded pm_heeded an_heeded cd_heeded ct_heeded) ["table"] 1 [] [.arg 0] := ⟨rfl, fun s us ws _ hu hw => match us, ws, hu, hw with | [u0], [], _, _ => ⟨[u0], .of_eq (by first | rfl | with_unfolding_all rfl), u0, _, rfl, rfl, rfl⟩⟩
  have S20 : ShapeOk K (PySem.W.fnOf "fresh_ones" "fresh_ones" (defArgs s_fresh_ones) (defBody s_fresh_ones) (defScope s_fresh_ones) .none kV_fresh_ones dc_fresh_ones pm_fresh_ones an_fresh_ones cd_fresh_ones ct_fresh_ones) ["row", "known"] 2 [] [.arg 0, .arg 1] := ⟨rfl, fun s us ws _ hu hw => match us, ws, hu, hw with | [u0, u1], [], _, _ => ⟨[u0, u1], .of_eq (by first | rfl | with_unfolding_all rfl), u0, _, rfl, rfl, u1, _, rfl, rfl, rfl⟩⟩
  have S21 : ShapeOk K (PySem.W.fnOf "_law_weight" "_law_weight" (defArgs s_l_weight) (defBody s_l_weight) (defScope s_l_weight) .none kV_l_weight dc_l_weight pm_l_weight an_l_weight cd_l_weight ct_l_weight) ["_law_rule_here", "_law_name"] 2 [] [.arg 0, .arg 1] := ⟨rfl, fun s us ws _ hu hw => match us, ws, hu, hw with | [u0, u1], [], _, _ => ⟨[u0, u1], .of_eq (by first | rfl | with_unfolding_all rfl), u0, _, rfl, rfl, u1, _, rfl, rfl, rfl⟩⟩
  have S22 : ShapeOk K (PySem.W.fnOf "_law_down" "_law_down" (defArgs s_l_down) (defBody s_l_down) (defScope s_l_down) .none kV_l_down dc_l_down pm_l_down an_l_down cd_l_down ct_l_down) ["_law_rule_here", "_law_come"] 2 [] [.arg 0, .arg 1] := ⟨rfl, fun s us ws _ hu hw => match us, ws, hu, hw with | [u0, u1], [], _, _ => ⟨[u0, u1], .of_eq (by first | rfl | with_unfolding_all rfl), u0, _, rfl, rfl, u1, _, rfl, rfl, rfl⟩⟩
  have S23 : ShapeOk K (PySem.W.fnOf "_law_gain" "_law_gain" (defArgs s_l_gain) (defBody s_l_gain) (defScope s_l_gain) .none kV_l_gain dc_l_gain pm_l_gain an_l_gain cd_l_gain ct_l_gain) ["_law_rules", "_law_outs", "_law_early", "_law_late"] 4 [] [.arg 0, .arg 1, .arg 2, .arg 3] := ⟨rfl, fun s us ws _ hu hw => match us, ws, hu, hw with | [u0, u1, u2, u3], [], _, _ => ⟨[u0, u1, u2, u3], .of_eq (by first | rfl | with_unfolding_all rfl), u0, _, rfl, rfl, u1, _, rfl, rfl, u2, _, rfl, rfl, u3, _, rfl, rfl, rfl⟩⟩
  have S24 : ShapeOk K (PySem.W.fnOf "is_name" "is_name" (defArgs s_is_name) (defBody s_is_name) (defScope s_is_name) .none kV_is_name dc_is_name pm_is_name an_is_name cd_is_name ct_is_name) ["text"] 1 [] [.arg 0] := ⟨rfl, fun s us ws _ hu hw => match us, ws, hu, hw with | [u0], [], _, _ => ⟨[u0], .of_eq (by first | rfl | with_unfolding_all rfl), u0, _, rfl, rfl, rfl⟩⟩
  have S25 : ShapeOk K (PySem.W.fnOf "both_ways" "both_ways" (defArgs s_both_ways) (defBody s_both_ways) (defScope s_both_ways) .none kV_both_ways dc_both_ways pm_both_ways an_both_ways cd_both_ways ct_both_ways) ["table", "stand", "one", "other"] 4 [] [.arg 0, .arg 1, .arg 2, .arg 3] := ⟨rfl, fun s us ws _ hu hw => match us, ws, hu, hw with | [u0, u1, u2, u3], [], _, _ => ⟨[u0, u1, u2, u3], .of_eq (by first | rfl | with_unfolding_all rfl), u0, _, rfl, rfl, u1, _, rfl, rfl, u2, _, rfl, rfl, u3, _, rfl, rfl, rfl⟩⟩
  have S26 : ShapeOk K (PySem.W.fnOf "far_moved" "far_moved" (defArgs s_far_moved) (defBody s_far_moved) (defScope s_far_moved) .none kV_far_moved dc_far_moved pm_far_moved an_far_moved cd_far_moved ct_far_moved) ["table", "stand", "place", "many"] 4 [] [.arg 0, .arg 1, .arg 2, .arg 3] := ⟨rfl, fun s us ws _ hu hw => match us, ws, hu, hw with | [u0, u1, u2, u3], [], _, _ => ⟨[u0, u1, u2, u3], .of_eq (by first | rfl | with_unfolding_all rfl), u0, _, rfl, rfl, u1, _, rfl, rfl, u2, _, rfl, rfl, u3, _, rfl, rfl, rfl⟩⟩
  have S27 : ShapeOk K (PySem.W.fnOf "added" "added" (defArgs s_added) (defBody s_added) (defScope s_added) .none kV_added dc_added pm_added an_added cd_added ct_added) ["one", "other"] 2 [] [.arg 0, .arg 1] := ⟨rfl, fun s us ws _ hu hw => match us, ws, hu, hw with | [u0, u1], [], _, _ => ⟨[u0, u1], .of_eq (by first | rfl | with_unfolding_all rfl), u0, _, rfl, rfl, u1, _, rfl, rfl, rfl⟩⟩
  have S28 : ShapeOk K (PySem.W.fnOf "_law_times_of" "_law_times_of" (defArgs s_l_times_of) (defBody s_l_times_of) (defScope s_l_times_of) .none kV_l_times_of dc_l_times_of pm_l_times_of an_l_times_of cd_l_times_of ct_l_times_of) ["_law_rule_here", "_law_come"] 2 [] [.arg 0, .arg 1] := ⟨rfl, fun s us ws _ hu hw => match us, ws, hu, hw with | [u0, u1], [], _, _ => ⟨[u0, u1], .of_eq (by first | rfl | with_unfolding_all rfl), u0, _, rfl, rfl, u1, _, rfl, rfl, rfl⟩⟩
  have S29 : ShapeOk K (PySem.W.fnOf "rows" "Machine.rows" (defArgs s_Machine_rows) (defBody s_Machine_rows) (defScope s_Machine_rows) .none kV_Machine_rows dc_Machine_rows pm_Machine_rows an_Machine_rows cd_Machine_rows ct_Machine_rows) ["self"] 1 [] [.arg 0] := ⟨rfl, fun s us ws _ hu hw => match us, ws, hu, hw with | [u0], [], _, _ => ⟨[u0], .of_eq (by first | rfl | with_unfolding_all rfl), u0, _, rfl, rfl, rfl⟩⟩
  have S30 : ShapeOk K (PySem.W.fnOf "moved" "Machine.moved" (defArgs s_Machine_moved) (defBody s_Machine_moved) (defScope s_Machine_moved) .none (.ref kD_Machine_moved) dc_Machine_moved pm_Machine_moved an_Machine_moved cd_Machine_moved ct_Machine_moved) ["self", "counts", "stand"] 2 [] [.arg 0, .arg 1, .dfl (.int 0)] := ⟨rfl, fun s us ws hX hu hw => match us, ws, hu, hw with | [u0, u1], [], _, _ => ⟨[u0, u1, ku_Machine_moved_stand], BindsTo.of_looks fun M => KwChain.looks (l := [("stand", ku_Machine_moved_stand)]) hX (fun q hq => by
      rcases List.mem_cons.mp hq with e | hq
      · cases e; exact kn_Machine_moved_stand
      cases hq) ⟨_, _, _, _, _, _, rfl, rfl, rfl⟩, u0, _, rfl, rfl, u1, _, rfl, rfl, ku_Machine_moved_stand, _, rfl, kr_Machine_moved_stand, rfl⟩⟩
  have S31 : ShapeOk K (PySem.W.fnOf "letters" "Machine.letters" (defArgs s_Machine_letters) (defBody s_Machine_letters) (defScope s_Machine_letters) .none kV_Machine_letters dc_Machine_letters pm_Machine_letters an_Machine_letters cd_Machine_letters ct_Machine_letters) ["self"] 1 [] [.arg 0] := ⟨rfl, fun s us ws _ hu hw => match us, ws, hu, hw with | [u0], [], _, _ => ⟨[u0], .of_eq (by first | rfl | with_unfolding_all rfl), u0, _, rfl, rfl, rfl⟩⟩
  have S32 : ShapeOk K (PySem.W.fnOf "need_stand" "Machine.need_stand" (defArgs s_Machine_need_stand) (defBody s_Machine_need_stand) (defScope s_Machine_need_stand) .none kV_Machine_need_stand dc_Machine_need_stand pm_Machine_need_stand an_Machine_need_stand cd_Machine_need_stand ct_Machine_need_stand) ["self", "stand"] 2 [] [.arg 0, .arg 1] := ⟨rfl, fun s us ws _ hu hw => match us, ws, hu, hw with | [u0, u1], [], _, _ => ⟨[u0, u1], .of_eq (by first | rfl | with_unfolding_all rfl), u0, _, rfl, rfl, u1, _, rfl, rfl, rfl⟩⟩
  have S33 : ShapeOk K (PySem.W.fnOf "__init__" "Machine.__init__" (defArgs s_Machine_init) (defBody s_Machine_init) (defScope s_Machine_init) .none kV_Machine_init dc_Machine_init pm_Machine_init an_Machine_init cd_Machine_init ct_Machine_init) ["self", "letters", "outlets", "rows"] 4 [] [.arg 0, .arg 1, .arg 2, .arg 3] := ⟨rfl, fun s us ws _ hu hw => match us, ws, hu, hw with | [u0, u1, u2, u3], [], _, _ => ⟨[u0, u1, u2, u3], .of_eq (by first | rfl | with_unfolding_all rfl), u0, _, rfl, rfl, u1, _, rfl, rfl, u2, _, rfl, rfl, u3, _, rfl, rfl, rfl⟩⟩
  have S34 : ShapeOk K (PySem.W.fnOf "__len__" "Machine.__len__" (defArgs s_Machine_len) (defBody s_Machine_len) (defScope s_Machine_len) .none kV_Machine_len dc_Machine_len pm_Machine_len an_Machine_len cd_Machine_len ct_Machine_len) ["self"] 1 [] [.arg 0] := ⟨rfl, fun s us ws _ hu hw => match us, ws, hu, hw with | [u0], [], _, _ => ⟨[u0], .of_eq (by first | rfl | with_unfolding_all rfl), u0, _, rfl, rfl, rfl⟩⟩
  have Cl_Machine : Cls K C_Machine := ⟨pg_Machine, hd_Machine, po_Machine, sa_Machine⟩
  refine ⟨⟨fun f => ?_, PySem.W.mg_none_of X Gl z_range, fun n hn => ?_, PySem.W.mg_none_of X Gl z_enumerate, PySem.W.mg_none_of X Gl z_zip, fun x k hm => ?_, fun C f hm => ?_, fun C m f n ks src hm => ?_, fun C f n ks src hm => ?_, fun C f hm => ?_, fun f n ks src hm => ?_, fun C n fl sup hm => ?_, fun n hm => ?_⟩, _, _, PySem.W.mg_of X Gl a_law, D_law, fun s v => .of_eq rfl⟩
  · cases f
    · exact PySem.W.mg_none_of X Gl z_len
    · exact PySem.W.mg_none_of X Gl z_list
    · exact PySem.W.mg_none_of X Gl z_list
    · exact PySem.W.mg_none_of X Gl z_tuple
    · exact PySem.W.mg_none_of X Gl z_abs
    · exact PySem.W.mg_none_of X Gl z_all
    · exact PySem.W.mg_none_of X Gl z_any
    · exact PySem.W.mg_none_of X Gl z_sum
    · exact PySem.W.mg_none_of X Gl z_isinstance
    · exact PySem.W.mg_none_of X Gl z_int
    · exact PySem.W.mg_none_of X Gl z_max
    · exact PySem.W.mg_none_of X Gl z_min
    · exact PySem.W.mg_none_of X Gl z_sorted
    · exact PySem.W.mg_none_of X Gl z_sorted
    · exact PySem.W.mg_none_of X Gl z_str
  · simp only [tyNames, List.mem_cons, List.not_mem_nil, or_false] at hn
    rcases hn with rfl | rfl | rfl | rfl | rfl | rfl
    · exact PySem.W.mg_none_of X Gl z_int
    · exact PySem.W.mg_none_of X Gl z_bool
    · exact PySem.W.mg_none_of X Gl z_str
    · exact PySem.W.mg_none_of X Gl z_list
    · exact PySem.W.mg_none_of X Gl z_tuple
    · exact PySem.W.mg_none_of X Gl z_dict
  · dsimp only [G] at hm
    rcases List.mem_cons.mp hm with e | hm
    · cases e; exact ⟨_, PySem.W.mg_of X Gl co_LETTERS, cr_LETTERS⟩
    rcases List.mem_cons.mp hm with e | hm
    · cases e; exact ⟨_, PySem.W.mg_of X Gl co_STANDS, cr_STANDS⟩
    rcases List.mem_cons.mp hm with e | hm
    · cases e; exact ⟨_, PySem.W.mg_of X Gl co_MOST, cr_MOST⟩
    rcases List.mem_cons.mp hm with e | hm
    · cases e; exact ⟨_, PySem.W.mg_of X Gl co_SIGNS, cr_SIGNS⟩
    cases hm
  · dsimp only [G] at hm
    rcases List.mem_cons.mp hm with e | hm
    · cases e; exact ⟨_, PySem.W.mg_of X Gl xa_Machine, Cl_Machine, nf_Machine_inward⟩
    rcases List.mem_cons.mp hm with e | hm
    · cases e; exact ⟨_, PySem.W.mg_of X Gl xa_Machine, Cl_Machine, nf_Machine_outward⟩
    rcases List.mem_cons.mp hm with e | hm
    · cases e; exact ⟨_, PySem.W.mg_of X Gl xa_Machine, Cl_Machine, nf_Machine_table⟩
    cases hm
  · dsimp only [G] at hm
    rcases List.mem_cons.mp hm with e | hm
    · cases e; exact ⟨_, _, (P.fd_Machine_rows), _, _, PySem.W.mg_of X Gl xa_Machine, Cl_Machine, ⟨m_Machine_rows, n_Machine_rows, k_Machine_rows⟩, rfl, D_Machine_rows, S29⟩
    rcases List.mem_cons.mp hm with e | hm
    · cases e; exact ⟨_, _, (P.fd_Machine_moved .nev), _, _, PySem.W.mg_of X Gl xa_Machine, Cl_Machine, ⟨m_Machine_moved, n_Machine_moved, k_Machine_moved⟩, rfl, D_Machine_moved, S30⟩
    rcases List.mem_cons.mp hm with e | hm
    · cases e; exact ⟨_, _, (P.fd_Machine_letters), _, _, PySem.W.mg_of X Gl xa_Machine, Cl_Machine, ⟨m_Machine_letters, n_Machine_letters, k_Machine_letters⟩, rfl, D_Machine_letters, S31⟩
    rcases List.mem_cons.mp hm with e | hm
    · cases e; exact ⟨_, _, (P.fd_Machine_need_stand .nev), _, _, PySem.W.mg_of X Gl xa_Machine, Cl_Machine, ⟨m_Machine_need_stand, n_Machine_need_stand, k_Machine_need_stand⟩, rfl, D_Machine_need_stand, S32⟩
    cases hm
  · dsimp only [G] at hm
    rcases List.mem_cons.mp hm with e | hm
    · cases e; exact ⟨_, _, (P.fd_Machine_init .nev .nev .nev .nev), _, _, PySem.W.mg_of X Gl xa_Machine, ⟨mz_Machine, m_Machine_init, n_Machine_init, kp_Machine⟩, rfl, D_Machine_init, S33⟩
    cases hm
  · dsimp only [G] at hm
    rcases List.mem_cons.mp hm with e | hm
    · cases e; exact ⟨_, _, (P.fd_Machine_len), _, _, PySem.W.mg_of X Gl xa_Machine, Cl_Machine, ⟨m_Machine_len, n_Machine_len, k_Machine_len⟩, rfl, D_Machine_len, S34⟩
    cases hm
  · dsimp only [G] at hm
    rcases List.mem_cons.mp hm with e | hm
    · cases e; exact ⟨(P.fd_l_deal), _, _, _, _, rfl, rfl, PySem.W.mg_of X Gl a_l_deal, k_l_deal, D_l_deal, S0⟩
    rcases List.mem_cons.mp hm with e | hm
    · cases e; exact ⟨(P.fd_l_any_device), _, _, _, _, rfl, rfl, PySem.W.mg_of X Gl a_l_any_device, k_l_any_device, D_l_any_device, S1⟩
    rcases List.mem_cons.mp hm with e | hm
    · cases e; exact ⟨(P.fd_l_made), _, _, _, _, rfl, rfl, PySem.W.mg_of X Gl a_l_made, k_l_made, D_l_made, S2⟩
    rcases List.mem_cons.mp hm with e | hm
    · cases e; exact ⟨(P.fd_l_again), _, _, _, _, rfl, rfl, PySem.W.mg_of X Gl a_l_again, k_l_again, D_l_again, S3⟩
    rcases List.mem_cons.mp hm with e | hm
    · cases e; exact ⟨(P.fd_coming_again), _, _, _, _, rfl, rfl, PySem.W.mg_of X Gl a_coming_again, k_coming_again, D_coming_again, S4⟩
    rcases List.mem_cons.mp hm with e | hm
    · cases e; exact ⟨(P.fd_l_like), _, _, _, _, rfl, rfl, PySem.W.mg_of X Gl a_l_like, k_l_like, D_l_like, S5⟩
    rcases List.mem_cons.mp hm with e | hm
    · cases e; exact ⟨(P.fd_l_names), _, _, _, _, rfl, rfl, PySem.W.mg_of X Gl a_l_names, k_l_names, D_l_names, S6⟩
    rcases List.mem_cons.mp hm with e | hm
    · cases e; exact ⟨(P.fd_l_of), _, _, _, _, rfl, rfl, PySem.W.mg_of X Gl a_l_of, k_l_of, D_l_of, S7⟩
    rcases List.mem_cons.mp hm with e | hm
    · cases e; exact ⟨(P.fd_l_shuffled), _, _, _, _, rfl, rfl, PySem.W.mg_of X Gl a_l_shuffled, k_l_shuffled, D_l_shuffled, S8⟩
    rcases List.mem_cons.mp hm with e | hm
    · cases e; exact ⟨(P.fd_l_pick), _, _, _, _, rfl, rfl, PySem.W.mg_of X Gl a_l_pick, k_l_pick, D_l_pick, S9⟩
    rcases List.mem_cons.mp hm with e | hm
    · cases e; exact ⟨(P.fd_l_device), _, _, _, _, rfl, rfl, PySem.W.mg_of X Gl a_l_device, k_l_device, D_l_device, S10⟩
    rcases List.mem_cons.mp hm with e | hm
    · cases e; exact ⟨(P.fd_l_reached), _, _, _, _, rfl, rfl, PySem.W.mg_of X Gl a_l_reached, k_l_reached, D_l_reached, S11⟩
    rcases List.mem_cons.mp hm with e | hm
    · cases e; exact ⟨(P.fd_come_to), _, _, _, _, rfl, rfl, PySem.W.mg_of X Gl a_come_to, k_come_to, D_come_to, S12⟩
    rcases List.mem_cons.mp hm with e | hm
    · cases e; exact ⟨(P.fd_some_again), _, _, _, _, rfl, rfl, PySem.W.mg_of X Gl a_some_again, k_some_again, D_some_again, S13⟩
    rcases List.mem_cons.mp hm with e | hm
    · cases e; exact ⟨(P.fd_l_rule), _, _, _, _, rfl, rfl, PySem.W.mg_of X Gl a_l_rule, k_l_rule, D_l_rule, S14⟩
    rcases List.mem_cons.mp hm with e | hm
    · cases e; exact ⟨(P.fd_l_raw), _, _, _, _, rfl, rfl, PySem.W.mg_of X Gl a_l_raw, k_l_raw, D_l_raw, S15⟩
    rcases List.mem_cons.mp hm with e | hm
    · cases e; exact ⟨(P.fd_l_renumbered), _, _, _, _, rfl, rfl, PySem.W.mg_of X Gl a_l_renumbered, k_l_renumbered, D_l_renumbered, S16⟩
    rcases List.mem_cons.mp hm with e | hm
    · cases e; exact ⟨(P.fd_need_names .nev), _, _, _, _, rfl, rfl, PySem.W.mg_of X Gl a_need_names, k_need_names, D_need_names, S17⟩
    rcases List.mem_cons.mp hm with e | hm
    · cases e; exact ⟨(P.fd_good_row), _, _, _, _, rfl, rfl, PySem.W.mg_of X Gl a_good_row, k_good_row, D_good_row, S18⟩
    rcases List.mem_cons.mp hm with e | hm
    · cases e; exact ⟨(P.fd_heeded), _, _, _, _, rfl, rfl, PySem.W.mg_of X Gl a_heeded, k_heeded, D_heeded, S19⟩
    rcases List.mem_cons.mp hm with e | hm
    · cases e; exact ⟨(P.fd_fresh_ones), _, _, _, _, rfl, rfl, PySem.W.mg_of X Gl a_fresh_ones, k_fresh_ones, D_fresh_ones, S20⟩
    rcases List.mem_cons.mp hm with e | hm
    · cases e; exact ⟨(P.fd_l_weight), _, _, _, _, rfl, rfl, PySem.W.mg_of X Gl a_l_weight, k_l_weight, D_l_weight, S21⟩
    rcases List.mem_cons.mp hm with e | hm
    · cases e; exact ⟨(P.fd_l_down), _, _, _, _, rfl, rfl, PySem.W.mg_of X Gl a_l_down, k_l_down, D_l_down, S22⟩
    rcases List.mem_cons.mp hm with e | hm
    · cases e; exact ⟨(P.fd_l_gain), _, _, _, _, rfl, rfl, PySem.W.mg_of X Gl a_l_gain, k_l_gain, D_l_gain, S23⟩
    rcases List.mem_cons.mp hm with e | hm
    · cases e; exact ⟨(P.fd_is_name), _, _, _, _, rfl, rfl, PySem.W.mg_of X Gl a_is_name, k_is_name, D_is_name, S24⟩
    rcases List.mem_cons.mp hm with e | hm
    · cases e; exact ⟨(P.fd_both_ways), _, _, _, _, rfl, rfl, PySem.W.mg_of X Gl a_both_ways, k_both_ways, D_both_ways, S25⟩
    rcases List.mem_cons.mp hm with e | hm
    · cases e; exact ⟨(P.fd_far_moved), _, _, _, _, rfl, rfl, PySem.W.mg_of X Gl a_far_moved, k_far_moved, D_far_moved, S26⟩
    rcases List.mem_cons.mp hm with e | hm
    · cases e; exact ⟨(P.fd_added), _, _, _, _, rfl, rfl, PySem.W.mg_of X Gl a_added, k_added, D_added, S27⟩
    rcases List.mem_cons.mp hm with e | hm
    · cases e; exact ⟨(P.fd_l_times_of), _, _, _, _, rfl, rfl, PySem.W.mg_of X Gl a_l_times_of, k_l_times_of, D_l_times_of, S28⟩
    cases hm
  · dsimp only [G] at hm
    cases hm
  · dsimp only [G] at hm
    cases hm
theorem all_end {Pr : Program} {w : World} {h : Heap} {fa : Addr} (X : K.In h) (Gl : h.Ns mainGlobals mg) (hfa : mg "law" = some (.ref fa)) (hlaw : ∀ ns : List Int, ns.length ≤ 63 → ∃ c, evF T 20 0 [.scr (ns.map .int)] [] = .ok (.bl true) c)
    {C_Machine : Addr}
    (xa_Machine : PySem.W.nsIn K mainGlobals "Machine" = some (some (.ref C_Machine)))
    (pg_Machine : PySem.W.plainGet K C_Machine Str.empty = true)
    (hd_Machine : PySem.W.hasDictIn K C_Machine = true)
    (po_Machine : PySem.W.plainOver K C_Machine = true)
    (sa_Machine : PySem.W.findIn K (.ref C_Machine) "__setattr__" = some (some (.builtin "object.__setattr__")))
    (mz_Machine : PySem.W.makesIn K C_Machine = true)
    (kp_Machine : PySem.W.keepIn K (.ref C_Machine) = true)
    (nf_Machine_inward : PySem.W.findIn K (.ref C_Machine) "inward" = some none)
    (nf_Machine_outward : PySem.W.findIn K (.ref C_Machine) "outward" = some none)
    (nf_Machine_table : PySem.W.findIn K (.ref C_Machine) "table" = some none)
    {u_LETTERS : Value}
    (co_LETTERS : PySem.W.nsIn K mainGlobals "LETTERS" = some (some u_LETTERS))
    (cr_LETTERS : RelV (Cst.v (.int 3)) u_LETTERS)
    {u_STANDS : Value}
    (co_STANDS : PySem.W.nsIn K mainGlobals "STANDS" = some (some u_STANDS))
    (cr_STANDS : RelV (Cst.v (.int 60)) u_STANDS)
    {u_MOST : Value}
    (co_MOST : PySem.W.nsIn K mainGlobals "MOST" = some (some u_MOST))
    (cr_MOST : RelV (Cst.v (.int 999999)) u_MOST)
    {u_SIGNS : Value}
    (co_SIGNS : PySem.W.nsIn K mainGlobals "SIGNS" = some (some u_SIGNS))
    (cr_SIGNS : RelV (Cst.v (.str "abcdefghijklmnopqrstuvwxyz")) u_SIGNS)
    {f_law : Addr}
    {od_law an_law : Option Addr}
    {sl_law : Array (Option Value)}
    {oc_law kV_law dc_law pm_law cd_law ct_law : Value}
    (a_law : PySem.W.nsIn K mainGlobals "law" = some (some (.ref f_law)))
    (l_law : K.lookup f_law = some ⟨oc_law, od_law, .func (PySem.W.fnOf "law" "law" (defArgs s_law) (defBody s_law) (defScope s_law) .none kV_law dc_law pm_law an_law cd_law ct_law), sl_law⟩)
    (c_law : PySem.W.codeIn K cd_law "law" = true)
    (k_law : PySem.W.keepIn K (.ref f_law) = true)
    {f_l_deal : Addr}
    {od_l_deal an_l_deal : Option Addr}
    {sl_l_deal : Array (Option Value)}
    {oc_l_deal kV_l_deal dc_l_deal pm_l_deal cd_l_deal ct_l_deal : Value}
    (a_l_deal : PySem.W.nsIn K mainGlobals "_law_deal" = some (some (.ref f_l_deal)))
    (l_l_deal : K.lookup f_l_deal = some ⟨oc_l_deal, od_l_deal, .func (PySem.W.fnOf "_law_deal" "_law_deal" (defArgs s_l_deal) (defBody s_l_deal) (defScope s_l_deal) .none kV_l_deal dc_l_deal pm_l_deal an_l_deal cd_l_deal ct_l_deal), sl_l_deal⟩)
    (c_l_deal : PySem.W.codeIn K cd_l_deal "_law_deal" = true)
    (k_l_deal : PySem.W.keepIn K (.ref f_l_deal) = true)
    {f_l_any_device : Addr}
    {od_l_any_device an_l_any_device : Option Addr}
    {sl_l_any_device : Array (Option Value)}
    {oc_l_any_device kV_l_any_device dc_l_any_device pm_l_any_device cd_l_any_device ct_l_any_device : Value}
    (a_l_any_device : PySem.W.nsIn K mainGlobals "_law_any_device" = some (some (.ref f_l_any_device)))
    (l_l_any_device : K.lookup f_l_any_device = some ⟨oc_l_any_device, od_l_any_device, .func (PySem.W.fnOf "_law_any_device" "_law_any_device" (defArgs s_l_any_device) (defBody s_l_any_device) (defScope s_l_any_device) .none kV_l_any_device dc_l_any_device pm_l_any_device an_l_any_device cd_l_any_device ct_l_any_device), sl_l_any_device⟩)
    (c_l_any_device : PySem.W.codeIn K cd_l_any_device "_law_any_device" = true)
    (k_l_any_device : PySem.W.keepIn K (.ref f_l_any_device) = true)
    {f_l_made : Addr}
    {od_l_made an_l_made : Option Addr}
    {sl_l_made : Array (Option Value)}
    {oc_l_made kV_l_made dc_l_made pm_l_made cd_l_made ct_l_made : Value}
    (a_l_made : PySem.W.nsIn K mainGlobals "_law_made" = some (some (.ref f_l_made)))
    (l_l_made : K.lookup f_l_made = some ⟨oc_l_made, od_l_made, .func (PySem.W.fnOf "_law_made" "_law_made" (defArgs s_l_made) (defBody s_l_made) (defScope s_l_made) .none kV_l_made dc_l_made pm_l_made an_l_made cd_l_made ct_l_made), sl_l_made⟩)
    (c_l_made : PySem.W.codeIn K cd_l_made "_law_made" = true)
    (k_l_made : PySem.W.keepIn K (.ref f_l_made) = true)
    {f_l_again : Addr}
    {od_l_again an_l_again : Option Addr}
    {sl_l_again : Array (Option Value)}
    {oc_l_again kV_l_again dc_l_again pm_l_again cd_l_again ct_l_again : Value}
    (a_l_again : PySem.W.nsIn K mainGlobals "_law_again" = some (some (.ref f_l_again)))
    (l_l_again : K.lookup f_l_again = some ⟨oc_l_again, od_l_again, .func (PySem.W.fnOf "_law_again" "_law_again" (defArgs s_l_again) (defBody s_l_again) (defScope s_l_again) .none kV_l_again dc_l_again pm_l_again an_l_again cd_l_again ct_l_again), sl_l_again⟩)
    (c_l_again : PySem.W.codeIn K cd_l_again "_law_again" = true)
    (k_l_again : PySem.W.keepIn K (.ref f_l_again) = true)
    {f_coming_again : Addr}
    {od_coming_again an_coming_again : Option Addr}
    {sl_coming_again : Array (Option Value)}
    {oc_coming_again kV_coming_again dc_coming_again pm_coming_again cd_coming_again ct_coming_again : Value}
    (a_coming_again : PySem.W.nsIn K mainGlobals "coming_again" = some (some (.ref f_coming_again)))
    (l_coming_again : K.lookup f_coming_again = some ⟨oc_coming_again, od_coming_again, .func (PySem.W.fnOf "coming_again" "coming_again" (defArgs s_coming_again) (defBody s_coming_again) (defScope s_coming_again) .none kV_coming_again dc_coming_again pm_coming_again an_coming_again cd_coming_again ct_coming_again), sl_coming_again⟩)
    (c_coming_again : PySem.W.codeIn K cd_coming_again "coming_again" = true)
    (k_coming_again : PySem.W.keepIn K (.ref f_coming_again) = true)
    {f_l_like : Addr}
    {od_l_like an_l_like : Option Addr}
    {sl_l_like : Array (Option Value)}
    {oc_l_like kV_l_like dc_l_like pm_l_like cd_l_like ct_l_like : Value}
    (a_l_like : PySem.W.nsIn K mainGlobals "_law_like" = some (some (.ref f_l_like)))
    (l_l_like : K.lookup f_l_like = some ⟨oc_l_like, od_l_like, .func (PySem.W.fnOf "_law_like" "_law_like" (defArgs s_l_like) (defBody s_l_like) (defScope s_l_like) .none kV_l_like dc_l_like pm_l_like an_l_like cd_l_like ct_l_like), sl_l_like⟩)
    (c_l_like : PySem.W.codeIn K cd_l_like "_law_like" = true)
    (k_l_like : PySem.W.keepIn K (.ref f_l_like) = true)
    {f_l_names : Addr}
    {od_l_names an_l_names : Option Addr}
    {sl_l_names : Array (Option Value)}
    {oc_l_names kV_l_names dc_l_names pm_l_names cd_l_names ct_l_names : Value}
    (a_l_names : PySem.W.nsIn K mainGlobals "_law_names" = some (some (.ref f_l_names)))
    (l_l_names : K.lookup f_l_names = some ⟨oc_l_names, od_l_names, .func (PySem.W.fnOf "_law_names" "_law_names" (defArgs s_l_names) (defBody s_l_names) (defScope s_l_names) .none kV_l_names dc_l_names pm_l_names an_l_names cd_l_names ct_l_names), sl_l_names⟩)
    (c_l_names : PySem.W.codeIn K cd_l_names "_law_names" = true)
    (k_l_names : PySem.W.keepIn K (.ref f_l_names) = true)
    {f_l_of : Addr}
    {od_l_of an_l_of : Option Addr}
    {sl_l_of : Array (Option Value)}
    {oc_l_of kV_l_of dc_l_of pm_l_of cd_l_of ct_l_of : Value}
    (a_l_of : PySem.W.nsIn K mainGlobals "_law_of" = some (some (.ref f_l_of)))
    (l_l_of : K.lookup f_l_of = some ⟨oc_l_of, od_l_of, .func (PySem.W.fnOf "_law_of" "_law_of" (defArgs s_l_of) (defBody s_l_of) (defScope s_l_of) .none kV_l_of dc_l_of pm_l_of an_l_of cd_l_of ct_l_of), sl_l_of⟩)
    (c_l_of : PySem.W.codeIn K cd_l_of "_law_of" = true)
    (k_l_of : PySem.W.keepIn K (.ref f_l_of) = true)
    {f_l_shuffled : Addr}
    {od_l_shuffled an_l_shuffled : Option Addr}
    {sl_l_shuffled : Array (Option Value)}
    {oc_l_shuffled kV_l_shuffled dc_l_shuffled pm_l_shuffled cd_l_shuffled ct_l_shuffled : Value}
    (a_l_shuffled : PySem.W.nsIn K mainGlobals "_law_shuffled" = some (some (.ref f_l_shuffled)))
    (l_l_shuffled : K.lookup f_l_shuffled = some ⟨oc_l_shuffled, od_l_shuffled, .func (PySem.W.fnOf "_law_shuffled" "_law_shuffled" (defArgs s_l_shuffled) (defBody s_l_shuffled) (defScope s_l_shuffled) .none kV_l_shuffled dc_l_shuffled pm_l_shuffled an_l_shuffled cd_l_shuffled ct_l_shuffled), sl_l_shuffled⟩)
    (c_l_shuffled : PySem.W.codeIn K cd_l_shuffled "_law_shuffled" = true)
    (k_l_shuffled : PySem.W.keepIn K (.ref f_l_shuffled) = true)
    {f_l_pick : Addr}
    {od_l_pick an_l_pick : Option Addr}
    {sl_l_pick : Array (Option Value)}
    {oc_l_pick kV_l_pick dc_l_pick pm_l_pick cd_l_pick ct_l_pick : Value}
    (a_l_pick : PySem.W.nsIn K mainGlobals "_law_pick" = some (some (.ref f_l_pick)))
    (l_l_pick : K.lookup f_l_pick = some ⟨oc_l_pick, od_l_pick, .func (PySem.W.fnOf "_law_pick" "_law_pick" (defArgs s_l_pick) (defBody s_l_pick) (defScope s_l_pick) .none kV_l_pick dc_l_pick pm_l_pick an_l_pick cd_l_pick ct_l_pick), sl_l_pick⟩)
    (c_l_pick : PySem.W.codeIn K cd_l_pick "_law_pick" = true)
    (k_l_pick : PySem.W.keepIn K (.ref f_l_pick) = true)
    {f_l_device : Addr}
    {od_l_device an_l_device : Option Addr}
    {sl_l_device : Array (Option Value)}
    {oc_l_device kV_l_device dc_l_device pm_l_device cd_l_device ct_l_device : Value}
    (a_l_device : PySem.W.nsIn K mainGlobals "_law_device" = some (some (.ref f_l_device)))
    (l_l_device : K.lookup f_l_device = some ⟨oc_l_device, od_l_device, .func (PySem.W.fnOf "_law_device" "_law_device" (defArgs s_l_device) (defBody s_l_device) (defScope s_l_device) .none kV_l_device dc_l_device pm_l_device an_l_device cd_l_device ct_l_device), sl_l_device⟩)
    (c_l_device : PySem.W.codeIn K cd_l_device "_law_device" = true)
    (k_l_device : PySem.W.keepIn K (.ref f_l_device) = true)
    {f_Machine_init : Addr}
    {od_Machine_init an_Machine_init : Option Addr}
    {sl_Machine_init : Array (Option Value)}
    {oc_Machine_init kV_Machine_init dc_Machine_init pm_Machine_init cd_Machine_init ct_Machine_init : Value}
    (m_Machine_init : PySem.W.findIn K (.ref C_Machine) "__init__" = some (some (.ref f_Machine_init)))
    (n_Machine_init : PySem.W.isFn K (.ref f_Machine_init) = true)
    (l_Machine_init : K.lookup f_Machine_init = some ⟨oc_Machine_init, od_Machine_init, .func (PySem.W.fnOf "__init__" "Machine.__init__" (defArgs s_Machine_init) (defBody s_Machine_init) (defScope s_Machine_init) .none kV_Machine_init dc_Machine_init pm_Machine_init an_Machine_init cd_Machine_init ct_Machine_init), sl_Machine_init⟩)
    (c_Machine_init : PySem.W.codeIn K cd_Machine_init "Machine.__init__" = true)
    (k_Machine_init : PySem.W.keepIn K (.ref f_Machine_init) = true)
    {f_l_reached : Addr}
    {od_l_reached an_l_reached : Option Addr}
    {sl_l_reached : Array (Option Value)}
    {oc_l_reached kV_l_reached dc_l_reached pm_l_reached cd_l_reached ct_l_reached : Value}
    (a_l_reached : PySem.W.nsIn K mainGlobals "_law_reached" = some (some (.ref f_l_reached)))
    (l_l_reached : K.lookup f_l_reached = some ⟨oc_l_reached, od_l_reached, .func (PySem.W.fnOf "_law_reached" "_law_reached" (defArgs s_l_reached) (defBody s_l_reached) (defScope s_l_reached) .none kV_l_reached dc_l_reached pm_l_reached an_l_reached cd_l_reached ct_l_reached), sl_l_reached⟩)
    (c_l_reached : PySem.W.codeIn K cd_l_reached "_law_reached" = true)
    (k_l_reached : PySem.W.keepIn K (.ref f_l_reached) = true)
    {f_come_to : Addr}
    {od_come_to an_come_to : Option Addr}
    {sl_come_to : Array (Option Value)}
    {oc_come_to kV_come_to dc_come_to pm_come_to cd_come_to ct_come_to : Value}
    (a_come_to : PySem.W.nsIn K mainGlobals "come_to" = some (some (.ref f_come_to)))
    (l_come_to : K.lookup f_come_to = some ⟨oc_come_to, od_come_to, .func (PySem.W.fnOf "come_to" "come_to" (defArgs s_come_to) (defBody s_come_to) (defScope s_come_to) .none kV_come_to dc_come_to pm_come_to an_come_to cd_come_to ct_come_to), sl_come_to⟩)
    (c_come_to : PySem.W.codeIn K cd_come_to "come_to" = true)
    (k_come_to : PySem.W.keepIn K (.ref f_come_to) = true)
    {f_Machine_rows : Addr}
    {od_Machine_rows an_Machine_rows : Option Addr}
    {sl_Machine_rows : Array (Option Value)}
    {oc_Machine_rows kV_Machine_rows dc_Machine_rows pm_Machine_rows cd_Machine_rows ct_Machine_rows : Value}
    (m_Machine_rows : PySem.W.findIn K (.ref C_Machine) "rows" = some (some (.ref f_Machine_rows)))
    (n_Machine_rows : PySem.W.isFn K (.ref f_Machine_rows) = true)
    (l_Machine_rows : K.lookup f_Machine_rows = some ⟨oc_Machine_rows, od_Machine_rows, .func (PySem.W.fnOf "rows" "Machine.rows" (defArgs s_Machine_rows) (defBody s_Machine_rows) (defScope s_Machine_rows) .none kV_Machine_rows dc_Machine_rows pm_Machine_rows an_Machine_rows cd_Machine_rows ct_Machine_rows), sl_Machine_rows⟩)
    (c_Machine_rows : PySem.W.codeIn K cd_Machine_rows "Machine.rows" = true)
    (k_Machine_rows : PySem.W.keepIn K (.ref f_Machine_rows) = true)
    {f_some_again : Addr}
    {od_some_again an_some_again : Option Addr}
    {sl_some_again : Array (Option Value)}
    {oc_some_again kV_some_again dc_some_again pm_some_again cd_some_again ct_some_again : Value}
    (a_some_again : PySem.W.nsIn K mainGlobals "some_again" = some (some (.ref f_some_again)))
    (l_some_again : K.lookup f_some_again = some ⟨oc_some_again, od_some_again, .func (PySem.W.fnOf "some_again" "some_again" (defArgs s_some_again) (defBody s_some_again) (defScope s_some_again) .none kV_some_again dc_some_again pm_some_again an_some_again cd_some_again ct_some_again), sl_some_again⟩)
    (c_some_again : PySem.W.codeIn K cd_some_again "some_again" = true)
    (k_some_again : PySem.W.keepIn K (.ref f_some_again) = true)
    {f_l_rule : Addr}
    {od_l_rule an_l_rule : Option Addr}
    {sl_l_rule : Array (Option Value)}
    {oc_l_rule kV_l_rule dc_l_rule pm_l_rule cd_l_rule ct_l_rule : Value}
    (a_l_rule : PySem.W.nsIn K mainGlobals "_law_rule" = some (some (.ref f_l_rule)))
    (l_l_rule : K.lookup f_l_rule = some ⟨oc_l_rule, od_l_rule, .func (PySem.W.fnOf "_law_rule" "_law_rule" (defArgs s_l_rule) (defBody s_l_rule) (defScope s_l_rule) .none kV_l_rule dc_l_rule pm_l_rule an_l_rule cd_l_rule ct_l_rule), sl_l_rule⟩)
    (c_l_rule : PySem.W.codeIn K cd_l_rule "_law_rule" = true)
    (k_l_rule : PySem.W.keepIn K (.ref f_l_rule) = true)
    {f_l_raw : Addr}
    {od_l_raw an_l_raw : Option Addr}
    {sl_l_raw : Array (Option Value)}
    {oc_l_raw kV_l_raw dc_l_raw pm_l_raw cd_l_raw ct_l_raw : Value}
    (a_l_raw : PySem.W.nsIn K mainGlobals "_law_raw" = some (some (.ref f_l_raw)))
    (l_l_raw : K.lookup f_l_raw = some ⟨oc_l_raw, od_l_raw, .func (PySem.W.fnOf "_law_raw" "_law_raw" (defArgs s_l_raw) (defBody s_l_raw) (defScope s_l_raw) .none kV_l_raw dc_l_raw pm_l_raw an_l_raw cd_l_raw ct_l_raw), sl_l_raw⟩)
    (c_l_raw : PySem.W.codeIn K cd_l_raw "_law_raw" = true)
    (k_l_raw : PySem.W.keepIn K (.ref f_l_raw) = true)
    {f_l_renumbered : Addr}
    {od_l_renumbered an_l_renumbered : Option Addr}
    {sl_l_renumbered : Array (Option Value)}
    {oc_l_renumbered kV_l_renumbered dc_l_renumbered pm_l_renumbered cd_l_renumbered ct_l_renumbered : Value}
    (a_l_renumbered : PySem.W.nsIn K mainGlobals "_law_renumbered" = some (some (.ref f_l_renumbered)))
    (l_l_renumbered : K.lookup f_l_renumbered = some ⟨oc_l_renumbered, od_l_renumbered, .func (PySem.W.fnOf "_law_renumbered" "_law_renumbered" (defArgs s_l_renumbered) (defBody s_l_renumbered) (defScope s_l_renumbered) .none kV_l_renumbered dc_l_renumbered pm_l_renumbered an_l_renumbered cd_l_renumbered ct_l_renumbered), sl_l_renumbered⟩)
    (c_l_renumbered : PySem.W.codeIn K cd_l_renumbered "_law_renumbered" = true)
    (k_l_renumbered : PySem.W.keepIn K (.ref f_l_renumbered) = true)
    {f_need_names : Addr}
    {od_need_names an_need_names : Option Addr}
    {sl_need_names : Array (Option Value)}
    {oc_need_names kV_need_names dc_need_names pm_need_names cd_need_names ct_need_names : Value}
    (a_need_names : PySem.W.nsIn K mainGlobals "need_names" = some (some (.ref f_need_names)))
    (l_need_names : K.lookup f_need_names = some ⟨oc_need_names, od_need_names, .func (PySem.W.fnOf "need_names" "need_names" (defArgs s_need_names) (defBody s_need_names) (defScope s_need_names) .none kV_need_names dc_need_names pm_need_names an_need_names cd_need_names ct_need_names), sl_need_names⟩)
    (c_need_names : PySem.W.codeIn K cd_need_names "need_names" = true)
    (k_need_names : PySem.W.keepIn K (.ref f_need_names) = true)
    {f_good_row : Addr}
    {od_good_row an_good_row : Option Addr}
    {sl_good_row : Array (Option Value)}
    {oc_good_row kV_good_row dc_good_row pm_good_row cd_good_row ct_good_row : Value}
    (a_good_row : PySem.W.nsIn K mainGlobals "good_row" = some (some (.ref f_good_row)))
    (l_good_row : K.lookup f_good_row = some ⟨oc_good_row, od_good_row, .func (PySem.W.fnOf "good_row" "good_row" (defArgs s_good_row) (defBody s_good_row) (defScope s_good_row) .none kV_good_row dc_good_row pm_good_row an_good_row cd_good_row ct_good_row), sl_good_row⟩)
    (c_good_row : PySem.W.codeIn K cd_good_row "good_row" = true)
    (k_good_row : PySem.W.keepIn K (.ref f_good_row) = true)
    {f_heeded : Addr}
    {od_heeded an_heeded : Option Addr}
    {sl_heeded : Array (Option Value)}
    {oc_heeded kV_heeded dc_heeded pm_heeded cd_heeded ct_heeded : Value}
    (a_heeded : PySem.W.nsIn K mainGlobals "heeded" = some (some (.ref f_heeded)))
    (l_heeded : K.lookup f_heeded = some ⟨oc_heeded, od_heeded, .func (PySem.W.fnOf "heeded" "heeded" (defArgs s_heeded) (defBody s_heeded) (defScope s_heeded) .none kV_heeded dc_heeded pm_heeded an_heeded cd_heeded ct_heeded), sl_heeded⟩)
    (c_heeded : PySem.W.codeIn K cd_heeded "heeded" = true)
    (k_heeded : PySem.W.keepIn K (.ref f_heeded) = true)
    {f_fresh_ones : Addr}
    {od_fresh_ones an_fresh_ones : Option Addr}
    {sl_fresh_ones : Array (Option Value)}
    {oc_fresh_ones kV_fresh_ones dc_fresh_ones pm_fresh_ones cd_fresh_ones ct_fresh_ones : Value}
    (a_fresh_ones : PySem.W.nsIn K mainGlobals "fresh_ones" = some (some (.ref f_fresh_ones)))
    (l_fresh_ones : K.lookup f_fresh_ones = some ⟨oc_fresh_ones, od_fresh_ones, .func (PySem.W.fnOf "fresh_ones" "fresh_ones" (defArgs s_fresh_ones) (defBody s_fresh_ones) (defScope s_fresh_ones) .none kV_fresh_ones dc_fresh_ones pm_fresh_ones an_fresh_ones cd_fresh_ones ct_fresh_ones), sl_fresh_ones⟩)
    (c_fresh_ones : PySem.W.codeIn K cd_fresh_ones "fresh_ones" = true)
    (k_fresh_ones : PySem.W.keepIn K (.ref f_fresh_ones) = true)
    {f_Machine_moved : Addr}
    {od_Machine_moved an_Machine_moved : Option Addr}
    {sl_Machine_moved : Array (Option Value)}
    {oc_Machine_moved dc_Machine_moved pm_Machine_moved cd_Machine_moved ct_Machine_moved : Value}
    (m_Machine_moved : PySem.W.findIn K (.ref C_Machine) "moved" = some (some (.ref f_Machine_moved)))
    (n_Machine_moved : PySem.W.isFn K (.ref f_Machine_moved) = true)
    {kD_Machine_moved : Addr}
    (l_Machine_moved : K.lookup f_Machine_moved = some ⟨oc_Machine_moved, od_Machine_moved, .func (PySem.W.fnOf "moved" "Machine.moved" (defArgs s_Machine_moved) (defBody s_Machine_moved) (defScope s_Machine_moved) .none (.ref kD_Machine_moved) dc_Machine_moved pm_Machine_moved an_Machine_moved cd_Machine_moved ct_Machine_moved), sl_Machine_moved⟩)
    (c_Machine_moved : PySem.W.codeIn K cd_Machine_moved "Machine.moved" = true)
    (k_Machine_moved : PySem.W.keepIn K (.ref f_Machine_moved) = true)
    {ku_Machine_moved_stand : Value}
    (kn_Machine_moved_stand : PySem.W.nsIn K kD_Machine_moved "stand" = some (some ku_Machine_moved_stand))
    (kr_Machine_moved_stand : RelV (Cst.v (.int 0)) ku_Machine_moved_stand)
    {f_Machine_letters : Addr}
    {od_Machine_letters an_Machine_letters : Option Addr}
    {sl_Machine_letters : Array (Option Value)}
    {oc_Machine_letters kV_Machine_letters dc_Machine_letters pm_Machine_letters cd_Machine_letters ct_Machine_letters : Value}
    (m_Machine_letters : PySem.W.findIn K (.ref C_Machine) "letters" = some (some (.ref f_Machine_letters)))
    (n_Machine_letters : PySem.W.isFn K (.ref f_Machine_letters) = true)
    (l_Machine_letters : K.lookup f_Machine_letters = some ⟨oc_Machine_letters, od_Machine_letters, .func (PySem.W.fnOf "letters" "Machine.letters" (defArgs s_Machine_letters) (defBody s_Machine_letters) (defScope s_Machine_letters) .none kV_Machine_letters dc_Machine_letters pm_Machine_letters an_Machine_letters cd_Machine_letters ct_Machine_letters), sl_Machine_letters⟩)
    (c_Machine_letters : PySem.W.codeIn K cd_Machine_letters "Machine.letters" = true)
    (k_Machine_letters : PySem.W.keepIn K (.ref f_Machine_letters) = true)
    {f_Machine_len : Addr}
    {od_Machine_len an_Machine_len : Option Addr}
    {sl_Machine_len : Array (Option Value)}
    {oc_Machine_len kV_Machine_len dc_Machine_len pm_Machine_len cd_Machine_len ct_Machine_len : Value}
    (m_Machine_len : PySem.W.findIn K (.ref C_Machine) "__len__" = some (some (.ref f_Machine_len)))
    (n_Machine_len : PySem.W.isFn K (.ref f_Machine_len) = true)
    (l_Machine_len : K.lookup f_Machine_len = some ⟨oc_Machine_len, od_Machine_len, .func (PySem.W.fnOf "__len__" "Machine.__len__" (defArgs s_Machine_len) (defBody s_Machine_len) (defScope s_Machine_len) .none kV_Machine_len dc_Machine_len pm_Machine_len an_Machine_len cd_Machine_len ct_Machine_len), sl_Machine_len⟩)
    (c_Machine_len : PySem.W.codeIn K cd_Machine_len "Machine.__len__" = true)
    (k_Machine_len : PySem.W.keepIn K (.ref f_Machine_len) = true)
    {f_l_weight : Addr}
    {od_l_weight an_l_weight : Option Addr}
    {sl_l_weight : Array (Option Value)}
    {oc_l_weight kV_l_weight dc_l_weight pm_l_weight cd_l_weight ct_l_weight : Value}
    (a_l_weight : PySem.W.nsIn K mainGlobals "_law_weight" = some (some (.ref f_l_weight)))
    (l_l_weight : K.lookup f_l_weight = some ⟨oc_l_weight, od_l_weight, .func (PySem.W.fnOf "_law_weight" "_law_weight" (defArgs s_l_weight) (defBody s_l_weight) (defScope s_l_weight) .none kV_l_weight dc_l_weight pm_l_weight an_l_weight cd_l_weight ct_l_weight), sl_l_weight⟩)
    (c_l_weight : PySem.W.codeIn K cd_l_weight "_law_weight" = true)
    (k_l_weight : PySem.W.keepIn K (.ref f_l_weight) = true)
    {f_l_down : Addr}
    {od_l_down an_l_down : Option Addr}
    {sl_l_down : Array (Option Value)}
    {oc_l_down kV_l_down dc_l_down pm_l_down cd_l_down ct_l_down : Value}
    (a_l_down : PySem.W.nsIn K mainGlobals "_law_down" = some (some (.ref f_l_down)))
    (l_l_down : K.lookup f_l_down = some ⟨oc_l_down, od_l_down, .func (PySem.W.fnOf "_law_down" "_law_down" (defArgs s_l_down) (defBody s_l_down) (defScope s_l_down) .none kV_l_down dc_l_down pm_l_down an_l_down cd_l_down ct_l_down), sl_l_down⟩)
    (c_l_down : PySem.W.codeIn K cd_l_down "_law_down" = true)
    (k_l_down : PySem.W.keepIn K (.ref f_l_down) = true)
    {f_l_gain : Addr}
    {od_l_gain an_l_gain : Option Addr}
    {sl_l_gain : Array (Option Value)}
    {oc_l_gain kV_l_gain dc_l_gain pm_l_gain cd_l_gain ct_l_gain : Value}
    (a_l_gain : PySem.W.nsIn K mainGlobals "_law_gain" = some (some (.ref f_l_gain)))
    (l_l_gain : K.lookup f_l_gain = some ⟨oc_l_gain, od_l_gain, .func (PySem.W.fnOf "_law_gain" "_law_gain" (defArgs s_l_gain) (defBody s_l_gain) (defScope s_l_gain) .none kV_l_gain dc_l_gain pm_l_gain an_l_gain cd_l_gain ct_l_gain), sl_l_gain⟩)
    (c_l_gain : PySem.W.codeIn K cd_l_gain "_law_gain" = true)
    (k_l_gain : PySem.W.keepIn K (.ref f_l_gain) = true)
    {f_is_name : Addr}
    {od_is_name an_is_name : Option Addr}
    {sl_is_name : Array (Option Value)}
    {oc_is_name kV_is_name dc_is_name pm_is_name cd_is_name ct_is_name : Value}
    (a_is_name : PySem.W.nsIn K mainGlobals "is_name" = some (some (.ref f_is_name)))
    (l_is_name : K.lookup f_is_name = some ⟨oc_is_name, od_is_name, .func (PySem.W.fnOf "is_name" "is_name" (defArgs s_is_name) (defBody s_is_name) (defScope s_is_name) .none kV_is_name dc_is_name pm_is_name an_is_name cd_is_name ct_is_name), sl_is_name⟩)
    (c_is_name : PySem.W.codeIn K cd_is_name "is_name" = true)
    (k_is_name : PySem.W.keepIn K (.ref f_is_name) = true)
    {f_both_ways : Addr}
    {od_both_ways an_both_ways : Option Addr}
    {sl_both_ways : Array (Option Value)}
    {oc_both_ways kV_both_ways dc_both_ways pm_both_ways cd_both_ways ct_both_ways : Value}
    (a_both_ways : PySem.W.nsIn K mainGlobals "both_ways" = some (some (.ref f_both_ways)))
    (l_both_ways : K.lookup f_both_ways = some ⟨oc_both_ways, od_both_ways, .func (PySem.W.fnOf "both_ways" "both_ways" (defArgs s_both_ways) (defBody s_both_ways) (defScope s_both_ways) .none kV_both_ways dc_both_ways pm_both_ways an_both_ways cd_both_ways ct_both_ways), sl_both_ways⟩)
    (c_both_ways : PySem.W.codeIn K cd_both_ways "both_ways" = true)
    (k_both_ways : PySem.W.keepIn K (.ref f_both_ways) = true)
    {f_Machine_need_stand : Addr}
    {od_Machine_need_stand an_Machine_need_stand : Option Addr}
    {sl_Machine_need_stand : Array (Option Value)}
    {oc_Machine_need_stand kV_Machine_need_stand dc_Machine_need_stand pm_Machine_need_stand cd_Machine_need_stand ct_Machine_need_stand : Value}
    (m_Machine_need_stand : PySem.W.findIn K (.ref C_Machine) "need_stand" = some (some (.ref f_Machine_need_stand)))
    (n_Machine_need_stand : PySem.W.isFn K (.ref f_Machine_need_stand) = true)
    (l_Machine_need_stand : K.lookup f_Machine_need_stand = some ⟨oc_Machine_need_stand, od_Machine_need_stand, .func (PySem.W.fnOf "need_stand" "Machine.need_stand" (defArgs s_Machine_need_stand) (defBody s_Machine_need_stand) (defScope s_Machine_need_stand) .none kV_Machine_need_stand dc_Machine_need_stand pm_Machine_need_stand an_Machine_need_stand cd_Machine_need_stand ct_Machine_need_stand), sl_Machine_need_stand⟩)
    (c_Machine_need_stand : PySem.W.codeIn K cd_Machine_need_stand "Machine.need_stand" = true)
    (k_Machine_need_stand : PySem.W.keepIn K (.ref f_Machine_need_stand) = true)
    {f_far_moved : Addr}
    {od_far_moved an_far_moved : Option Addr}
    {sl_far_moved : Array (Option Value)}
    {oc_far_moved kV_far_moved dc_far_moved pm_far_moved cd_far_moved ct_far_moved : Value}
    (a_far_moved : PySem.W.nsIn K mainGlobals "far_moved" = some (some (.ref f_far_moved)))
    (l_far_moved : K.lookup f_far_moved = some ⟨oc_far_moved, od_far_moved, .func (PySem.W.fnOf "far_moved" "far_moved" (defArgs s_far_moved) (defBody s_far_moved) (defScope s_far_moved) .none kV_far_moved dc_far_moved pm_far_moved an_far_moved cd_far_moved ct_far_moved), sl_far_moved⟩)
    (c_far_moved : PySem.W.codeIn K cd_far_moved "far_moved" = true)
    (k_far_moved : PySem.W.keepIn K (.ref f_far_moved) = true)
    {f_added : Addr}
    {od_added an_added : Option Addr}
    {sl_added : Array (Option Value)}
    {oc_added kV_added dc_added pm_added cd_added ct_added : Value}
    (a_added : PySem.W.nsIn K mainGlobals "added" = some (some (.ref f_added)))
    (l_added : K.lookup f_added = some ⟨oc_added, od_added, .func (PySem.W.fnOf "added" "added" (defArgs s_added) (defBody s_added) (defScope s_added) .none kV_added dc_added pm_added an_added cd_added ct_added), sl_added⟩)
    (c_added : PySem.W.codeIn K cd_added "added" = true)
    (k_added : PySem.W.keepIn K (.ref f_added) = true)
    {f_l_times_of : Addr}
    {od_l_times_of an_l_times_of : Option Addr}
    {sl_l_times_of : Array (Option Value)}
    {oc_l_times_of kV_l_times_of dc_l_times_of pm_l_times_of cd_l_times_of ct_l_times_of : Value}
    (a_l_times_of : PySem.W.nsIn K mainGlobals "_law_times_of" = some (some (.ref f_l_times_of)))
    (l_l_times_of : K.lookup f_l_times_of = some ⟨oc_l_times_of, od_l_times_of, .func (PySem.W.fnOf "_law_times_of" "_law_times_of" (defArgs s_l_times_of) (defBody s_l_times_of) (defScope s_l_times_of) .none kV_l_times_of dc_l_times_of pm_l_times_of an_l_times_of cd_l_times_of ct_l_times_of), sl_l_times_of⟩)
    (c_l_times_of : PySem.W.codeIn K cd_l_times_of "_law_times_of" = true)
    (k_l_times_of : PySem.W.keepIn K (.ref f_l_times_of) = true)
    (z_len : PySem.W.nsIn K mainGlobals "len" = some none)
    (z_list : PySem.W.nsIn K mainGlobals "list" = some none)
    (z_tuple : PySem.W.nsIn K mainGlobals "tuple" = some none)
    (z_abs : PySem.W.nsIn K mainGlobals "abs" = some none)
    (z_all : PySem.W.nsIn K mainGlobals "all" = some none)
    (z_any : PySem.W.nsIn K mainGlobals "any" = some none)
    (z_sum : PySem.W.nsIn K mainGlobals "sum" = some none)
    (z_isinstance : PySem.W.nsIn K mainGlobals "isinstance" = some none)
    (z_int : PySem.W.nsIn K mainGlobals "int" = some none)
    (z_max : PySem.W.nsIn K mainGlobals "max" = some none)
    (z_min : PySem.W.nsIn K mainGlobals "min" = some none)
    (z_sorted : PySem.W.nsIn K mainGlobals "sorted" = some none)
    (z_str : PySem.W.nsIn K mainGlobals "str" = some none)
    (z_range : PySem.W.nsIn K mainGlobals "range" = some none)
    (z_enumerate : PySem.W.nsIn K mainGlobals "enumerate" = some none)
    (z_zip : PySem.W.nsIn K mainGlobals "zip" = some none)
    (z_bool : PySem.W.nsIn K mainGlobals "bool" = some none)
    (z_dict : PySem.W.nsIn K mainGlobals "dict" = some none)
    : ∃ fd : FuncData, (∀ (s : Shared) (v : Value), BindsTo s fd ⟨[v], []⟩ [("_law_script", v)]) ∧ ∀ base : Heap, K.In base → base.Ns mainGlobals mg → FnOk Pr w K mg base (L2.CX Pr w) 42 fa fd ["_law_script"] (spLaw K) := by
  obtain ⟨A, fa', fd, e, D, B⟩ := all_mk X Gl xa_Machine pg_Machine hd_Machine po_Machine sa_Machine mz_Machine kp_Machine nf_Machine_inward nf_Machine_outward nf_Machine_table co_LETTERS cr_LETTERS co_STANDS cr_STANDS co_MOST cr_MOST co_SIGNS cr_SIGNS a_law l_law c_law k_law a_l_deal l_l_deal c_l_deal k_l_deal a_l_any_device l_l_any_device c_l_any_device k_l_any_device a_l_made l_l_made c_l_made k_l_made a_l_again l_l_again c_l_again k_l_again a_coming_again l_coming_again c_coming_again k_coming_again a_l_like l_l_like c_l_like k_l_like a_l_names l_l_names c_l_names k_l_names a_l_of l_l_of c_l_of k_l_of a_l_shuffled l_l_shuffled c_l_shuffled k_l_shuffled a_l_pick l_l_pick c_l_pick k_l_pick a_l_device l_l_device c_l_device k_l_device m_Machine_init n_Machine_init l_Machine_init c_Machine_init k_Machine_init a_l_reached l_l_reached c_l_reached k_l_reached a_come_to l_come_to c_come_to k_come_to m_Machine_rows n_Machine_rows l_Machine_rows c_Machine_rows k_Machine_rows a_some_again l_some_again c_some_again k_some_again a_l_rule l_l_rule c_l_rule k_l_rule a_l_raw l_l_raw c_l_raw k_l_raw a_l_renumbered l_l_renumbered c_l_renumbered k_l_renumbered a_need_names l_need_names c_need_names k_need_names a_good_row l_good_row c_good_row k_good_row a_heeded l_heeded c_heeded k_heeded a_fresh_ones l_fresh_ones c_fresh_ones k_fresh_ones m_Machine_moved n_Machine_moved l_Machine_moved c_Machine_moved k_Machine_moved kn_Machine_moved_stand kr_Machine_moved_stand m_Machine_letters n_Machine_letters l_Machine_letters c_Machine_letters k_Machine_letters m_Machine_len n_Machine_len l_Machine_len c_Machine_len k_Machine_len a_l_weight l_l_weight c_l_weight k_l_weight a_l_down l_l_down c_l_down k_l_down a_l_gain l_l_gain c_l_gain k_l_gain a_is_name l_is_name c_is_name k_is_name a_both_ways l_both_ways c_both_ways k_both_ways m_Machine_need_stand n_Machine_need_stand l_Machine_need_stand c_Machine_need_stand k_Machine_need_stand a_far_moved l_far_moved c_far_moved k_far_moved a_added l_added c_added k_added a_l_times_of l_l_times_of c_l_times_of k_l_times_of z_len z_list z_tuple z_abs z_all z_any z_sum z_isinstance z_int z_max z_min z_sorted z_str z_range z_enumerate z_zip z_bool z_dict
  have e2 := hfa.symm.trans e
  cases e2
  exact ⟨fd, B, fun base _ _ => law_ok A rfl D hlaw⟩
end
end K08

set_option Elab.async false
set_option linter.all false
set_option maxRecDepth 100000
set_option maxHeartbeats 4000000
namespace K08
open PySem PySem.Spec PyProof.Rows L2 Hv

theorem DevOk_60 {ins outs : List Str} {rows : Rows} {m : Nat} (h : DevOk ins outs rows m) (hm : m ≤ 60) : DevOk ins outs rows 60 := ⟨h.i, h.i1, h.i3, h.o, h.o3, h.t, Nat.le_trans h.m hm⟩
theorem lib : Lib T := ⟨rfl, rfl, rfl, rfl, rfl, rfl, rfl, rfl, rfl, rfl, rfl, rfl, rfl⟩
theorem libM : LibM T := ⟨rfl, rfl, rfl, rfl, ⟨_, rfl⟩, rfl, rfl, rfl, ⟨_, _, _, _, rfl⟩⟩
theorem libA : LibA T := ⟨libM, rfl, rfl, rfl, rfl, ⟨_, rfl⟩, ⟨_, rfl⟩, rfl, rfl⟩
theorem it_at {n i : Nat} {d : D} (h : ((List.range n).map fun (i : Nat) => D.int (i : Int))[i]? = some d) : i < n ∧ d = natD i := by
  rw [List.getElem?_map] at h
  by_cases hi : i < n
  · rw [List.getElem?_range hi] at h
    cases h
    exact ⟨hi, rfl⟩
  · rw [List.getElem?_eq_none (by rw [List.length_range]; omega)] at h
    cases h
/-- told, held against the due, changed -/
theorem step_ok {ins outs : List Str} {rows : Rows} (hD : DevOk ins outs rows 60) {x : List D} {c0 : Ct} {w0 w2 w3 w6 w7 : Option D} :
    ∃ w7' c0', evSs (evF T 19) (.cons (.asg (.nm 7) (.call false 5 ["machine"] [.arg 0] .nil (.cons (.var 4) .nil))) (.cons (.ifs (.not (.call false 6 [] [.arg 0, .arg 1] (.cons (.var 7) (.cons (.var 5) .nil)) .nil)) (.cons (.ret (.cst (.bl false))) .nil) .nil) (.cons (.expr (.bm .append (.var 7) (.cons (.cst (.int 0)) .nil))) .nil))) [w0, some (.ref 0), w2, w3, some (mach ins outs rows), some (.lst ((again rows).map natD)), w6, w7] (.lst x :: c0)
      = .ok (.nx [w0, some (.ref 0), w2, w3, some (mach ins outs rows), some (.lst ((again rows).map natD)), w6, w7']) (.lst x :: c0') := by
  have hm := hD.m
  have e1 := coming_ok (c := .lst x :: c0) libA (k := 19) (by omega) hD
  have he := coming_again_eq hD.t
  have e2 : (comingL ins outs rows).map D.int = (again rows).map natD := by
    rw [he, List.map_map]
    rfl
  rw [e2] at e1
  have hlen : (again rows).length ≤ rows.length := by
    have := List.length_filter_le (againP rows) (List.range rows.length)
    rwa [List.length_range] at this
  have hat : ((.lst x :: c0 : Ct) ++ [Cell.lst ((again rows).map natD)])[(.lst x :: c0 : Ct).length]? = some (Cell.lst ((again rows).map natD)) := at_end _ _
  have e3 := like_seq (T := T) (k := 18) (x := .ref (.lst x :: c0 : Ct).length) (y := .lst ((again rows).map natD)) (c := (.lst x :: c0 : Ct) ++ [Cell.lst ((again rows).map natD)]) rfl (its_ref hat) rfl rfl (by simp; omega) (.inl ⟨by unfold tyD; dsimp only; rw [hat], rfl⟩) fun i u v hu hv => by
    rw [hu] at hv
    cases hv
    rw [List.getElem?_map] at hu
    cases hq : (again rows)[i]? with
    | none => rw [hq] at hu; cases hu
    | some s =>
      rw [hq] at hu
      cases hu
      exact like_int (k := 17) rfl _ _
  refine ⟨some (.ref (.lst x :: c0 : Ct).length), c0 ++ [Cell.lst ((again rows).map natD ++ [.int 0])], ?_⟩
  refine step_nx (sl' := [w0, some (.ref 0), w2, w3, some (mach ins outs rows), some (.lst ((again rows).map natD)), w6, some (.ref (.lst x :: c0 : Ct).length)]) (c' := (.lst x :: c0 : Ct) ++ [Cell.lst ((again rows).map natD)]) (asg_ok (call_ok (ds := []) (zs := [mach ins outs rows]) args_nil (args_cons (var_ok rfl) args_nil) rfl e1) rfl) ?_
  refine step_nx (if_f (notT_ok (callT_ok (call_ok (ds := [.ref (.lst x :: c0 : Ct).length, .lst ((again rows).map natD)]) (args_cons (var_ok rfl) (args_cons (var_ok rfl) args_nil)) args_nil rfl e3))) nil_ok) ?_
  refine step_nx (expr_ok (d := .non) (bm_ok (x := .ref (.lst x :: c0 : Ct).length) (ds := [.int 0]) (var_ok rfl) (lst_ref hat) (args_cons rfl args_nil) ?_)) nil_ok
  rw [app_ok' hat (by simp; omega), set_end]
  rfl
set_option maxHeartbeats 16000000 in
theorem law_holds (ns : List Int) (hn : ns.length ≤ 63) : ∃ c, evF T 20 0 [.scr (ns.map .int)] [] = .ok (.bl true) c := by
  obtain ⟨x0, hx0, e0⟩ := deal_ok (T := T) (k := 18) (q := 1) (s0 := 9144) rfl (by decide) (by decide) hn []
  obtain ⟨sl', c', h1, w2, w3, w4, w5, w6, w7, x, c0, hx, h2, h3⟩ := forR_i (tg := asT (.nm 2)) (b := evSs (evF T 19) (.cons (.asg (.nm 3) (.call false 2 [] [.arg 0, .arg 1] (.cons (.var 1) (.cons (.cst (.int 20)) .nil)) .nil)) (.cons (.par 4 5 (.call false 3 [] [.arg 0] (.cons (.var 3) .nil) .nil) (.call false 4 [] [.arg 0] (.cons (.var 3) .nil) .nil)) (.cons (.for (.nm 6) (.rng1 (.cst (.int 2))) (.cons (.asg (.nm 7) (.call false 5 ["machine"] [.arg 0] .nil (.cons (.var 4) .nil))) (.cons (.ifs (.not (.call false 6 [] [.arg 0, .arg 1] (.cons (.var 7) (.cons (.var 5) .nil)) .nil)) (.cons (.ret (.cst (.bl false))) .nil) .nil) (.cons (.expr (.bm .append (.var 7) (.cons (.cst (.int 0)) .nil))) .nil)))) .nil))))
    (fun _ sl c => ∃ w2 w3 w4 w5 w6 w7 x c0, Dl x ∧ sl = [some (.scr (ns.map .int)), some (.ref 0), w2, w3, w4, w5, w6, w7] ∧ c = .lst x :: c0) ((List.range 5).map fun (i : Nat) => D.int (i : Int)) (fun i d hd sl c hI => by
      obtain ⟨w2, w3, w4, w5, w6, w7, x, c0, hx, rfl, rfl⟩ := hI
      obtain ⟨hi, rfl⟩ := it_at hd
      obtain ⟨x1, ins, outs, rows, hx1, hD, e1⟩ := any_device_ok (k := 19) (c0 := c0) (most := 20) lib (by omega) hx (by omega) (by omega)
      have hD6 := DevOk_60 hD (by omega)
      have hm := hD.m
      have hi3 := hD.i3
      have e2 := made_ok (c := .lst x1 :: c0) (k := 19) libM rfl (by omega) hD6
      have e3 := again_ok (c := .lst x1 :: c0) (k := 19) (T := T) (ins := ins) (outs := outs) rfl rfl (by omega) (by omega) (fun r hr => by have := hD.t.shp r hr; omega) hD.t.hin
      obtain ⟨sl2, c2, g1, v6, v7, c0', g2, g3⟩ := forR_i (tg := asT (.nm 6)) (b := evSs (evF T 19) (.cons (.asg (.nm 7) (.call false 5 ["machine"] [.arg 0] .nil (.cons (.var 4) .nil))) (.cons (.ifs (.not (.call false 6 [] [.arg 0, .arg 1] (.cons (.var 7) (.cons (.var 5) .nil)) .nil)) (.cons (.ret (.cst (.bl false))) .nil) .nil) (.cons (.expr (.bm .append (.var 7) (.cons (.cst (.int 0)) .nil))) .nil))))
        (fun _ sl c => ∃ w6 w7 c0, sl = [some (.scr (ns.map .int)), some (.ref 0), some (natD i), some (dDev ins outs rows), some (mach ins outs rows), some (.lst ((again rows).map natD)), w6, w7] ∧ c = .lst x1 :: c0) ((List.range 2).map fun (i : Nat) => D.int (i : Int)) (fun j d hd sl c hI => by
          obtain ⟨w6, w7, c0, rfl, rfl⟩ := hI
          obtain ⟨hj, rfl⟩ := it_at hd
          obtain ⟨w7', c0', e⟩ := step_ok hD6 (x := x1) (c0 := c0) (w0 := some (.scr (ns.map .int))) (w2 := some (natD i)) (w3 := some (dDev ins outs rows)) (w6 := some (natD j)) (w7 := w7)
          exact ⟨_, _, _, rfl, e, _, _, _, rfl, rfl⟩) (sl := [some (.scr (ns.map .int)), some (.ref 0), some (natD i), some (dDev ins outs rows), some (mach ins outs rows), some (.lst ((again rows).map natD)), w6, w7]) (c := .lst x1 :: c0) ⟨w6, w7, c0, rfl, rfl⟩
      subst g2
      rw [g3] at g1
      refine ⟨[some (.scr (ns.map .int)), some (.ref 0), some (natD i), w3, w4, w5, w6, w7], [some (.scr (ns.map .int)), some (.ref 0), some (natD i), some (dDev ins outs rows), some (mach ins outs rows), some (.lst ((again rows).map natD)), v6, v7], .lst x1 :: c0', rfl, ?_, _, _, _, _, _, _, x1, c0', hx1, rfl, rfl⟩
      refine step_nx (sl' := [some (.scr (ns.map .int)), some (.ref 0), some (natD i), some (dDev ins outs rows), w4, w5, w6, w7]) (c' := .lst x1 :: c0) (asg_ok (call_ok (ds := [.ref 0, .int ((20 : Nat) : Int)]) (args_cons (var_ok rfl) (args_cons rfl args_nil)) args_nil rfl e1) rfl) ?_
      refine step_nx (sl' := [some (.scr (ns.map .int)), some (.ref 0), some (natD i), some (dDev ins outs rows), some (mach ins outs rows), some (.lst ((again rows).map natD)), w6, w7]) (c' := .lst x1 :: c0) (par_ok (call_ok (ds := [dDev ins outs rows]) (args_cons (var_ok rfl) args_nil) args_nil rfl e2) (call_ok (ds := [dDev ins outs rows]) (args_cons (var_ok rfl) args_nil) args_nil rfl e3)) ?_
      exact step_nx (for_ok (rng1_ok (n := 2) rfl (by omega)) g1) nil_ok)
    (sl := [some (.scr (ns.map .int)), some (.ref 0), none, none, none, none, none, none]) (c := .lst x0 :: []) ⟨none, none, none, none, none, none, x0, [], ⟨ns, hx0⟩, rfl, rfl⟩
  subst h2
  rw [h3] at h1
  refine ⟨_, run_rt (d := .bl true) (sl := [some (.scr (ns.map .int)), some (.ref 0), w2, w3, w4, w5, w6, w7]) (c' := .lst x :: c0) (fd := P.fd_law_k08) rfl rfl ?_ rfl⟩
  show evSs (evF T 19) P.b_law_k08 [some (.scr (ns.map .int)), none, none, none, none, none, none, none] [] = _
  unfold P.b_law_k08
  refine step_nx (sl' := [some (.scr (ns.map .int)), some (.ref 0), none, none, none, none, none, none]) (c' := .lst x0 :: []) (asg_ok (call_ok (ds := [.scr (ns.map .int)]) (args_cons (var_ok rfl) args_nil) args_nil rfl e0) rfl) ?_
  exact step_nx (for_ok (rng1_ok (n := 5) rfl (by omega)) h1) (step_rt (ret_ok rfl))
end K08

set_option Elab.async false
set_option linter.all false
set_option maxRecDepth 100000
open PySem PySem.W PyProof.Rows
set_option maxHeartbeats 0 in
theorem PySem.Challenge.cw_heedless_k08_stands_that_come_again_holds : PySem.Challenge.rw_heedless_k08_stands_that_come_again.Holds := by
  w_on; o_law; k_head; (case hw => w_witness2)
  k_fill
  refine L2.walk_of (l := PySem.Challenge.rw_heedless_k08_stands_that_come_again) (n := 63) (k := 42) (x := "_law_script") (CX := fun w => L2.CX PySem.Challenge.rw_heedless_k08_stands_that_come_again.prog w) (sp := fun w => Hv.spLaw _) rfl (by decide) rfl ⟨rfl, by decide, by decide⟩ (fun w h Y => PySem.W.kIn_of Y) ?F (fun _ _ a ns hl _ hS => ⟨a, ns, rfl, hS, hl, fun _ => rfl⟩) (fun _ _ _ _ _ h => Hv.cx_end h)
  case F =>
    intro w mg fa h KX G hmg
    refine' K08.all_end KX G hmg K08.law_holds ?xa_Machine ?pg_Machine ?hd_Machine ?po_Machine ?sa_Machine ?mz_Machine ?kp_Machine ?nf_Machine_inward ?nf_Machine_outward ?nf_Machine_table ?co_LETTERS ?cr_LETTERS ?co_STANDS ?cr_STANDS ?co_MOST ?cr_MOST ?co_SIGNS ?cr_SIGNS ?a_law ?l_law ?c_law ?k_law ?a_l_deal ?l_l_deal ?c_l_deal ?k_l_deal ?a_l_any_device ?l_l_any_device ?c_l_any_device ?k_l_any_device ?a_l_made ?l_l_made ?c_l_made ?k_l_made ?a_l_again ?l_l_again ?c_l_again ?k_l_again ?a_coming_again ?l_coming_again ?c_coming_again ?k_coming_again ?a_l_like ?l_l_like ?c_l_like ?k_l_like ?a_l_names ?l_l_names ?c_l_names ?k_l_names ?a_l_of ?l_l_of ?c_l_of ?k_l_of ?a_l_shuffled ?l_l_shuffled ?c_l_shuffled ?k_l_shuffled ?a_l_pick ?l_l_pick ?c_l_pick ?k_l_pick ?a_l_device ?l_l_device ?c_l_device ?k_l_device ?m_Machine_init ?n_Machine_init ?l_Machine_init ?c_Machine_init ?k_Machine_init ?a_l_reached ?l_l_reached ?c_l_reached ?k_l_reached ?a_come_to ?l_come_to ?c_come_to ?k_come_to ?m_Machine_rows ?n_Machine_rows ?l_Machine_rows ?c_Machine_rows ?k_Machine_rows ?a_some_again ?l_some_again ?c_some_again ?k_some_again ?a_l_rule ?l_l_rule ?c_l_rule ?k_l_rule ?a_l_raw ?l_l_raw ?c_l_raw ?k_l_raw ?a_l_renumbered ?l_l_renumbered ?c_l_renumbered ?k_l_renumbered ?a_need_names ?l_need_names ?c_need_names ?k_need_names ?a_good_row ?l_good_row ?c_good_row ?k_good_row ?a_heeded ?l_heeded ?c_heeded ?k_heeded ?a_fresh_ones ?l_fresh_ones ?c_fresh_ones ?k_fresh_ones ?m_Machine_moved ?n_Machine_moved ?l_Machine_moved ?c_Machine_moved ?k_Machine_moved ?kn_Machine_moved_stand ?kr_Machine_moved_stand ?m_Machine_letters ?n_Machine_letters ?l_Machine_letters ?c_Machine_letters ?k_Machine_letters ?m_Machine_len ?n_Machine_len ?l_Machine_len ?c_Machine_len ?k_Machine_len ?a_l_weight ?l_l_weight ?c_l_weight ?k_l_weight ?a_l_down ?l_l_down ?c_l_down ?k_l_down ?a_l_gain ?l_l_gain ?c_l_gain ?k_l_gain ?a_is_name ?l_is_name ?c_is_name ?k_is_name ?a_both_ways ?l_both_ways ?c_both_ways ?k_both_ways ?m_Machine_need_stand ?n_Machine_need_stand ?l_Machine_need_stand ?c_Machine_need_stand ?k_Machine_need_stand ?a_far_moved ?l_far_moved ?c_far_moved ?k_far_moved ?a_added ?l_added ?c_added ?k_added ?a_l_times_of ?l_l_times_of ?c_l_times_of ?k_l_times_of ?z_len ?z_list ?z_tuple ?z_abs ?z_all ?z_any ?z_sum ?z_isinstance ?z_int ?z_max ?z_min ?z_sorted ?z_str ?z_range ?z_enumerate ?z_zip ?z_bool ?z_dict
    (case xa_Machine => k_is)
    (case pg_Machine => k_is)
    (case hd_Machine => k_is)
    (case po_Machine => k_is)
    (case sa_Machine => k_is)
    (case mz_Machine => k_is)
    (case kp_Machine => k_is)
    (case nf_Machine_inward => k_is)
    (case nf_Machine_outward => k_is)
    (case nf_Machine_table => k_is)
    (case co_LETTERS => k_is)
    (case cr_LETTERS => first | exact ⟨_, rfl⟩ | rfl)
    (case co_STANDS => k_is)
    (case cr_STANDS => first | exact ⟨_, rfl⟩ | rfl)
    (case co_MOST => k_is)
    (case cr_MOST => first | exact ⟨_, rfl⟩ | rfl)
    (case co_SIGNS => k_is)
    (case cr_SIGNS => first | exact ⟨_, rfl⟩ | rfl)
    (case a_law => k_is)
    (case l_law => k_is)
    (case c_law => k_is)
    (case k_law => k_is)
    (case a_l_deal => k_is)
    (case l_l_deal => k_is)
    (case c_l_deal => k_is)
    (case k_l_deal => k_is)
    (case a_l_any_device => k_is)
    (case l_l_any_device => k_is)
    (case c_l_any_device => k_is)
    (case k_l_any_device => k_is)
    (case a_l_made => k_is)
    (case l_l_made => k_is)
    (case c_l_made => k_is)
    (case k_l_made => k_is)
    (case a_l_again => k_is)
    (case l_l_again => k_is)
    (case c_l_again => k_is)
    (case k_l_again => k_is)
    (case a_coming_again => k_is)
    (case l_coming_again => k_is)
    (case c_coming_again => k_is)
    (case k_coming_again => k_is)
    (case a_l_like => k_is)
    (case l_l_like => k_is)
    (case c_l_like => k_is)
    (case k_l_like => k_is)
    (case a_l_names => k_is)
    (case l_l_names => k_is)
    (case c_l_names => k_is)
    (case k_l_names => k_is)
    (case a_l_of => k_is)
    (case l_l_of => k_is)
    (case c_l_of => k_is)
    (case k_l_of => k_is)
    (case a_l_shuffled => k_is)
    (case l_l_shuffled => k_is)
    (case c_l_shuffled => k_is)
    (case k_l_shuffled => k_is)
    (case a_l_pick => k_is)
    (case l_l_pick => k_is)
    (case c_l_pick => k_is)
    (case k_l_pick => k_is)
    (case a_l_device => k_is)
    (case l_l_device => k_is)
    (case c_l_device => k_is)
    (case k_l_device => k_is)
    (case m_Machine_init => k_is)
    (case n_Machine_init => k_is)
    (case l_Machine_init => k_is)
    (case c_Machine_init => k_is)
    (case k_Machine_init => k_is)
    (case a_l_reached => k_is)
    (case l_l_reached => k_is)
    (case c_l_reached => k_is)
    (case k_l_reached => k_is)
    (case a_come_to => k_is)
    (case l_come_to => k_is)
    (case c_come_to => k_is)
    (case k_come_to => k_is)
    (case m_Machine_rows => k_is)
    (case n_Machine_rows => k_is)
    (case l_Machine_rows => k_is)
    (case c_Machine_rows => k_is)
    (case k_Machine_rows => k_is)
    (case a_some_again => k_is)
    (case l_some_again => k_is)
    (case c_some_again => k_is)
    (case k_some_again => k_is)
    (case a_l_rule => k_is)
    (case l_l_rule => k_is)
    (case c_l_rule => k_is)
    (case k_l_rule => k_is)
    (case a_l_raw => k_is)
    (case l_l_raw => k_is)
    (case c_l_raw => k_is)
    (case k_l_raw => k_is)
    (case a_l_renumbered => k_is)
    (case l_l_renumbered => k_is)
    (case c_l_renumbered => k_is)
    (case k_l_renumbered => k_is)
    (case a_need_names => k_is)
    (case l_need_names => k_is)
    (case c_need_names => k_is)
    (case k_need_names => k_is)
    (case a_good_row => k_is)
    (case l_good_row => k_is)
    (case c_good_row => k_is)
    (case k_good_row => k_is)
    (case a_heeded => k_is)
    (case l_heeded => k_is)
    (case c_heeded => k_is)
    (case k_heeded => k_is)
    (case a_fresh_ones => k_is)
    (case l_fresh_ones => k_is)
    (case c_fresh_ones => k_is)
    (case k_fresh_ones => k_is)
    (case m_Machine_moved => k_is)
    (case n_Machine_moved => k_is)
    (case l_Machine_moved => k_is)
    (case c_Machine_moved => k_is)
    (case k_Machine_moved => k_is)
    (case kn_Machine_moved_stand => k_is)
    (case kr_Machine_moved_stand => first | exact ⟨_, rfl⟩ | rfl)
    (case m_Machine_letters => k_is)
    (case n_Machine_letters => k_is)
    (case l_Machine_letters => k_is)
    (case c_Machine_letters => k_is)
    (case k_Machine_letters => k_is)
    (case m_Machine_len => k_is)
    (case n_Machine_len => k_is)
    (case l_Machine_len => k_is)
    (case c_Machine_len => k_is)
    (case k_Machine_len => k_is)
    (case a_l_weight => k_is)
    (case l_l_weight => k_is)
    (case c_l_weight => k_is)
    (case k_l_weight => k_is)
    (case a_l_down => k_is)
    (case l_l_down => k_is)
    (case c_l_down => k_is)
    (case k_l_down => k_is)
    (case a_l_gain => k_is)
    (case l_l_gain => k_is)
    (case c_l_gain => k_is)
    (case k_l_gain => k_is)
    (case a_is_name => k_is)
    (case l_is_name => k_is)
    (case c_is_name => k_is)
    (case k_is_name => k_is)
    (case a_both_ways => k_is)
    (case l_both_ways => k_is)
    (case c_both_ways => k_is)
    (case k_both_ways => k_is)
    (case m_Machine_need_stand => k_is)
    (case n_Machine_need_stand => k_is)
    (case l_Machine_need_stand => k_is)
    (case c_Machine_need_stand => k_is)
    (case k_Machine_need_stand => k_is)
    (case a_far_moved => k_is)
    (case l_far_moved => k_is)
    (case c_far_moved => k_is)
    (case k_far_moved => k_is)
    (case a_added => k_is)
    (case l_added => k_is)
    (case c_added => k_is)
    (case k_added => k_is)
    (case a_l_times_of => k_is)
    (case l_l_times_of => k_is)
    (case c_l_times_of => k_is)
    (case k_l_times_of => k_is)
    (case z_len => k_is)
    (case z_list => k_is)
    (case z_tuple => k_is)
    (case z_abs => k_is)
    (case z_all => k_is)
    (case z_any => k_is)
    (case z_sum => k_is)
    (case z_isinstance => k_is)
    (case z_int => k_is)
    (case z_max => k_is)
    (case z_min => k_is)
    (case z_sorted => k_is)
    (case z_str => k_is)
    (case z_range => k_is)
    (case z_enumerate => k_is)
    (case z_zip => k_is)
    (case z_bool => k_is)
    (case z_dict => k_is)
