import PyProof.Rows.All
import Wide.All
import OpenK.AllK
import Wide.FinOn
import HandS.ForMost
import HandS.Evl
import HandS.TupAny
import HandS.RevRange
import HandS.Rev
import HandS.Conv
import HandS.NoneIn
import HandS.Defaults
import HandS.Wide
import HandS.DictTup
import HandS.SortRule
import HandS.Flow
import HandS.Walk
import HandS.Style
import HandS.WrittenGet
import HandS.IsInst
import HandS.SlotsOwn
import HandS.SortKw
import HandS.Codes
import HandS.HeadHook3
import KE.GoesEnum
import KE.GoesMore
import PySem.Challenge.RW_whichfloor_k52_whole_all_floors_at_once
set_option Elab.async false
set_option linter.all false
set_option maxRecDepth 100000
open Evl (Ex)
/-! W0: weakest preconditions of pieces of a def's text, a data relation, the frame rule for a hidden list. -/
namespace Wp
open PySem L2

/-! ### the weakest preconditions themselves -/
structure wE (X : Cx) (e : Expr) (σ : L2.St) (H : Hp) (Q : VK) : Prop where
  run : ∀ pins s, Inv X pins σ H s → wpAny (model X.prog X.w) X.A (eval e X.env) (EP X pins σ Q) X.xe s
structure wT (X : Cx) (e : Expr) (σ : L2.St) (H : Hp) (Q : Bool → Hp → Prop) : Prop where
  run : ∀ pins s, Inv X pins σ H s → wpAny (model X.prog X.w) X.A (isTrue e X.env (eval e X.env)) (TP X pins σ Q) X.xe s
structure wA (X : Cx) (es : List Expr) (σ : L2.St) (H : Hp) (Q : List V → Hp → Prop) : Prop where
  run : ∀ pos pins s, Inv X pins σ H s → wpAny (model X.prog X.w) X.A (spliced (backTo pos (starEach es X.env))) (AP X pins σ Q) X.xe s
structure wS (X : Cx) (st : List Stmt) (D : Ends) (σ : L2.St) (H : Hp) : Prop where
  run : ∀ pins s, Inv X pins σ H s → wpAny (model X.prog X.w) X.A (execs st X.env) (SP X pins D) X.xe s
structure wS1 (X : Cx) (st : Stmt) (D : Ends) (σ : L2.St) (H : Hp) : Prop where
  run : ∀ pins s, Inv X pins σ H s → wpAny (model X.prog X.w) X.A (exec st X.env) (SP X pins D) X.xe s
section
variable {X : Cx} {e : Expr} {es : List Expr} {st : List Stmt} {s1 : Stmt} {te : TE} {tt : TT} {ta : TA} {ts : TS} {σ : L2.St} {H : Hp}
theorem pE : PE X e (wE X e) := ⟨fun pins s σ H Q I h => h.run pins s I⟩
theorem pT : PT X e (wT X e) := ⟨fun pins s σ H Q I h => h.run pins s I⟩
theorem pA : PA X es (wA X es) := ⟨fun pos pins s σ H Q I h => h.run pos pins s I⟩
theorem pS : PSs X st (wS X st) := ⟨fun pins s σ H D I h => h.run pins s I⟩
theorem pS1 : PS X s1 (wS1 X s1) := ⟨fun pins s σ H D I h => h.run pins s I⟩
theorem wE.of (h : PE X e te) {Q : VK} (q : te σ H Q) : wE X e σ H Q := ⟨fun pins s I => h.run pins s σ H Q I q⟩
theorem wT.of (h : PT X e tt) {Q : Bool → Hp → Prop} (q : tt σ H Q) : wT X e σ H Q := ⟨fun pins s I => h.run pins s σ H Q I q⟩
theorem wA.of (h : PA X es ta) {Q : List V → Hp → Prop} (q : ta σ H Q) : wA X es σ H Q := ⟨fun pos pins s I => h.run pos pins s σ H Q I q⟩
theorem wS.of (h : PSs X st ts) {D : Ends} (q : ts D σ H) : wS X st D σ H := ⟨fun pins s I => h.run pins s σ H D I q⟩
theorem wS1.of (h : PS X s1 ts) {D : Ends} (q : ts D σ H) : wS1 X s1 D σ H := ⟨fun pins s I => h.run pins s σ H D I q⟩
theorem wS.cons {rest : List Stmt} (h : PS X s1 ts) {D : Ends} (q : ts { D with nx := wS X rest D } σ H) : wS X (s1 :: rest) D σ H :=
  wS.of (pss_cons h pS) q
theorem wE.mono {Q Q' : VK} (h : wE X e σ H Q) (m : ∀ v H', Q v H' → Q' v H') : wE X e σ H Q' := ⟨fun pins s I => thn (h.run pins s I) fun u s' ⟨v, H', I', r, q⟩ => ⟨v, H', I', r, m v H' q⟩⟩
theorem wS.mono {D D' : Ends} (h : wS X st D σ H) (m : ∀ σ H, D.nx σ H → D'.nx σ H) (mr : ∀ v H, D.rt v H → D'.rt v H) (mb : ∀ σ H, D.bk σ H → D'.bk σ H) (mc : ∀ σ H, D.ct σ H → D'.ct σ H) : wS X st D' σ H := ⟨fun pins s I => thn (h.run pins s I) fun f s' q => by
  cases f with
  | next => obtain ⟨a, b, c, d⟩ := q; exact ⟨a, b, c, m _ _ d⟩
  | brk => obtain ⟨a, b, c, d⟩ := q; exact ⟨a, b, c, mb _ _ d⟩
  | cont => obtain ⟨a, b, c, d⟩ := q; exact ⟨a, b, c, mc _ _ d⟩
  | ret v => obtain ⟨a, b, c, d, r, q⟩ := q; exact ⟨a, b, c, d, r, mr _ _ q⟩⟩
end

/-! ### heaps -/
/-- H with what stands at a unseen -/
def hd (H : Hp) (a : Addr) : Hp := fun b => if b = a then none else H b
theorem hd_same {H : Hp} {a : Addr} : hd H a a = none := by unfold hd; rw [if_pos rfl]
theorem hd_ne {H : Hp} {a b : Addr} (h : b ≠ a) : hd H a b = H b := by unfold hd; rw [if_neg h]
theorem hd_upd {H : Hp} {a : Addr} {o : HO} (h : H a = none) : hd (upd H a o) a = H := by
  funext b; by_cases e : b = a
  · subst e; rw [hd_same, h]
  · rw [hd_ne e, upd_ne e]
theorem upd_hd {H : Hp} {a : Addr} {o : HO} (h : H a = some o) : upd (hd H a) a o = H := by
  funext b; by_cases e : b = a
  · subst e; rw [upd_same, h]
  · rw [upd_ne e, hd_ne e]
theorem ex_refl {H : Hp} : Ex H H := Evl.Ex.refl H
theorem ex_hd {H : Hp} {a : Addr} : Ex (hd H a) H := fun b o h => by
  by_cases e : b = a
  · subst e; rw [hd_same] at h; cases h
  · rw [hd_ne e] at h; exact h
theorem ex_of_hd {H H' : Hp} {a : Addr} (h : H a = none) (e : Ex H H') : Ex H (hd H' a) := fun b o q => by
  rw [hd_ne (ne_of_none q h)]; exact e b o q
theorem ex_new {H : Hp} {p : Addr} {o : HO} (h : H p = none) : Ex H (upd H p o) := Evl.Ex.new h
theorem hd_none {H : Hp} {a b : Addr} (h : H b = none) : hd H a b = none := by
  unfold hd; split
  · rfl
  · exact h
theorem hd_free {H : Hp} {a : Addr} (h : H a = none) : hd H a = H := by
  funext b; unfold hd; by_cases e : b = a
  · subst e; simp only [if_pos, h]
  · simp only [if_neg e]

/-! ### the frame rule -/
def Hid : HO → Prop
  | .lst _ => True
  | .dK _ => True
  | _ => False
section
variable {X : Cx} {pins : List (Addr × Obj)} {σ : L2.St} {H H' : Hp} {s s' : Shared} {a : Addr} {o : HO} {ob : Obj}
theorem hid_obj {P : Program} {w : World} {h : Heap} (p : Hid o) (k : ObjOk P w H h a o) : ∃ ob, h.get? a = some ob ∧ (∀ v, ob.data ≠ .cell v) ∧ ∀ H' h', h'.get? a = some ob → ObjOk P w H' h' a o := by
  cases o with
  | lst xs =>
    obtain ⟨z, its, n, r, e⟩ := k
    exact ⟨_, e, (fun v q => by cases q), fun H' h' e' => ⟨z, its, n, r, e'⟩⟩
  | dK kvs =>
    have k' := k
    obtain ⟨z, y, vs, r, ob, es, ep, e, c⟩ := k
    refine ⟨ob, e, (fun v q => ?_), fun H' h' e' => ⟨z, y, vs, r, ob, es, ep, e', c⟩⟩
    rw [c.2.1] at q; cases q
  | _ => exact False.elim p
theorem Inv.notfs (I : Inv X pins σ H s) (h : H a = some o) : a ∉ X.fs := fun hb => by
  obtain ⟨_, ob, ho, _⟩ := I.ok.funs.mem hb
  have := I.base.free a ob ho (I.ok.frf a hb) (fun hx => I.ok.exfs a hx hb)
  rw [h] at this; cases this
theorem Inv.hide (I : Inv X pins σ H s) (h : H a = some o) (p : Hid o) (e : s.heap.get? a = some ob) (nc : ∀ v, ob.data ≠ .cell v) : Inv X (pins ++ [(a, ob)]) σ (hd H a) s where
  ok := I.ok
  os := I.os
  bare := I.bare
  base := by
    have nt : ∀ b u, H b = some u → ¬ Hid u → hd H a b = some u := fun b u q nh => by
      have : b ≠ a := fun z => by subst z; rw [h] at q; cases q; exact nh p
      rw [hd_ne this]; exact q
    refine ⟨I.base.keep, I.base.slot, fun b u q n hx => hd_none (I.base.free b u q n hx), I.base.there, fun b xs q => nt _ _ (I.base.tups b xs q) (fun z => z), fun b u v q => nt _ _ (I.base.frzs b u v q) (fun z => z), fun b ps q => ?_⟩
    obtain ⟨m, e⟩ := I.base.tbls b ps q
    exact ⟨m, nt _ _ e (fun z => z)⟩
  loc := I.loc
  cell := I.cell
  free := hd_none I.free
  freeC := fun x c q => hd_none (I.freeC x c q)
  pin := fun q hq => by
    rw [← List.append_assoc] at hq
    rcases List.mem_append.mp hq with hq | hq
    · obtain ⟨h1, h2, h3⟩ := I.pin q hq
      exact ⟨h1, hd_none h2, h3⟩
    · have : q = (a, ob) := by simpa using hq
      subst this
      exact ⟨e, hd_same, (fun z => by have := I.free; rw [← (show a = X.env.locals from z), h] at this; cases this), Inv.notfs I h, nc⟩
  hok := fun b u q => by
    have hb : b ≠ a := fun z => by subst z; rw [hd_same] at q; cases q
    rw [hd_ne hb] at q
    refine (I.hok b u q).stay (fun _ _ _ z => z) (fun c z => ?_) (fun c xs z => ?_)
    · rw [hd_ne (fun w => by subst w; rw [h] at z; cases z; exact p)]; exact z
    · rw [hd_ne (fun w => by subst w; rw [h] at z; cases z; exact p)]; exact z
  len := I.len
theorem Inv.unhide {σ' : L2.St} (I : Inv X pins σ H s) (h : H a = some o) (p : Hid o) (J : Inv X (pins ++ [(a, ob)]) σ' H' s') (k : ∀ H' h', h'.get? a = some ob → ObjOk X.prog X.w H' h' a o) : Inv X pins σ' (upd H' a o) s' := by
  have e := J.pin (a, ob) (by simp)
  have ea : s'.heap.get? a = some ob := e.1
  have en : H' a = none := e.2.1
  have nu : ∀ b u, H' b = some u → upd H' a o b = some u := fun b u q => by rw [upd_ne (ne_of_none q en)]; exact q
  refine ⟨J.ok, J.os, J.bare, ⟨J.base.keep, J.base.slot, fun b u q n hx => ?_, J.base.there, fun b xs q => nu _ _ (J.base.tups b xs q), fun b u v q => nu _ _ (J.base.frzs b u v q), fun b ps q => ?_⟩, J.loc, J.cell, ?_, fun x c q => ?_, fun q hq => ?_, fun b u q => ?_, J.len⟩
  · have : b ≠ a := fun z => by
      subst z
      have := I.base.free b u q n hx
      rw [h] at this; cases this
    rw [upd_ne this]; exact J.base.free b u q n hx
  · obtain ⟨m, z⟩ := J.base.tbls b ps q
    exact ⟨m, nu _ _ z⟩
  · rw [upd_ne (fun z => by have := I.free; rw [z, h] at this; cases this)]; exact J.free
  · rw [upd_ne (fun z => by have := I.freeC x c q; rw [z, h] at this; cases this)]; exact J.freeC x c q
  · obtain ⟨h1, h2, h3⟩ := J.pin q (by rw [← List.append_assoc]; exact List.mem_append_left _ hq)
    have : q.1 ≠ a := fun z => by have := (I.pin q hq).2.1; rw [z, h] at this; cases this
    exact ⟨h1, by rw [upd_ne this]; exact h2, h3⟩
  · by_cases hb : b = a
    · subst hb
      rw [upd_same] at q; cases q
      exact k _ _ ea
    · rw [upd_ne hb] at q
      exact (J.hok b u q).stay (fun _ _ _ z => z) (fun c z => nu _ _ z) (fun c xs z => nu _ _ z)
/-- THE FRAME: e is evaluated while the list (or dict) at a is not seen; it stands behind as it stood -/
theorem wE.frame {e : Expr} {Q : VK} (h : H a = some o) (p : Hid o) (w : wE X e σ (hd H a) fun v H' => H' a = none → Q v (upd H' a o)) : wE X e σ H Q := ⟨fun pins s I => by
  obtain ⟨ob, e1, nc, k⟩ := hid_obj p (I.hok a o h)
  refine thn (w.run _ s (Inv.hide I h p e1 nc)) fun u s' ⟨v, H', J, r, q⟩ => ⟨v, upd H' a o, Inv.unhide I h p J k, r, q (J.pin (a, ob) (by simp)).2.1⟩⟩
theorem wT.frame {e : Expr} {Q : Bool → Hp → Prop} (h : H a = some o) (p : Hid o) (w : wT X e σ (hd H a) fun v H' => H' a = none → Q v (upd H' a o)) : wT X e σ H Q := ⟨fun pins s I => by
  obtain ⟨ob, e1, nc, k⟩ := hid_obj p (I.hok a o h)
  refine thn (w.run _ s (Inv.hide I h p e1 nc)) fun u s' ⟨H', J, q⟩ => ⟨upd H' a o, Inv.unhide I h p J k, q (J.pin (a, ob) (by simp)).2.1⟩⟩
end
end Wp
/-! W1: the data relation, pure evaluation (EvP), rules for expressions. -/
namespace Wp
open PySem L2

/-! ### data -/
/-- what may be true of a value in a heap, and stays -/
structure MP where
  P : V → Hp → Prop
  mono : ∀ {H H' v}, Ex H H' → P v H → P v H'
structure Rep (α : Type) where
  R : Hp → V → α → Prop
  mono : ∀ {H H' v a}, Ex H H' → R H v a → R H' v a
def Rep.is {α : Type} (r : Rep α) (a : α) : MP := ⟨fun v H => r.R H v a, fun e h => r.mono e h⟩
theorem pd_mono {α β : Type} {F G : α → β → Prop} {xs : List α} {ys : List β} (h : Paired F xs ys) (m : ∀ a b, F a b → G a b) : Paired G xs ys := Paired.mapP h m
theorem pd_len {α β : Type} {F : α → β → Prop} {xs : List α} {ys : List β} (h : Paired F xs ys) : xs.length = ys.length := Paired.length h
theorem pd_app {α β : Type} {F : α → β → Prop} : ∀ {xs : List α} {ys : List β} {xs' : List α} {ys' : List β}, Paired F xs ys → Paired F xs' ys' → Paired F (xs ++ xs') (ys ++ ys')
  | _, _, _, _, .nil, h => h
  | _, _, _, _, .cons r t, h => .cons r (pd_app t h)
theorem pd_get {α β : Type} {F : α → β → Prop} : ∀ {xs : List α} {ys : List β} {i : Nat} {x : α}, Paired F xs ys → xs[i]? = some x → ∃ y, ys[i]? = some y ∧ F x y
  | _, _, i, _, .nil, h => by simp at h
  | _, _, 0, _, .cons r t, h => by simp at h; subst h; exact ⟨_, rfl, r⟩
  | _, _, i + 1, _, .cons r t, h => by
    obtain ⟨y, e, q⟩ := pd_get (i := i) t (by simpa using h)
    exact ⟨y, by simpa using e, q⟩
theorem pd_get' {α β : Type} {F : α → β → Prop} : ∀ {xs : List α} {ys : List β} {i : Nat} {y : β}, Paired F xs ys → ys[i]? = some y → ∃ x, xs[i]? = some x ∧ F x y
  | _, _, i, _, .nil, h => by simp at h
  | _, _, 0, _, .cons r t, h => by simp at h; subst h; exact ⟨_, rfl, r⟩
  | _, _, i + 1, _, .cons r t, h => by
    obtain ⟨y, e, q⟩ := pd_get' (i := i) t (by simpa using h)
    exact ⟨y, by simpa using e, q⟩
theorem pd_take {α β : Type} {F : α → β → Prop} : ∀ {xs : List α} {ys : List β} (n : Nat), Paired F xs ys → Paired F (xs.take n) (ys.take n)
  | _, _, 0, _ => .nil
  | _, _, _ + 1, .nil => .nil
  | _, _, n + 1, .cons r t => .cons r (pd_take n t)
theorem pd_drop {α β : Type} {F : α → β → Prop} : ∀ {xs : List α} {ys : List β} (n : Nat), Paired F xs ys → Paired F (xs.drop n) (ys.drop n)
  | _, _, 0, h => h
  | _, _, _ + 1, .nil => .nil
  | _, _, n + 1, .cons r t => pd_drop n t
theorem pd_rev {α β : Type} {F : α → β → Prop} : ∀ {xs : List α} {ys : List β}, Paired F xs ys → Paired F xs.reverse ys.reverse
  | _, _, .nil => .nil
  | _, _, .cons r t => by rw [List.reverse_cons, List.reverse_cons]; exact pd_app (pd_rev t) (.cons r .nil)
theorem pd_map {α β γ : Type} {F : α → γ → Prop} {f : β → γ} : ∀ {xs : List α} {ys : List β}, Paired F xs (ys.map f) ↔ Paired (fun a b => F a (f b)) xs ys
  | [], [] => ⟨fun _ => .nil, fun _ => .nil⟩
  | _ :: _, _ :: _ => ⟨fun h => by cases h with | cons r t => exact .cons r (pd_map.mp t), fun h => by cases h with | cons r t => exact .cons r (pd_map.mpr t)⟩
  | [], _ :: _ => ⟨(fun h => by cases h), (fun h => by cases h)⟩
  | _ :: _, [] => ⟨(fun h => by cases h), (fun h => by cases h)⟩
theorem pd_int {xs : List V} {ns : List Int} : Paired (fun v (i : Int) => v = V.int i) xs ns ↔ xs = ns.map V.int := by
  constructor
  · intro h
    induction h with
    | nil => rfl
    | cons r t ih => rw [List.map_cons, r, ih]
  · rintro rfl
    induction ns with
    | nil => exact .nil
    | cons n ns ih => exact .cons rfl ih
theorem pd_bl {xs : List V} {ns : List Bool} : Paired (fun v (i : Bool) => v = V.bl i) xs ns ↔ xs = ns.map V.bl := by
  constructor
  · intro h
    induction h with
    | nil => rfl
    | cons r t ih => rw [List.map_cons, r, ih]
  · rintro rfl
    induction ns with
    | nil => exact .nil
    | cons n ns ih => exact .cons rfl ih

theorem ex_sqt {K : PySem.W.Frag} {H H' : Hp} {a : Addr} {xs : List V} (e : Ex H H') (h : SqT K H a xs) : SqT K H' a xs := Evl.ex_t e h
/-- a tuple keeps standing when a list is unseen -/
def kI : Rep Int := ⟨fun _ v i => v = .int i, fun _ h => h⟩
def kB : Rep Bool := ⟨fun _ v b => v = .bl b, fun _ h => h⟩
def kS : Rep Str := ⟨fun _ v b => v = .str b, fun _ h => h⟩
/-- nothing is said -/
def kAny : Rep Unit := ⟨fun _ _ _ => True, fun _ h => h⟩
def kN : Rep Unit := ⟨fun _ v _ => v = .non, fun _ h => h⟩
def kL {α : Type} (r : Rep α) : Rep (List α) := ⟨fun H v as => ∃ p xs, v = .ref p ∧ H p = some (.lst xs) ∧ Paired (r.R H) xs as,
  fun e ⟨p, xs, h1, h2, h3⟩ => ⟨p, xs, h1, e _ _ h2, pd_mono h3 fun _ _ q => r.mono e q⟩⟩
def kT {α : Type} (K : PySem.W.Frag) (r : Rep α) : Rep (List α) := ⟨fun H v as => ∃ p xs, v = .ref p ∧ SqT K H p xs ∧ Paired (r.R H) xs as,
  fun e ⟨p, xs, h1, h2, h3⟩ => ⟨p, xs, h1, ex_sqt e h2, pd_mono h3 fun _ _ q => r.mono e q⟩⟩
/-- a term (i, j, c) -/
def kT3 (K : PySem.W.Frag) : Rep (Int × Int × Int) := ⟨fun H v t => ∃ p, v = .ref p ∧ SqT K H p [.int t.1, .int t.2.1, .int t.2.2], fun e ⟨p, h1, h2⟩ => ⟨p, h1, ex_sqt e h2⟩⟩
def kT2 : Rep (Int × Int) := ⟨fun H v t => ∃ p, v = .ref p ∧ H p = some (.tup [.int t.1, .int t.2]), fun e ⟨p, h1, h2⟩ => ⟨p, h1, e _ _ h2⟩⟩

/-! ### pure evaluation -/
/-- from any heap that has H, te gives a value of which P holds, in a heap that has the former -/
def EvP (te : TE) (σ : L2.St) (H : Hp) (p : V → Hp → Prop) : Prop := ∀ H1, Ex H H1 → ∀ Q : VK, (∀ v H2, Ex H1 H2 → p v H2 → Q v H2) → te σ H1 Q
def EvT (tt : TT) (σ : L2.St) (H : Hp) (b : Bool) : Prop := ∀ H1, Ex H H1 → ∀ Q : Bool → Hp → Prop, (∀ H2, Ex H1 H2 → Q b H2) → tt σ H1 Q
def EvA (ta : TA) (σ : L2.St) (H : Hp) (ps : List MP) : Prop := ∀ H1, Ex H H1 → ∀ Q : List V → Hp → Prop, (∀ vs H2, Ex H1 H2 → Paired (fun v (p : MP) => p.P v H2) vs ps → Q vs H2) → ta σ H1 Q
/-- a new list, its items told where it is unseen -/
def EvN {α : Type} (te : TE) (σ : L2.St) (H : Hp) (r : Rep α) (as : List α) : Prop := ∀ H1, Ex H H1 → ∀ Q : VK, (∀ p xs H2, Ex H1 H2 → H2 p = none → Paired (r.R H2) xs as → Q (.ref p) (upd H2 p (.lst xs))) → te σ H1 Q
section
variable {α β : Type} {X : Cx} {σ : L2.St} {H H' : Hp} {te ta tb : TE} {tt tu : TT} {p q : V → Hp → Prop} {r : Rep α}
theorem EvP.mono (h : EvP te σ H p) (e : Ex H H') : EvP te σ H' p := fun H1 a => h H1 (e.trans a)
theorem EvT.mono {b : Bool} (h : EvT tt σ H b) (e : Ex H H') : EvT tt σ H' b := fun H1 a => h H1 (e.trans a)
theorem EvP.imp (h : EvP te σ H p) (m : ∀ v H', Ex H H' → p v H' → q v H') : EvP te σ H q := fun H1 e Q k => h H1 e Q fun v H2 e2 hp => k v H2 e2 (m v H2 (e.trans e2) hp)
theorem EvN.evp {as : List α} (h : EvN te σ H r as) : EvP te σ H ((kL r).is as).P := fun H1 e Q k => h H1 e Q fun p xs H2 e2 hn hx => k _ _ (e2.trans (ex_new hn)) ⟨p, xs, rfl, upd_same, pd_mono hx fun _ _ z => r.mono (ex_new hn) z⟩
theorem EvP.of {e : Expr} {t : TE} (h : PE X e t) (g : EvP t σ H p) : EvP (wE X e) σ H p := fun H1 a Q k => wE.of h (g H1 a Q k)
theorem EvN.of {e : Expr} {t : TE} {as : List α} (h : PE X e t) (g : EvN t σ H r as) : EvN (wE X e) σ H r as := fun H1 a Q k => wE.of h (g H1 a Q k)
theorem EvT.of {e : Expr} {b : Bool} (h : PT X e tt) (g : EvT tt σ H b) : EvT (wT X e) σ H b := fun H1 a Q k => wT.of h (g H1 a Q k)
theorem EvA.of {es : List Expr} {t : TA} {ps : List MP} (h : PA X es t) (g : EvA t σ H ps) : EvA (wA X es) σ H ps := fun H1 a Q k => wA.of h (g H1 a Q k)

/-! names, constants -/
theorem e_var {i : Nat} {x : Str} {pos : Pos} {v : V} (h : σ[i]? = some (some v)) (hp : ∀ H', Ex H H' → p v H') (hN : X.N[i]? = some x := by rfl) (hv : Vis X.env.scope x := by first | exact Or.inl rfl | exact Or.inr (Or.inl rfl) | exact Or.inr (Or.inr rfl))
    (hd : (x == ("__debug__" : Str)) = false := by decide) (hcd : (x == ("__classdict__" : Str)) = false := by decide) : EvP (wE X (.Name x pos)) σ H p :=
  .of (pe_var hN hv hd hcd) fun H1 e Q k => ⟨v, h, k v H1 ex_refl (hp H1 e)⟩
theorem e_v {i : Nat} {x : Str} {pos : Pos} {v : V} {m : MP} (h : σ[i]? = some (some v)) (hp : m.P v H) (hN : X.N[i]? = some x := by rfl) (hv : Vis X.env.scope x := by first | exact Or.inl rfl | exact Or.inr (Or.inl rfl) | exact Or.inr (Or.inr rfl))
    (hd : (x == ("__debug__" : Str)) = false := by decide) (hcd : (x == ("__classdict__" : Str)) = false := by decide) : EvP (wE X (.Name x pos)) σ H m.P := e_var h (fun _ e => m.mono e hp) hN hv hd hcd
theorem e_int {i : Int} {j pos} : EvP (wE X (.Constant (.int i) j pos)) σ H (kI.is i).P := .of pe_int fun H1 e Q k => k _ H1 ex_refl rfl
theorem e_bl {i : Bool} {j pos} : EvP (wE X (.Constant (.bool i) j pos)) σ H (kB.is i).P := .of pe_bl fun H1 e Q k => k _ H1 ex_refl rfl
theorem e_str {i : Str} {j pos} : EvP (wE X (.Constant (.str i) j pos)) σ H (kS.is i).P := .of pe_str fun H1 e Q k => k _ H1 ex_refl rfl
theorem e_glob {x : Str} {v : V} {u : Value} {pos : Pos} (hm : X.mg x = some u) (r : RelV v u) (hp : ∀ H', Ex H H' → p v H') (hg : Gl X x := by rfl) (hd : (x == ("__debug__" : Str)) = false := by decide) : EvP (wE X (.Name x pos)) σ H p :=
  .of (pe_glob hg hm r hd) fun H1 e Q k => k v H1 ex_refl (hp H1 e)

/-! two ints -/
variable {a b : Expr} {pos : Pos} {i j : Int}
theorem e_I {op : Operator} {C : Int → Int → Prop} {g : Int → Int → V} (ho : OpR X (binaryOp op) (L2.rI C g)) (ha : EvP (wE X a) σ H (kI.is i).P) (hb : EvP (wE X b) σ H (kI.is j).P) (hc : C i j) : EvP (wE X (.BinOp a op b pos)) σ H fun v _ => v = g i j :=
  .of (pe_op ho pE pE) fun H1 e Q k => ha H1 e _ fun v H2 e2 hv => hb H2 (e.trans e2) _ fun u H3 e3 hu => ⟨i, j, hv, hu, hc, k _ _ (e2.trans e3) rfl⟩
theorem e_I0 {op : Operator} {g : Int → Int → V} (ho : OpR X (binaryOp op) (rI0 g)) (ha : EvP (wE X a) σ H (kI.is i).P) (hb : EvP (wE X b) σ H (kI.is j).P) : EvP (wE X (.BinOp a op b pos)) σ H fun v _ => v = g i j :=
  .of (pe_op ho pE pE) fun H1 e Q k => ha H1 e _ fun v H2 e2 hv => hb H2 (e.trans e2) _ fun u H3 e3 hu => ⟨i, j, hv, hu, k _ _ (e2.trans e3) rfl⟩
theorem e_add (ha : EvP (wE X a) σ H (kI.is i).P) (hb : EvP (wE X b) σ H (kI.is j).P) : EvP (wE X (.BinOp a .Add b pos)) σ H (kI.is (i + j)).P := e_I0 op_add ha hb
theorem e_sub (ha : EvP (wE X a) σ H (kI.is i).P) (hb : EvP (wE X b) σ H (kI.is j).P) : EvP (wE X (.BinOp a .Sub b pos)) σ H (kI.is (i - j)).P := e_I0 op_sub ha hb
theorem e_mul (ha : EvP (wE X a) σ H (kI.is i).P) (hb : EvP (wE X b) σ H (kI.is j).P) (hc : CMul i j) : EvP (wE X (.BinOp a .Mult b pos)) σ H (kI.is (i * j)).P := e_I op_mul ha hb hc
theorem e_mod (ha : EvP (wE X a) σ H (kI.is i).P) (hb : EvP (wE X b) σ H (kI.is j).P) (hc : 0 < j) : EvP (wE X (.BinOp a .Mod b pos)) σ H (kI.is (i % j)).P := e_I op_mod ha hb hc
theorem e_fdiv (ha : EvP (wE X a) σ H (kI.is i).P) (hb : EvP (wE X b) σ H (kI.is j).P) (hc : CDiv i j) : EvP (wE X (.BinOp a .FloorDiv b pos)) σ H (kI.is (i / j)).P := e_I op_fdiv ha hb hc
theorem e_pow (ha : EvP (wE X a) σ H (kI.is i).P) (hb : EvP (wE X b) σ H (kI.is j).P) (hc : CPow i j) : EvP (wE X (.BinOp a .Pow b pos)) σ H (kI.is (i ^ j.toNat)).P := e_I op_pow ha hb hc
theorem e_neg (ha : EvP (wE X a) σ H (kI.is i).P) : EvP (wE X (.UnaryOp .USub a pos)) σ H (kI.is (-i)).P :=
  .of (pe_un un_neg pE) fun H1 e Q k => ha H1 e _ fun v H2 e2 hv => ⟨i, hv, k _ _ e2 rfl⟩

/-! comparisons -/
theorem c_cmp {op : CmpOp} {g : Int → Int → Bool} (ho : OpR X (compareOp op) (rI0 fun i j => .bl (g i j))) (hm : behindInMarks op b = false) (ha : EvP (wE X a) σ H (kI.is i).P) (hb : EvP (wE X b) σ H (kI.is j).P) : EvP (wE X (.Compare a [op] [b] pos)) σ H (kB.is (g i j)).P :=
  .of (pe_cmpR ho pE pE hm) fun H1 e Q k => ha H1 e _ fun v H2 e2 hv => hb H2 (e.trans e2) _ fun u H3 e3 hu => ⟨i, j, hv, hu, k _ _ (e2.trans e3) rfl⟩
theorem t_cmp {op : CmpOp} {g : Int → Int → Bool} (ho : OpR X (compareOp op) (rI0 fun i j => .bl (g i j))) (hm : behindInMarks op b = false) (ha : EvP (wE X a) σ H (kI.is i).P) (hb : EvP (wE X b) σ H (kI.is j).P) : EvT (wT X (.Compare a [op] [b] pos)) σ H (g i j) :=
  .of (pt_cmpR ho pE pE hm) fun H1 e Q k => ha H1 e _ fun v H2 e2 hv => hb H2 (e.trans e2) _ fun u H3 e3 hu => ⟨i, j, hv, hu, g i j, rfl, k _ (e2.trans e3)⟩
theorem t_lt (ha : EvP (wE X a) σ H (kI.is i).P) (hb : EvP (wE X b) σ H (kI.is j).P) : EvT (wT X (.Compare a [.Lt] [b] pos)) σ H (decide (i < j)) := t_cmp op_lt (nomark _) ha hb
theorem t_le (ha : EvP (wE X a) σ H (kI.is i).P) (hb : EvP (wE X b) σ H (kI.is j).P) : EvT (wT X (.Compare a [.LtE] [b] pos)) σ H (decide (i ≤ j)) := t_cmp op_le (nomark _) ha hb
theorem t_gt (ha : EvP (wE X a) σ H (kI.is i).P) (hb : EvP (wE X b) σ H (kI.is j).P) : EvT (wT X (.Compare a [.Gt] [b] pos)) σ H (decide (j < i)) := t_cmp op_gt (nomark _) ha hb
theorem e_gt (ha : EvP (wE X a) σ H (kI.is i).P) (hb : EvP (wE X b) σ H (kI.is j).P) : EvP (wE X (.Compare a [.Gt] [b] pos)) σ H (kB.is (decide (j < i))).P := c_cmp op_gt (nomark _) ha hb
theorem e_ge (ha : EvP (wE X a) σ H (kI.is i).P) (hb : EvP (wE X b) σ H (kI.is j).P) : EvP (wE X (.Compare a [.GtE] [b] pos)) σ H (kB.is (decide (j ≤ i))).P := c_cmp op_ge (nomark _) ha hb
/-- == and != of ints, bools, texts -/
theorem c_sc {op : CmpOp} {g : V → V → V} {x y : V} (ho : OpR X (compareOp op) fun x y H Q => scal x y = true ∧ Q (g x y) H) (hm : behindInMarks op b = false) (ha : EvP (wE X a) σ H fun v _ => v = x) (hb : EvP (wE X b) σ H fun v _ => v = y) (hs : scal x y = true) :
    EvP (wE X (.Compare a [op] [b] pos)) σ H fun v _ => v = g x y :=
  .of (pe_cmpR ho pE pE hm) fun H1 e Q k => ha H1 e _ fun v H2 e2 hv => hb H2 (e.trans e2) _ fun u H3 e3 hu => ⟨by rw [hv, hu]; exact hs, by rw [hv, hu]; exact k _ _ (e2.trans e3) rfl⟩
theorem dI {i j : Int} : decide (V.int i = V.int j) = decide (i = j) := by by_cases h : i = j <;> simp [h]
theorem dB {i j : Bool} : decide (V.bl i = V.bl j) = (i == j) := dec_bl
theorem e_eqI (ha : EvP (wE X a) σ H (kI.is i).P) (hb : EvP (wE X b) σ H (kI.is j).P) : EvP (wE X (.Compare a [.Eq] [b] pos)) σ H (kB.is (decide (i = j))).P :=
  (c_sc (x := .int i) (y := .int j) op_eq (nomark _) ha hb rfl).imp fun v _ _ h => by rw [h, dI]; rfl
theorem e_neI (ha : EvP (wE X a) σ H (kI.is i).P) (hb : EvP (wE X b) σ H (kI.is j).P) : EvP (wE X (.Compare a [.NotEq] [b] pos)) σ H (kB.is (!decide (i = j))).P :=
  (c_sc (x := .int i) (y := .int j) op_ne (nomark _) ha hb rfl).imp fun v _ _ h => by rw [h, dI]; rfl
theorem e_eqB {i j : Bool} (ha : EvP (wE X a) σ H (kB.is i).P) (hb : EvP (wE X b) σ H (kB.is j).P) : EvP (wE X (.Compare a [.Eq] [b] pos)) σ H (kB.is (i == j)).P :=
  (c_sc (x := .bl i) (y := .bl j) op_eq (nomark _) ha hb rfl).imp fun v _ _ h => by rw [h, dB]; rfl
theorem e_neB {i j : Bool} (ha : EvP (wE X a) σ H (kB.is i).P) (hb : EvP (wE X b) σ H (kB.is j).P) : EvP (wE X (.Compare a [.NotEq] [b] pos)) σ H (kB.is (!(i == j))).P :=
  (c_sc (x := .bl i) (y := .bl j) op_ne (nomark _) ha hb rfl).imp fun v _ _ h => by rw [h, dB]; rfl

/-! tests -/
theorem t_cm {op : CmpOp} {c : Bool} (h : EvP (wE X (.Compare a [op] [b] pos)) σ H (kB.is c).P) (hw : ∀ whole, isTrue (.Compare a [op] [b] pos) X.env whole = isTrue (.Compare a [op] [b] pos) X.env (eval (.Compare a [op] [b] pos) X.env) := by intro _; rfl) : True := trivial
theorem t_val {e : Expr} {c : Bool} (h : EvP (wE X e) σ H (kB.is c).P) (he : ∀ whole, isTrue e X.env whole = (do let v ← whole; standAt e.pos; holding [v] (truthy v)) := by intro _; rfl) : EvT (wT X e) σ H c :=
  .of (pt_val pE he) fun H1 e Q k => h H1 e _ fun v H2 e2 hv => ⟨c, hv, k _ e2⟩
/-- a comparison as a test, by scalars -/
theorem t_sc {op : CmpOp} {g : V → V → Bool} {x y : V} (ho : OpR X (compareOp op) fun x y H Q => scal x y = true ∧ Q (.bl (g x y)) H) (hm : behindInMarks op b = false) (ha : EvP (wE X a) σ H fun v _ => v = x) (hb : EvP (wE X b) σ H fun v _ => v = y) (hs : scal x y = true) :
    EvT (wT X (.Compare a [op] [b] pos)) σ H (g x y) :=
  .of (pt_cmpR ho pE pE hm) fun H1 e Q k => ha H1 e _ fun v H2 e2 hv => hb H2 (e.trans e2) _ fun u H3 e3 hu => ⟨by rw [hv, hu]; exact hs, g x y, by rw [hv, hu], k _ (e2.trans e3)⟩
theorem t_is {c d : Bool} (h : EvT tt σ H c) (e : c = d) : EvT tt σ H d := e ▸ h
theorem t_eqI (ha : EvP (wE X a) σ H (kI.is i).P) (hb : EvP (wE X b) σ H (kI.is j).P) : EvT (wT X (.Compare a [.Eq] [b] pos)) σ H (decide (i = j)) :=
  t_is (t_sc (x := .int i) (y := .int j) (g := fun x y => decide (x = y)) op_eq (nomark _) ha hb rfl) dI
theorem t_neI (ha : EvP (wE X a) σ H (kI.is i).P) (hb : EvP (wE X b) σ H (kI.is j).P) : EvT (wT X (.Compare a [.NotEq] [b] pos)) σ H (!decide (i = j)) :=
  t_is (t_sc (x := .int i) (y := .int j) (g := fun x y => !decide (x = y)) op_ne (nomark _) ha hb rfl) (by rw [dI])
theorem t_neB {i j : Bool} (ha : EvP (wE X a) σ H (kB.is i).P) (hb : EvP (wE X b) σ H (kB.is j).P) : EvT (wT X (.Compare a [.NotEq] [b] pos)) σ H (!(i == j)) :=
  t_is (t_sc (x := .bl i) (y := .bl j) (g := fun x y => !decide (x = y)) op_ne (nomark _) ha hb rfl) (by rw [dB])
theorem t_not {c : Bool} {e : Expr} (h : EvT (wT X e) σ H c) : EvT (wT X (.UnaryOp .Not e pos)) σ H (!c) := .of (pt_not pT) fun H1 e Q k => h H1 e _ k
theorem t_and {c d : Bool} (h : EvT (wT X a) σ H c) (h' : c = true → EvT (wT X b) σ H d) : EvT (wT X (.BoolOp .And [a, b] pos)) σ H (c && d) :=
  .of (PW.pt (pw_and pT (pw_and1 pT))) fun H1 e Q k => h H1 e _ fun H2 e2 => by
    cases c with
    | true => exact iteT (h' rfl H2 (e.trans e2) _ fun H3 e3 => k H3 (e2.trans e3))
    | false => exact iteF (k H2 e2)
theorem t_or {c d : Bool} (h : EvT (wT X a) σ H c) (h' : c = false → EvT (wT X b) σ H d) : EvT (wT X (.BoolOp .Or [a, b] pos)) σ H (c || d) :=
  .of (PW.pt (pw_or pT (pw_or1 pT))) fun H1 e Q k => h H1 e _ fun H2 e2 => by
    cases c with
    | false => exact iteF (h' rfl H2 (e.trans e2) _ fun H3 e3 => k H3 (e2.trans e3))
    | true => exact iteT (k H2 e2)

/-! arguments, displays -/
theorem a_nil : EvA (wA X []) σ H [] := .of pa_nil fun H1 e Q k => k _ _ ex_refl .nil
theorem a_cons {e : Expr} {es : List Expr} {m : MP} {ms : List MP} (h : EvP (wE X e) σ H m.P) (ht : EvA (wA X es) σ H ms) (hs : starEach (e :: es) X.env = (false, eval e X.env) :: starEach es X.env := by rfl) : EvA (wA X (e :: es)) σ H (m :: ms) :=
  .of (pa_cons pE pA hs) fun H1 e Q k => h H1 e _ fun v H2 e2 hv => ht H2 (e.trans e2) _ fun vs H3 e3 hvs => k _ _ (e2.trans e3) (.cons (m.mono e3 hv) hvs)
theorem e_tup {es : List Expr} {x1} {ms : List MP} (h : EvA (wA X es) σ H ms) (hl : ms.length ≤ 1000) : EvP (wE X (.Tuple es x1 pos)) σ H fun v H' => ∃ p vs, v = .ref p ∧ H' p = some (.tup vs) ∧ Paired (fun v (m : MP) => m.P v H') vs ms :=
  .of (pe_tup pA) fun H1 e Q k => h H1 e _ fun vs H2 e2 hvs => ⟨by rw [pd_len hvs]; exact Evl.sz_of (by omega), fun p hp => k _ _ (e2.trans (ex_new hp)) ⟨p, vs, rfl, upd_same, pd_mono hvs fun _ m z => m.mono (ex_new hp) z⟩⟩
theorem e_t3 {x y z : Expr} {x1} {c : Int} (hx : EvP (wE X x) σ H (kI.is i).P) (hy : EvP (wE X y) σ H (kI.is j).P) (hz : EvP (wE X z) σ H (kI.is c).P) (h1 : starEach [x, y, z] X.env = (false, eval x X.env) :: starEach [y, z] X.env := by rfl) (h2 : starEach [y, z] X.env = (false, eval y X.env) :: starEach [z] X.env := by rfl) (h3 : starEach [z] X.env = (false, eval z X.env) :: starEach [] X.env := by rfl) :
    EvP (wE X (.Tuple [x, y, z] x1 pos)) σ H ((kT3 X.K).is (i, j, c)).P :=
  (e_tup (a_cons hx (a_cons hy (a_cons hz a_nil h3) h2) h1) (by simp)).imp fun v H' _ ⟨p, vs, e, hp, q⟩ => by
    cases q with | cons r1 q => cases q with | cons r2 q => cases q with | cons r3 q => cases q; exact ⟨p, e, SqT.of (by rw [hp, r1, r2, r3])⟩
theorem e_t2 {x y : Expr} {x1} (hx : EvP (wE X x) σ H (kI.is i).P) (hy : EvP (wE X y) σ H (kI.is j).P) (h1 : starEach [x, y] X.env = (false, eval x X.env) :: starEach [y] X.env := by rfl) (h2 : starEach [y] X.env = (false, eval y X.env) :: starEach [] X.env := by rfl) :
    EvP (wE X (.Tuple [x, y] x1 pos)) σ H (kT2.is (i, j)).P :=
  (e_tup (a_cons hx (a_cons hy a_nil h2) h1) (by simp)).imp fun v H' _ ⟨p, vs, e, hp, q⟩ => by
    cases q with | cons r1 q => cases q with | cons r2 q => cases q; exact ⟨p, e, by rw [hp, r1, r2]⟩
theorem pd_is {r : Rep α} {as : List α} {vs : List V} {H : Hp} (h : Paired (fun v (m : MP) => m.P v H) vs (as.map r.is)) : Paired (r.R H) vs as := (pd_map (F := fun v (m : MP) => m.P v H) (f := r.is)).mp h
/-- [a, b, ..] of one kind: a new list -/
theorem n_lst {es : List Expr} {as : List α} (h : EvA (wA X es) σ H (as.map r.is)) (hl : as.length ≤ 1000) : EvN (wE X (.List es pos)) σ H r as :=
  .of (pe_lst pA) fun H1 e Q k => h H1 e _ fun vs H2 e2 hvs => ⟨by rw [pd_len hvs, List.length_map]; exact Evl.sz_of (by omega), fun p hp => k p vs H2 e2 hp (pd_is hvs)⟩
end
end Wp
/-! W2: statements, defs and their promises, loops, comprehensions. -/
namespace Wp
open PySem PySem.Spec PyProof.Rows L2

/-! ### promises -/
def spM (R : List MP → MP → Prop) : Sp := fun vs H Q _ => ∃ ms m, Paired (fun v (p : MP) => p.P v H) vs ms ∧ R ms m ∧ ∀ v H', Ex H H' → m.P v H' → Q v H'
structure Cal (P : Program) (w : World) (K : PySem.W.Frag) (mg : Str → Option Value) (base : Heap) (k : Nat) (x : Str) (ps : List Str) (sp : Sp) : Prop where
  ok : ∃ f fd, FnOk P w K mg base CX0 k f fd ps sp ∧ mg x = some (.ref f) ∧ PySem.W.keepIn K (.ref f) = true ∧ Binds K fd ps []
section
variable {P : Program} {w : World} {K : PySem.W.Frag} {mg : Str → Option Value} {base : Heap} {k : Nat} {x : Str} {N ps : List Str} {st : Stmt} {f : Addr} {fd : FuncData} {R : List MP → MP → Prop}
/-- THE RULE for a pure def -/
theorem Cal.mk' {sp : Sp} (F : Fun K x x st f fd) (S : FnScope N ps (defScope st)) (hm : mg x = some (.ref f)) (hb : Binds K fd ps []) (hl : ∀ vs H Q E, sp vs H Q E → vs.length = ps.length)
    (body : ∀ (cdv : Value) (A : Around) (outer : List Env) (s : Shared) (H : Hp) (vs : List V) (Q : VK) (E : XK), Room k (A.deeper (envOfC x (defScope st) s.heap.objs.size f cdv)) → sp vs H Q E →
      wS (cxOf CX0 P w K mg base N x (defScope st) f cdv A outer s H E).nox (defBody st) { nx := fun _ H' => Q .non H', rt := Q } (start N vs) H) : Cal P w K mg base (k + 1) x ps sp :=
  ⟨f, fd, F.ok S hl (fun cdv A outer s H vs Q E hr hs => ⟨_, pS, body cdv A outer s H vs Q E hr hs⟩), hm, F.kp, hb⟩
theorem Cal.pure (F : Fun K x x st f fd) (S : FnScope N ps (defScope st)) (hm : mg x = some (.ref f)) (hb : Binds K fd ps []) (hl : ∀ ms m, R ms m → ms.length = ps.length)
    (body : ∀ (cdv : Value) (A : Around) (outer : List Env) (s : Shared) (H : Hp) (vs : List V) (E : XK) (ms : List MP) (m : MP), Room k (A.deeper (envOfC x (defScope st) s.heap.objs.size f cdv)) → Paired (fun v (p : MP) => p.P v H) vs ms → R ms m →
      wS (cxOf CX0 P w K mg base N x (defScope st) f cdv A outer s H E).nox (defBody st) { nx := fun _ H' => Ex H H' ∧ m.P .non H', rt := fun v H' => Ex H H' ∧ m.P v H' } (start N vs) H) : Cal P w K mg base (k + 1) x ps (spM R) :=
  .mk' F S hm hb (fun vs H Q E ⟨ms, m, h1, h2, _⟩ => (pd_len h1).trans (hl ms m h2)) fun cdv A outer s H vs Q E hr ⟨ms, m, h1, h2, h3⟩ =>
    (body cdv A outer s H vs E ms m hr h1 h2).mono (fun σ' H' q => h3 _ _ q.1 q.2) (fun v H' q => h3 _ _ q.1 q.2) (fun _ _ q => q) fun _ _ q => q
end
section
variable {α β : Type} {X : Cx} {σ : L2.St} {H H' : Hp} {te ta tb : TE} {r : Rep α} {D : Ends} {rest : List Stmt} {k : Nat} {x : Str} {ps : List Str} {R : List MP → MP → Prop} {ms : List MP} {m : MP} {e : Expr} {es : List Expr} {p pos : Pos}
/-- a call of a pure def -/
theorem e_call (C : Cal X.prog X.w X.K X.mg X.base k x ps (spM R)) (hr : Room k X.A) (ha : EvA (wA X (e :: es)) σ H ms) (h : R ms m) (hg : Gl X x := by rfl) (hdb : (x == ("__debug__" : Str)) = false := by decide)
    (he : starEach (e :: es) X.env = (false, eval e X.env) :: starEach es X.env := by rfl) (hpl : (backTo pos (starEach es X.env)).any (·.1) = false := by rfl) : EvP (wE X (.Call (.Name x p) (e :: es) [] pos)) σ H m.P := by
  obtain ⟨f, fd, F, hm, kp, hb⟩ := C.ok
  exact .of (pe_call F hr hg hm kp hb .nil pass0 pA hdb he hpl) fun H1 e1 Q q => ha H1 e1 _ fun vs H2 e2 hv => ⟨ms, m, by rw [List.append_nil]; exact hv, h, fun v H' e3 hp => q v H' (e2.trans e3) hp⟩
theorem e_call0 (C : Cal X.prog X.w X.K X.mg X.base k x ps (spM R)) (hr : Room k X.A) (h : R [] m) (hg : Gl X x := by rfl) (hdb : (x == ("__debug__" : Str)) = false := by decide) : EvP (wE X (.Call (.Name x p) [] [] pos)) σ H m.P := by
  obtain ⟨f, fd, F, hm, kp, hb⟩ := C.ok
  exact .of (pe_call0 F hr hg hm kp hb .nil pass0 hdb) fun H1 e1 Q q => ⟨[], m, .nil, h, fun v H' e3 hp => q v H' e3 hp⟩
/-- a call, its promise as it is -/
theorem w_call {sp : Sp} {Q : VK} (C : Cal X.prog X.w X.K X.mg X.base k x ps sp) (hr : Room k X.A) (q : wA X (e :: es) σ H fun vs H1 => sp vs H1 Q E0) (hg : Gl X x := by rfl) (hdb : (x == ("__debug__" : Str)) = false := by decide)
    (he : starEach (e :: es) X.env = (false, eval e X.env) :: starEach es X.env := by rfl) (hpl : (backTo pos (starEach es X.env)).any (·.1) = false := by rfl) : wE X (.Call (.Name x p) (e :: es) [] pos) σ H Q := by
  obtain ⟨f, fd, F, hm, kp, hb⟩ := C.ok
  refine wE.of (pe_call F hr hg hm kp hb .nil pass0 pA hdb he hpl) ⟨fun pos pins s I => ?_⟩
  refine thn (q.run pos pins s I) fun us s' ⟨vs, H', I', r, z⟩ => ⟨vs, H', I', r, by show sp (vs ++ []) H' Q E0; rw [List.append_nil]; exact z⟩

/-! ### statements -/
theorem s_nil (h : D.nx σ H) : wS X [] D σ H := wS.of pss_nil h
theorem s_ret {q : V → Hp → Prop} (he : EvP (wE X e) σ H q) (h : ∀ v H', Ex H H' → q v H' → D.rt v H') : wS X (.Return (some e) pos :: rest) D σ H :=
  wS.cons (ps_ret pE) (he H ex_refl _ fun v H2 e2 hv => h v H2 e2 hv)
theorem s_ret' (h : wE X e σ H D.rt) : wS X (.Return (some e) pos :: rest) D σ H := wS.cons (ps_ret pE) h
theorem s_set {i : Nat} {y : Str} {p' : Pos} {q : V → Hp → Prop} (hN : X.N.Nodup) (he : EvP (wE X e) σ H q) (h : ∀ v H', Ex H H' → q v H' → wS X rest D (σ.set i (some v)) H') (hi : X.N[i]? = some y := by rfl) (hx : Loc X.env.scope y := by first | exact Or.inl rfl | exact Or.inr rfl)
    (hs : swapsWith e (some (.Name y p')) pos.line X.env = pure false := by rfl) (hf : X.fn y = true ∨ X.env.scope.names.lookup y = some .local := by first | exact .inl rfl | exact .inr rfl) : wS X (.Assign [.Name y p'] e pos :: rest) D σ H :=
  wS.cons (ps_set hN hi hx pE hs hf) (he H ex_refl _ fun v H2 e2 hv => h v H2 e2 hv)
theorem s_setN {i : Nat} {y : Str} {p' : Pos} {as : List α} (hN : X.N.Nodup) (he : EvN (wE X e) σ H r as) (h : ∀ a xs H', Ex H H' → H' a = none → Paired (r.R H') xs as → wS X rest D (σ.set i (some (.ref a))) (upd H' a (.lst xs))) (hi : X.N[i]? = some y := by rfl) (hx : Loc X.env.scope y := by first | exact Or.inl rfl | exact Or.inr rfl)
    (hs : swapsWith e (some (.Name y p')) pos.line X.env = pure false := by rfl) (hf : X.fn y = true ∨ X.env.scope.names.lookup y = some .local := by first | exact .inl rfl | exact .inr rfl) : wS X (.Assign [.Name y p'] e pos :: rest) D σ H :=
  wS.cons (ps_set hN hi hx pE hs hf) (he H ex_refl _ fun a xs H2 e2 hn hv => h a xs H2 e2 hn hv)
/-- the raw form -/
theorem s_setW {i : Nat} {y : Str} {p' : Pos} (hN : X.N.Nodup) (he : wE X e σ H fun v H' => wS X rest D (σ.set i (some v)) H') (hi : X.N[i]? = some y := by rfl) (hx : Loc X.env.scope y := by first | exact Or.inl rfl | exact Or.inr rfl)
    (hs : swapsWith e (some (.Name y p')) pos.line X.env = pure false := by rfl) (hf : X.fn y = true ∨ X.env.scope.names.lookup y = some .local := by first | exact .inl rfl | exact .inr rfl) : wS X (.Assign [.Name y p'] e pos :: rest) D σ H :=
  wS.cons (ps_set hN hi hx pE hs hf) he
theorem s_if {c : Expr} {a b : List Stmt} {d : Bool} (hc : EvT (wT X c) σ H d) (h1 : d = true → ∀ H', Ex H H' → wS X a { D with nx := wS X rest D } σ H') (h2 : d = false → ∀ H', Ex H H' → wS X b { D with nx := wS X rest D } σ H') : wS X (.If c a b pos :: rest) D σ H :=
  wS.cons (ps_if pT pS pS) (hc H ex_refl _ fun H2 e2 => by
    cases d with
    | true => exact iteT (h1 rfl H2 e2)
    | false => exact iteF (h2 rfl H2 e2))
theorem s_when {c : Expr} {a : List Stmt} {d : Bool} (hc : EvT (wT X c) σ H d) (h1 : d = true → ∀ H', Ex H H' → wS X a { D with nx := wS X rest D } σ H') (h2 : d = false → ∀ H', Ex H H' → wS X rest D σ H') : wS X (.If c a [] pos :: rest) D σ H :=
  s_if hc h1 fun q H' e => s_nil (h2 q H' e)
theorem s_expr {q : V → Hp → Prop} (he : EvP (wE X e) σ H q) (h : ∀ v H', Ex H H' → q v H' → wS X rest D σ H') (hs : swapsWith e none pos.line X.env = pure false := by rfl) : wS X (.Expr e pos :: rest) D σ H :=
  wS.cons (ps_expr pE hs) (he H ex_refl _ fun v H2 e2 hv => h v H2 e2 hv)
theorem s_exprW (he : wE X e σ H fun _ H' => wS X rest D σ H') (hs : swapsWith e none pos.line X.env = pure false := by rfl) : wS X (.Expr e pos :: rest) D σ H := wS.cons (ps_expr pE hs) he

/-! ### what is walked -/
/-- a source: at H it gives as, told in Hb; it goes while Hb stands -/
def SrcM (wi : TI) (σ : L2.St) (H Hb : Hp) (r : Rep α) (as : List α) : Prop := ∀ R : It → Hp → Prop, (∀ J H2 xs G, Ex H H2 → Paired (r.R Hb) xs as → Walk J as.length G (YAt xs) → (∀ H', Ex Hb H' → G H') → R J H2) → wi σ H R
def SrcP (wi : TI) (σ : L2.St) (H : Hp) (r : Rep α) (as : List α) : Prop := ∀ H1, Ex H H1 → ∀ R : It → Hp → Prop, (∀ J H2 xs G, Ex H1 H2 → Paired (r.R H2) xs as → Walk J as.length G (YAt xs) → (∀ H', Ex H2 H' → G H') → R J H2) → wi σ H1 R
theorem src_mp {wi : TI} {as : List α} (h : ∀ H1, Ex H H1 → SrcM wi σ H1 H r as) : SrcP wi σ H r as := fun H1 e R k => h H1 e R fun J H2 xs G e2 hx hw hg => k J H2 xs G e2 (pd_mono hx fun _ _ q => r.mono (e.trans e2) q) hw fun H' e3 => hg H' ((e.trans e2).trans e3)
/-- a list at a name -/
theorem src_list {tl : TE} {as : List α} (h : EvP tl σ H ((kL r).is as).P) : SrcP (iList X.K tl) σ H r as := fun H1 e R k => h H1 e _ fun v H2 e2 ⟨p, xs, e3, hx, hp⟩ => ⟨p, e3, ⟨xs, SqL.of hx⟩, k _ H2 xs _ e2 hp (by rw [← pd_len hp]; exact walk_list) fun H' e4 => SqL.of (e4 _ _ hx)⟩
theorem src_tup {tl : TE} {as : List α} (h : EvP tl σ H ((kT X.K r).is as).P) : SrcP (iTup X.K tl) σ H r as := fun H1 e R k => h H1 e _ fun v H2 e2 ⟨p, xs, e3, hx, hp⟩ => ⟨p, e3, ⟨xs, hx⟩, k _ H2 xs _ e2 hp (by rw [← pd_len hp]; exact walk_tup) fun H' e4 => ex_sqt e4 hx⟩
def iota (lo : Int) (n : Nat) : List Int := (List.range n).map fun (i : Nat) => lo + (i : Int)
theorem iota_len {lo : Int} {n : Nat} : (iota lo n).length = n := by simp [iota]
theorem iota_get {lo : Int} {n i : Nat} {a : Int} (h : (iota lo n)[i]? = some a) : i < n ∧ a = lo + i := by
  unfold iota at h
  rw [List.getElem?_map] at h
  by_cases hi : i < n
  · rw [List.getElem?_range hi] at h; simp at h; exact ⟨hi, h.symm⟩
  · rw [List.getElem?_eq_none (by simpa using hi)] at h; simp at h
theorem walk_rangeY {lo : Int} {n : Nat} : Walk (Itr lo n) (iota lo n).length (fun _ => True) (YAt ((iota lo n).map V.int)) := by
  rw [iota_len]
  refine walk_range.mono (fun _ _ => trivial) fun i H x H' hi _ y => ?_
  obtain ⟨e, e2⟩ := y
  refine ⟨e, ?_⟩
  unfold iota
  rw [e2, List.map_map, List.getElem?_map, List.getElem?_range hi]
  rfl
theorem src_r1 {ta : TA} {n : Int} {Hb : Hp} (h : EvA ta σ H [kI.is n]) (hn : n ≤ 2 ^ 60) (hn' : -(2 ^ 60) ≤ n) : SrcM (iRng1 ta) σ H Hb kI (iota 0 n.toNat) := fun R k => h H ex_refl _ fun vs H2 e2 hv => by
  cases hv with | cons r1 q => cases q; exact ⟨n, by rw [r1], by omega, by omega, k _ H2 _ _ e2 (pd_int.mpr rfl) walk_rangeY fun _ _ => trivial⟩
theorem src_r2 {ta : TA} {lo n : Int} {Hb : Hp} (h : EvA ta σ H [kI.is lo, kI.is n]) (hn : -(2 ^ 60) ≤ lo ∧ lo ≤ 2 ^ 60 ∧ -(2 ^ 60) ≤ n ∧ n ≤ 2 ^ 60) : SrcM (iRng2 ta) σ H Hb kI (iota lo (n - lo).toNat) := fun R k => h H ex_refl _ fun vs H2 e2 hv => by
  cases hv with | cons r1 q => cases q with | cons r2 q => cases q; exact ⟨lo, n, by rw [r1, r2], by omega, k _ H2 _ _ e2 (pd_int.mpr rfl) walk_rangeY fun _ _ => trivial⟩

/-! ### for -/
variable {tg iter : Expr} {body : List Stmt} {wi : TI} {g : TG} {as : List α} {Hb : Hp}
theorem s_forM (hc : X.calm = true) (hp : PassesOwn (model X.prog X.w) X.A X.env X.xe) (hi : PI X tg iter wi) (hg : PG X tg g) (src : SrcM wi σ H Hb r as) (Pv : Nat → L2.St → Hp → Prop) (h0 : ∀ H2, Ex H H2 → Pv 0 σ H2) (hx : ∀ i σ' H', Pv i σ' H' → Ex Hb H')
    (hs : ∀ i a x σ' H', as[i]? = some a → r.R Hb x a → Pv i σ' H' → g x σ' H' fun σ2 H2 => wS X body { nx := Pv (i + 1), rt := D.rt, ct := Pv (i + 1), bk := wS X rest D } σ2 H2) (hd : ∀ σ' H', Pv as.length σ' H' → wS X rest D σ' H')
    (hf : ∀ x, foldedSetIterable iter X.env x = pure x := by intro _; rfl) : wS X (.For tg iter body [] pos :: rest) D σ H :=
  wS.cons (ps_for hp hc hi hg pS hf) (src _ fun J H2 xs G e2 hxs hw hG => for_it (D := { D with nx := wS X rest D }) hw Pv (h0 H2 e2) (fun i σ' H' _ p => hG H' (hx i σ' H' p))
    (fun i x σ' H1 H' hi p y => by
      obtain ⟨e, y⟩ := y
      subst e
      obtain ⟨a, ha, hr⟩ := pd_get hxs y
      exact hs i a x σ' _ ha hr p) hd)
theorem s_forP (hc : X.calm = true) (hp : PassesOwn (model X.prog X.w) X.A X.env X.xe) (hi : PI X tg iter wi) (hg : PG X tg g) (src : SrcP wi σ H r as) (Pv : Nat → L2.St → Hp → Prop) (h0 : ∀ H2, Ex H H2 → Pv 0 σ H2) (hx : ∀ i σ' H' H'', Pv i σ' H' → Ex H' H'' → Pv i σ' H'')
    (hs : ∀ i a x σ' H', as[i]? = some a → r.R H' x a → Pv i σ' H' → ∀ Hb, Ex Hb H' → g x σ' H' fun σ2 H2 => wS X body { nx := fun σ3 H3 => Ex Hb H3 ∧ Pv (i + 1) σ3 H3, rt := D.rt, ct := fun σ3 H3 => Ex Hb H3 ∧ Pv (i + 1) σ3 H3, bk := wS X rest D } σ2 H2) (hd : ∀ σ' H', Pv as.length σ' H' → wS X rest D σ' H')
    (hf : ∀ x, foldedSetIterable iter X.env x = pure x := by intro _; rfl) : wS X (.For tg iter body [] pos :: rest) D σ H :=
  wS.cons (ps_for hp hc hi hg pS hf) (src H ex_refl _ fun J H2 xs G e2 hxs hw hG => for_it (D := { D with nx := wS X rest D }) hw (fun i σ' H' => Ex H2 H' ∧ Pv i σ' H') ⟨ex_refl, h0 H2 e2⟩ (fun i σ' H' _ p => hG H' p.1)
    (fun i x σ' H1 H' hi p y => by
      obtain ⟨e, y⟩ := y
      subst e
      obtain ⟨a, ha, hr⟩ := pd_get hxs y
      exact hs i a x σ' _ ha (r.mono p.1 hr) p.2 H2 p.1) fun σ' H' p => hd σ' H' p.2)
/-- targets -/
theorem g_t3 {i j k : Nat} {t : Int × Int × Int} {x : V} {Q : L2.St → Hp → Prop} (h : (kT3 X.K).R H x t) (q : Q (((σ.set i (some (.int t.1))).set j (some (.int t.2.1))).set k (some (.int t.2.2))) H) : gTup X.K 3 (gCons (gName i) (gCons (gName j) (gCons (gName k) gNil))) x σ H Q := by
  obtain ⟨p, rfl, hs⟩ := h
  exact ⟨p, _, rfl, hs, rfl, _, _, rfl, _, _, rfl, _, _, rfl, rfl, q⟩
theorem g_t2 {i j : Nat} {t : Int × Int} {x : V} {Q : L2.St → Hp → Prop} (h : kT2.R H x t) (q : Q ((σ.set i (some (.int t.1))).set j (some (.int t.2))) H) : gTup X.K 2 (gCons (gName i) (gCons (gName j) gNil)) x σ H Q := by
  obtain ⟨p, rfl, hs⟩ := h
  exact ⟨p, _, rfl, SqT.of hs, rfl, _, _, rfl, _, _, rfl, rfl, q⟩

/-! ### list comprehensions -/
/-- a block's element, test: in any of the block's contexts -/
structure bE (X : Cx) (scope : Scope) (e : Expr) (σ : L2.St) (H : Hp) (Q : VK) : Prop where
  run : ∀ (s : Shared) (H0 : Hp) (C : Addr) (cl : List (Str × Addr)) (fp : List Addr), wE (X.blk s H0 scope (compEnvC scope cl C X.env) fp) e σ H Q
structure bT (X : Cx) (scope : Scope) (e : Expr) (σ : L2.St) (H : Hp) (Q : Bool → Hp → Prop) : Prop where
  run : ∀ (s : Shared) (H0 : Hp) (C : Addr) (cl : List (Str × Addr)) (fp : List Addr), wT (X.blk s H0 scope (compEnvC scope cl C X.env) fp) e σ H Q
theorem bE.frame {scope : Scope} {a : Addr} {o : HO} {Q : VK} (h : H a = some o) (p : Hid o) (w : bE X scope e σ (hd H a) fun v H' => H' a = none → Q v (upd H' a o)) : bE X scope e σ H Q := ⟨fun s H0 C cl fp => wE.frame h p (w.run s H0 C cl fp)⟩
theorem bT.frame {scope : Scope} {a : Addr} {o : HO} {Q : Bool → Hp → Prop} (h : H a = some o) (p : Hid o) (w : bT X scope e σ (hd H a) fun v H' => H' a = none → Q v (upd H' a o)) : bT X scope e σ H Q := ⟨fun s H0 C cl fp => wT.frame h p (w.run s H0 C cl fp)⟩
/-- te, tt stand a frame -/
def FrE (te : TE) : Prop := ∀ {σ : L2.St} {H : Hp} {a : Addr} {o : HO} {Q : VK}, H a = some o → Hid o → (te σ (hd H a) fun v H' => H' a = none → Q v (upd H' a o)) → te σ H Q
def FrT (tt : TT) : Prop := ∀ {σ : L2.St} {H : Hp} {a : Addr} {o : HO} {Q : Bool → Hp → Prop}, H a = some o → Hid o → (tt σ (hd H a) fun v H' => H' a = none → Q v (upd H' a o)) → tt σ H Q
theorem frE {scope : Scope} : FrE (bE X scope e) := fun h p w => bE.frame h p w
theorem frT {scope : Scope} : FrT (bT X scope e) := fun h p w => bT.frame h p w
theorem frY : FrT tYes := fun {σ H a o Q} h p w => by
  have z := w hd_same
  rw [upd_hd h] at z
  exact z
/-- the reading of a comprehension: the source, each turn's slots, its test, its element -/
theorem lc_ok {γ : Type} {rc : Rep γ} {tt : TT} {te : TE} {vs : List Nat} (fe : FrE te) (ft : FrT tt) (src : SrcP wi σ H r as) (f : α → Bool) (F : α → γ) (sl : V → α → L2.St) (hlen : as.length ≤ 1000000)
    (hg : ∀ a x H' (Q : L2.St → Hp → Prop), a ∈ as → r.R H' x a → Q (sl x a) H' → g x (wipe σ vs) H' Q) (hw : ∀ x a, wipe (sl x a) vs = wipe σ vs)
    (ht : ∀ a x H', a ∈ as → Ex H H' → r.R H' x a → EvT tt (sl x a) H' (f a)) (he : ∀ a x H', a ∈ as → Ex H H' → r.R H' x a → f a = true → EvP te (sl x a) H' (rc.is (F a)).P) :
    EvN (tLc wi g tt te vs) σ H rc ((as.filter f).map F) := fun H1 e1 Q k => src H1 e1 _ fun J H2 xs G e2 hxs hwk hG D hD => by
  refine lc_it hwk (fun i H' => ∃ Hd acc, H' = upd Hd D (.lst acc) ∧ Hd D = none ∧ Ex H2 Hd ∧ Paired (rc.R Hd) acc (((as.take i).filter f).map F)) ⟨H2, [], rfl, hD, ex_refl, by simpa using Paired.nil⟩ ?_ ?_ ?_
  · rintro i H' hi ⟨Hd, acc, rfl, hn, he2, hp⟩
    exact hG _ (he2.trans (ex_new hn))
  · rintro i x H' H'' hi ⟨Hd, acc, rfl, hn, he2, hp⟩ ⟨rfl, hy⟩
    obtain ⟨a, ha, hr⟩ := pd_get hxs hy
    have hm : a ∈ as := List.mem_of_getElem? ha
    have hr1 : r.R Hd x a := r.mono he2 hr
    have er : Ex H Hd := e1.trans (e2.trans he2)
    have htk : as.take (i + 1) = as.take i ++ [a] := by rw [List.take_add_one, ha]; rfl
    have hla : acc.length ≤ 1000000 := by
      rw [pd_len hp, List.length_map]
      have := List.length_filter_le f (as.take i)
      have := List.length_take_le i as
      have := List.length_take_le' i as
      omega
    have hlt : acc.length < sizeLine := by rw [sizeLine_eq]; omega
    refine hg a x _ _ hm (r.mono (ex_new hn) hr1) ⟨hw x a, ?_⟩
    refine ft upd_same trivial ?_
    rw [hd_upd hn]
    refine ht a x Hd hm er hr1 Hd ex_refl _ fun H3 e3 hn3 => ?_
    cases hf : f a with
    | false =>
      refine iteF ⟨H3, acc, rfl, hn3, he2.trans e3, ?_⟩
      rw [htk, List.filter_append, List.filter_cons, if_neg (by rw [hf]; decide)]
      simp only [List.filter_nil, List.append_nil]
      exact pd_mono hp fun _ _ q => rc.mono e3 q
    | true =>
      refine iteT ?_
      refine fe upd_same trivial ?_
      rw [hd_upd hn3]
      refine he a x H3 hm (er.trans e3) (r.mono e3 hr1) hf H3 ex_refl _ fun v H4 e4 hv hn4 => ⟨acc, upd_same, hlt, H4, acc ++ [v], upd_upd, hn4, (he2.trans e3).trans e4, ?_⟩
      rw [htk, List.filter_append, List.filter_cons, if_pos hf, List.filter_nil, List.map_append]
      exact pd_app (pd_mono hp fun _ _ q => rc.mono (e3.trans e4) q) (.cons hv .nil)
  · rintro H' ⟨Hd, acc, rfl, hn, he2, hp⟩
    rw [List.take_length] at hp
    exact k D acc Hd (e2.trans he2) hn hp
end
end Wp
/-! W3: comprehensions as expressions, lists and tuples, == of data. -/
namespace Wp
open PySem PySem.Spec PyProof.Rows L2
section
variable {α β γ : Type} {X : Cx} {σ : L2.St} {H H' : Hp} {te ta tb : TE} {r : Rep α} {rc : Rep γ} {D : Ends} {rest : List Stmt} {e elt tg iter c : Expr} {es : List Expr} {pos : Pos} {scope : Scope} {own : List (Str × Nat)} {wi : TI} {g : TG} {as : List α}

theorem bE_of {p : V → Hp → Prop} (h : ∀ (s : Shared) (H0 : Hp) (C : Addr) (cl : List (Str × Addr)) (fp : List Addr), EvP (wE (X.blk s H0 scope (compEnvC scope cl C X.env) fp) e) σ H p) : EvP (bE X scope e) σ H p := fun H1 a Q k => ⟨fun s H0 C cl fp => h s H0 C cl fp H1 a Q k⟩
theorem bT_of {b : Bool} (h : ∀ (s : Shared) (H0 : Hp) (C : Addr) (cl : List (Str × Addr)) (fp : List Addr), EvT (wT (X.blk s H0 scope (compEnvC scope cl C X.env) fp) e) σ H b) : EvT (bT X scope e) σ H b := fun H1 a Q k => ⟨fun s H0 C cl fp => h s H0 C cl fp H1 a Q k⟩
theorem pbE : ∀ (s : Shared) (H : Hp) (C : Addr) (cl : List (Str × Addr)) (fp : List Addr), PE (X.blk s H scope (compEnvC scope cl C X.env) fp) e (bE X scope e) := fun s H C cl fp => ⟨fun pins st σ H' Q I h => (h.run s H C cl fp).run pins st I⟩
theorem pbT : ∀ (s : Shared) (H : Hp) (C : Addr) (cl : List (Str × Addr)) (fp : List Addr), PT (X.blk s H scope (compEnvC scope cl C X.env) fp) e (bT X scope e) := fun s H C cl fp => ⟨fun pins st σ H' Q I h => (h.run s H C cl fp).run pins st I⟩

theorem filter_true {l : List α} : (l.filter fun _ => true) = l := by simp
/-- [elt for tg in iter] -/
theorem n_lc (hc : X.calm = true) (hN : X.N.Nodup) (hi : PI X tg iter wi) (ok : BlkOk X.N X.env.scope scope own)
    (hgP : ∀ (s : Shared) (H : Hp) (C : Addr) (cl : List (Str × Addr)) (fp : List Addr), PG (X.blk s H scope (compEnvC scope cl C X.env) fp) tg g) (src : SrcP wi σ H r as) (F : α → γ) (sl : V → α → L2.St) (hlen : as.length ≤ 1000000)
    (hg : ∀ a x H' (Q : L2.St → Hp → Prop), a ∈ as → r.R H' x a → Q (sl x a) H' → g x (wipe σ (own.map (·.2))) H' Q) (hw : ∀ x a, wipe (sl x a) (own.map (·.2)) = wipe σ (own.map (·.2)))
    (he : ∀ a x H', a ∈ as → Ex H H' → r.R H' x a → EvP (bE X scope elt) (sl x a) H' (rc.is (F a)).P) (hs : ∀ x, foldedSetIterable iter X.env x = pure x := by intro _; rfl) :
    EvN (wE X (.ListComp elt [⟨tg, iter, [], 0⟩] scope pos)) σ H rc (as.map F) :=
  .of (pe_lc hc hN hi ok hgP (fun _ _ _ _ _ => pts_nil) pbE hs) (by
    have z := lc_ok (tt := tYes) (te := bE X scope elt) (vs := own.map (·.2)) frE frY src (fun _ => true) F sl hlen hg hw (fun _ _ _ _ _ _ H1 e Q k => k H1 ex_refl) (fun a x H' h1 h2 h3 _ => he a x H' h1 h2 h3)
    rw [filter_true] at z
    exact z)
/-- [elt for tg in iter if c] -/
theorem n_lcIf (hc : X.calm = true) (hN : X.N.Nodup) (hi : PI X tg iter wi) (ok : BlkOk X.N X.env.scope scope own)
    (hgP : ∀ (s : Shared) (H : Hp) (C : Addr) (cl : List (Str × Addr)) (fp : List Addr), PG (X.blk s H scope (compEnvC scope cl C X.env) fp) tg g) (src : SrcP wi σ H r as) (f : α → Bool) (F : α → γ) (sl : V → α → L2.St) (hlen : as.length ≤ 1000000)
    (hg : ∀ a x H' (Q : L2.St → Hp → Prop), a ∈ as → r.R H' x a → Q (sl x a) H' → g x (wipe σ (own.map (·.2))) H' Q) (hw : ∀ x a, wipe (sl x a) (own.map (·.2)) = wipe σ (own.map (·.2)))
    (ht : ∀ a x H', a ∈ as → Ex H H' → r.R H' x a → EvT (bT X scope c) (sl x a) H' (f a))
    (he : ∀ a x H', a ∈ as → Ex H H' → r.R H' x a → f a = true → EvP (bE X scope elt) (sl x a) H' (rc.is (F a)).P) (hs : ∀ x, foldedSetIterable iter X.env x = pure x := by intro _; rfl) :
    EvN (wE X (.ListComp elt [⟨tg, iter, [c], 0⟩] scope pos)) σ H rc ((as.filter f).map F) :=
  .of (pe_lc hc hN hi ok hgP (fun s H C cl fp => pts_one (pbT s H C cl fp)) pbE hs)
    (lc_ok (tt := bT X scope c) (te := bE X scope elt) (vs := own.map (·.2)) frE frT src f F sl hlen hg hw ht he)
/-- y = [elt for tg in iter] -/
theorem s_setLc {i : Nat} {y : Str} {py pos' : Pos} (hc : X.calm = true) (hN : X.N.Nodup) (hi : PI X tg iter wi) (ok : BlkOk X.N X.env.scope scope own)
    (hgP : ∀ (s : Shared) (H : Hp) (C : Addr) (cl : List (Str × Addr)) (fp : List Addr), PG (X.blk s H scope (compEnvC scope cl C X.env) fp) tg g) (src : SrcP wi σ H r as) (F : α → γ) (sl : V → α → L2.St) (hlen : as.length ≤ 1000000)
    (hg : ∀ a x H' (Q : L2.St → Hp → Prop), a ∈ as → r.R H' x a → Q (sl x a) H' → g x (wipe σ (own.map (·.2))) H' Q) (hw : ∀ x a, wipe (sl x a) (own.map (·.2)) = wipe σ (own.map (·.2)))
    (he : ∀ a x H', a ∈ as → Ex H H' → r.R H' x a → EvP (bE X scope elt) (sl x a) H' (rc.is (F a)).P)
    (h : ∀ a xs H', Ex H H' → H' a = none → Paired (rc.R H') xs (as.map F) → wS X rest D (σ.set i (some (.ref a))) (upd H' a (.lst xs)))
    (hs : ∀ x, foldedSetIterable iter X.env x = pure x := by intro _; rfl) (hy : X.N[i]? = some y := by rfl) (hyl : X.env.scope.names.lookup y = some .local := by rfl)
    (hsw : swapsWith (.ListComp elt [⟨tg, iter, [], 0⟩] scope pos) (some (.Name y py)) pos'.line X.env = pure true := by exact sw_true rfl rfl rfl (by decide +kernel)) :
    wS X (.Assign [.Name y py] (.ListComp elt [⟨tg, iter, [], 0⟩] scope pos) pos' :: rest) D σ H := by
  refine wS.cons (ps_setLc hc hN hy hyl hsw hi ok hgP (fun _ _ _ _ _ => pts_nil) pbE hs) ?_
  have z := lc_ok (tt := tYes) (te := bE X scope elt) (vs := own.map (·.2)) frE frY src (fun _ => true) F sl hlen hg hw (fun _ _ _ _ _ _ H1 e Q k => k H1 ex_refl) (fun a x H' h1 h2 h3 _ => he a x H' h1 h2 h3)
  rw [filter_true] at z
  exact z H ex_refl _ fun p xs H2 e2 hn hx => h p xs H2 e2 hn hx
/-- y = [elt for tg in iter if c] -/
theorem s_setLcIf {i : Nat} {y : Str} {py pos' : Pos} (hc : X.calm = true) (hN : X.N.Nodup) (hi : PI X tg iter wi) (ok : BlkOk X.N X.env.scope scope own)
    (hgP : ∀ (s : Shared) (H : Hp) (C : Addr) (cl : List (Str × Addr)) (fp : List Addr), PG (X.blk s H scope (compEnvC scope cl C X.env) fp) tg g) (src : SrcP wi σ H r as) (f : α → Bool) (F : α → γ) (sl : V → α → L2.St) (hlen : as.length ≤ 1000000)
    (hg : ∀ a x H' (Q : L2.St → Hp → Prop), a ∈ as → r.R H' x a → Q (sl x a) H' → g x (wipe σ (own.map (·.2))) H' Q) (hw : ∀ x a, wipe (sl x a) (own.map (·.2)) = wipe σ (own.map (·.2)))
    (ht : ∀ a x H', a ∈ as → Ex H H' → r.R H' x a → EvT (bT X scope c) (sl x a) H' (f a))
    (he : ∀ a x H', a ∈ as → Ex H H' → r.R H' x a → f a = true → EvP (bE X scope elt) (sl x a) H' (rc.is (F a)).P)
    (h : ∀ a xs H', Ex H H' → H' a = none → Paired (rc.R H') xs ((as.filter f).map F) → wS X rest D (σ.set i (some (.ref a))) (upd H' a (.lst xs)))
    (hs : ∀ x, foldedSetIterable iter X.env x = pure x := by intro _; rfl) (hy : X.N[i]? = some y := by rfl) (hyl : X.env.scope.names.lookup y = some .local := by rfl)
    (hsw : swapsWith (.ListComp elt [⟨tg, iter, [c], 0⟩] scope pos) (some (.Name y py)) pos'.line X.env = pure true := by exact sw_true rfl rfl rfl (by decide +kernel)) :
    wS X (.Assign [.Name y py] (.ListComp elt [⟨tg, iter, [c], 0⟩] scope pos) pos' :: rest) D σ H := by
  refine wS.cons (ps_setLc hc hN hy hyl hsw hi ok hgP (fun s H C cl fp => pts_one (pbT s H C cl fp)) pbE hs) ?_
  have z := lc_ok (tt := bT X scope c) (te := bE X scope elt) (vs := own.map (·.2)) frE frT src f F sl hlen hg hw ht he
  exact z H ex_refl _ fun p xs H2 e2 hn hx => h p xs H2 e2 hn hx

/-! two clauses -/
theorem ex_lay {Hd H' : Hp} {D : Addr} {o : HO} (e : Ex (upd Hd D o) H') (h : Hd D = none) : H' = upd (hd H' D) D o ∧ Ex Hd (hd H' D) := by
  refine ⟨(upd_hd (e _ _ upd_same)).symm, ex_of_hd h ((ex_new h).trans e)⟩
/-- a source that may make new things on the way; what it made is told where the list at D is unseen -/
def SrcE (wi : TI) (σ : L2.St) (H : Hp) (r : Rep α) (as : List α) : Prop := ∀ H1, Ex H H1 → ∀ R : It → Hp → Prop, (∀ J H2 G Y, Ex H1 H2 → Walk J as.length G Y → (∀ H', Ex H2 H' → G H') →
  (∀ i H x H', Y i H x H' → ∃ a, as[i]? = some a ∧ ∀ Hd D o, H = upd Hd D o → Hd D = none → Ex H2 Hd → ∃ Hd', H' = upd Hd' D o ∧ Hd' D = none ∧ Ex Hd Hd' ∧ r.R Hd' x a) → R J H2) → wi σ H1 R
theorem SrcP.toE (h : SrcP wi σ H r as) : SrcE wi σ H r as := fun H1 e1 R k => h H1 e1 R fun J H2 xs G e2 hxs hw hG => k J H2 G _ e2 hw hG fun i H x H' y => by
  obtain ⟨rfl, hy⟩ := y
  obtain ⟨a, ha, hr⟩ := pd_get hxs hy
  exact ⟨a, ha, fun Hd D o e hn he => ⟨Hd, e, hn, ex_refl, r.mono he hr⟩⟩
theorem lc2_ok {δ : Type} {r1 : Rep β} {rd : Rep δ} {wi1 : TI} {g1 : TG} {te : TE} {vs vs1 : List Nat} (fe : FrE te) (src : SrcE wi σ H r as) (bs : α → List β) (F : α → β → δ) (sl : V → α → L2.St) (sl1 : V → α → V → β → L2.St) (B : Nat) (hB : as.length * B ≤ 1000000) (hbs : ∀ a ∈ as, (bs a).length ≤ B)
    (hg : ∀ a x H' (Q : L2.St → Hp → Prop), a ∈ as → r.R H' x a → Q (sl x a) H' → g x (wipe σ vs) H' Q) (hw : ∀ x a, wipe (sl x a) vs = wipe σ vs)
    (hsrc : ∀ a x Hd H', a ∈ as → Ex H Hd → r.R Hd x a → Ex Hd H' → SrcM wi1 (sl x a) H' Hd r1 (bs a))
    (hg1 : ∀ a x b y H' (Q : L2.St → Hp → Prop), a ∈ as → b ∈ bs a → r1.R H' y b → Q (sl1 x a y b) H' → g1 y (wipe (sl x a) vs1) H' Q) (hw1 : ∀ x a y b, wipe (sl1 x a y b) vs1 = wipe (sl x a) vs1)
    (he : ∀ a x b y H', a ∈ as → b ∈ bs a → Ex H H' → r.R H' x a → r1.R H' y b → EvP te (sl1 x a y b) H' (rd.is (F a b)).P) :
    EvN (tLc2 wi g tYes wi1 g1 tYes te vs vs1) σ H rd (as.flatMap fun a => (bs a).map (F a)) := fun H1 e1 Q k => src H1 e1 _ fun J H2 G Y e2 hwk hG hY D hD => by
  have Blen : ∀ (i : Nat), i ≤ as.length → ((as.take i).flatMap fun a => (bs a).map (F a)).length ≤ i * B := by
    intro i
    induction i with
    | zero => intro _; simp
    | succ i ih =>
      intro hi
      have hlt : i < as.length := by omega
      rw [List.take_add_one, List.getElem?_eq_getElem hlt, List.flatMap_append, List.length_append, Nat.succ_mul]
      have := ih (by omega)
      have h2 := hbs as[i] (List.getElem_mem hlt)
      simp only [Option.toList_some, List.flatMap_cons, List.flatMap_nil, List.append_nil, List.length_map]
      omega
  refine ⟨fun i m H' => m = as.length - i ∧ i ≤ as.length ∧ ∃ Hd acc, H' = upd Hd D (.lst acc) ∧ Hd D = none ∧ Ex H2 Hd ∧ Paired (rd.R Hd) acc ((as.take i).flatMap fun a => (bs a).map (F a)), ⟨_, rfl, Nat.zero_le _, H2, [], rfl, hD, ex_refl, by simpa using Paired.nil⟩, ?_⟩
  rintro i m H' ⟨rfl, hi, Hd, acc, rfl, hn, he2, hp⟩
  have hGd : G (upd Hd D (.lst acc)) := hG _ (he2.trans (ex_new hn))
  by_cases hlt : i < as.length
  · refine .inr ⟨hwk.goes i _ hlt hGd, fun H' => i + 1 ≤ as.length ∧ ∃ Hd acc, H' = upd Hd D (.lst acc) ∧ Hd D = none ∧ Ex H2 Hd ∧ Paired (rd.R Hd) acc ((as.take (i + 1)).flatMap fun a => (bs a).map (F a)),
      fun H' h => ⟨as.length - (i + 1), by omega, rfl, h.1, h.2⟩, fun x H'' hy => ?_⟩
    obtain ⟨a, ha, hlay⟩ := hY i _ x H'' (hwk.yields i _ x H'' hlt hGd hy)
    obtain ⟨Hd0, rfl, hn0, eHd, hr1⟩ := hlay Hd D _ rfl hn he2
    replace hp := pd_mono hp fun _ _ q => rd.mono eHd q
    replace he2 := he2.trans eHd
    replace hn := hn0
    have hm : a ∈ as := List.mem_of_getElem? ha
    have er : Ex H Hd0 := e1.trans (e2.trans he2)
    have htk : as.take (i + 1) = as.take i ++ [a] := by rw [List.take_add_one, ha]; rfl
    refine hg a x _ _ hm (r.mono (ex_new hn) hr1) ⟨hw x a, ?_⟩
    unfold tYes
    dsimp only
    rw [if_pos rfl]
    refine hsrc a x Hd0 _ hm er hr1 (ex_new hn) _ fun J1 H4 ys G1 e4 hys hwk1 hG1 => ?_
    obtain ⟨e5, e6⟩ := ex_lay e4 hn
    refine ⟨fun j k H' => k = (bs a).length - j ∧ j ≤ (bs a).length ∧ ∃ Hd1 acc1, H' = upd Hd1 D (.lst acc1) ∧ Hd1 D = none ∧ Ex Hd0 Hd1 ∧ Paired (rd.R Hd1) acc1 (((as.take i).flatMap fun a => (bs a).map (F a)) ++ ((bs a).take j).map (F a)),
      ⟨_, rfl, Nat.zero_le _, hd H4 D, acc, e5, hd_same, e6, by simpa using pd_mono hp fun _ _ q => rd.mono e6 q⟩, ?_⟩
    rintro j k H' ⟨rfl, hj, Hd1, acc1, rfl, hn1, he3, hp1⟩
    have hGd1 : G1 (upd Hd1 D (.lst acc1)) := hG1 _ (he3.trans (ex_new hn1))
    by_cases hjt : j < (bs a).length
    · refine .inr ⟨hwk1.goes j _ hjt hGd1, fun H' => j + 1 ≤ (bs a).length ∧ ∃ Hd1 acc1, H' = upd Hd1 D (.lst acc1) ∧ Hd1 D = none ∧ Ex Hd0 Hd1 ∧ Paired (rd.R Hd1) acc1 (((as.take i).flatMap fun a => (bs a).map (F a)) ++ ((bs a).take (j + 1)).map (F a)),
        fun H' h => ⟨(bs a).length - (j + 1), by omega, rfl, h.1, h.2⟩, fun y H'' hz => ?_⟩
      obtain ⟨rfl, hz2⟩ := hwk1.yields j _ y H'' hjt hGd1 hz
      obtain ⟨b, hb, hrb⟩ := pd_get hys hz2
      have hmb : b ∈ bs a := List.mem_of_getElem? hb
      have hrb1 : r1.R Hd1 y b := r1.mono he3 hrb
      have htb : (bs a).take (j + 1) = (bs a).take j ++ [b] := by rw [List.take_add_one, hb]; rfl
      refine hg1 a x b y _ _ hm hmb (r1.mono (ex_new hn1) hrb1) ⟨hw1 x a y b, ?_⟩
      rw [if_pos rfl]
      refine fe upd_same trivial ?_
      rw [hd_upd hn1]
      have hal : acc1.length < sizeLine := by
        have h1 := pd_len hp1
        rw [List.length_append, List.length_map, List.length_take] at h1
        have h2 := Blen i hi
        have h3 := hbs a hm
        have h4 : (i + 1) * B ≤ as.length * B := Nat.mul_le_mul_right B hlt
        rw [Nat.succ_mul] at h4
        rw [sizeLine_eq]
        omega
      refine he a x b y Hd1 hm hmb (er.trans he3) (r.mono he3 hr1) hrb1 Hd1 ex_refl _ fun v H7 e7 hv hn7 => ⟨acc1, upd_same, hal, hjt, H7, acc1 ++ [v], upd_upd, hn7, he3.trans e7, ?_⟩
      rw [htb, List.map_append, ← List.append_assoc]
      exact pd_app (pd_mono hp1 fun _ _ q => rd.mono e7 q) (.cons hv .nil)
    · have e : j = (bs a).length := by omega
      subst e
      refine .inl ⟨hwk1.stops _ hGd1, hlt, Hd1, acc1, rfl, hn1, he2.trans he3, ?_⟩
      rw [List.take_length] at hp1
      rw [htk, List.flatMap_append]
      simpa using hp1
  · have e : i = as.length := by omega
    subst e
    refine .inl ⟨hwk.stops _ hGd, ?_⟩
    rw [List.take_length] at hp
    exact k D acc Hd (e2.trans he2) hn hp
/-- [elt for tg in iter for tg1 in iter1] -/
theorem n_lc2 {δ : Type} {r1 : Rep β} {rd : Rep δ} {tg1 iter1 : Expr} {wi1 : TI} {g1 : TG} {vs1 : List Nat} (hc : X.calm = true) (hN : X.N.Nodup) (hi : PI X tg iter wi) (ok : BlkOk X.N X.env.scope scope own) (hv : ∀ i ∈ vs1, i ∈ own.map (·.2))
    (hgP : ∀ (s : Shared) (H : Hp) (C : Addr) (cl : List (Str × Addr)) (fp : List Addr), PG (X.blk s H scope (compEnvC scope cl C X.env) fp) tg g)
    (hi1 : ∀ (s : Shared) (H : Hp) (C : Addr) (cl : List (Str × Addr)) (fp : List Addr), PI (X.blk s H scope (compEnvC scope cl C X.env) fp) tg1 iter1 wi1)
    (hgP1 : ∀ (s : Shared) (H : Hp) (C : Addr) (cl : List (Str × Addr)) (fp : List Addr), PG (X.blk s H scope (compEnvC scope cl C X.env) fp) tg1 g1)
    (src : SrcE wi σ H r as) (bs : α → List β) (F : α → β → δ) (sl : V → α → L2.St) (sl1 : V → α → V → β → L2.St) (B : Nat) (hB : as.length * B ≤ 1000000) (hbs : ∀ a ∈ as, (bs a).length ≤ B)
    (hg : ∀ a x H' (Q : L2.St → Hp → Prop), a ∈ as → r.R H' x a → Q (sl x a) H' → g x (wipe σ (own.map (·.2))) H' Q) (hw : ∀ x a, wipe (sl x a) (own.map (·.2)) = wipe σ (own.map (·.2)))
    (hsrc : ∀ a x Hd H', a ∈ as → Ex H Hd → r.R Hd x a → Ex Hd H' → SrcM wi1 (sl x a) H' Hd r1 (bs a))
    (hg1 : ∀ a x b y H' (Q : L2.St → Hp → Prop), a ∈ as → b ∈ bs a → r1.R H' y b → Q (sl1 x a y b) H' → g1 y (wipe (sl x a) vs1) H' Q) (hw1 : ∀ x a y b, wipe (sl1 x a y b) vs1 = wipe (sl x a) vs1)
    (he : ∀ a x b y H', a ∈ as → b ∈ bs a → Ex H H' → r.R H' x a → r1.R H' y b → EvP (bE X scope elt) (sl1 x a y b) H' (rd.is (F a b)).P)
    (hs : ∀ x, foldedSetIterable iter X.env x = pure x := by intro _; rfl) (hs1 : ∀ env x, foldedSetIterable iter1 env x = pure x := by intro _ _; rfl) :
    EvN (wE X (.ListComp elt [⟨tg, iter, [], 0⟩, ⟨tg1, iter1, [], 0⟩] scope pos)) σ H rd (as.flatMap fun a => (bs a).map (F a)) :=
  .of (pe_lc2 hc hN hi ok hv hgP (fun _ _ _ _ _ => pts_nil) hi1 hgP1 (fun _ _ _ _ _ => pts_nil) pbE hs hs1) (lc2_ok (te := bE X scope elt) frE src bs F sl sl1 B hB hbs hg hw hsrc hg1 hw1 he)

/-! ### built-ins -/
variable {a b : Expr} {p : Pos} {i j : Int}
theorem e_bltn {id : String} {rr : List V → Hp → VK → Prop} {x : Str} {ms : List MP} {q : V → Hp → Prop} (hc : CallR X (.builtin id) rr) (hm : X.mg x = none) (hv : bootBuiltins x = some (.builtin id)) (ha : EvA (wA X (e :: es)) σ H ms)
    (h : ∀ vs H1, Ex H H1 → Paired (fun v (m : MP) => m.P v H1) vs ms → ∀ Q : VK, (∀ v H2, Ex H1 H2 → q v H2 → Q v H2) → rr vs H1 Q) (hg : Gl X x := by rfl) (hn : x ≠ "__name__" := by decide) (hdb : (x == ("__debug__" : Str)) = false := by decide)
    (he : starEach (e :: es) X.env = (false, eval e X.env) :: starEach es X.env := by rfl) (hpl : (backTo pos (starEach es X.env)).any (·.1) = false := by rfl) : EvP (wE X (.Call (.Name x p) (e :: es) [] pos)) σ H q :=
  .of (pe_callB hc hg hm hv pA hn hdb he hpl) fun H1 e1 Q k => ha H1 e1 _ fun vs H2 e2 hvs => h vs H2 (e1.trans e2) hvs Q fun v H3 e3 hq => k v H3 (e2.trans e3) hq
theorem e_bltT {T : String} {rr : List V → Hp → VK → Prop} {x : Str} {ms : List MP} {q : V → Hp → Prop} (hc : CallR X (.type T) rr) (hm : X.mg x = none) (hv : bootBuiltins x = some (.type T)) (ha : EvA (wA X (e :: es)) σ H ms)
    (h : ∀ vs H1, Ex H H1 → Paired (fun v (m : MP) => m.P v H1) vs ms → ∀ Q : VK, (∀ v H2, Ex H1 H2 → q v H2 → Q v H2) → rr vs H1 Q) (hg : Gl X x := by rfl) (hn : x ≠ "__name__" := by decide) (hdb : (x == ("__debug__" : Str)) = false := by decide)
    (he : starEach (e :: es) X.env = (false, eval e X.env) :: starEach es X.env := by rfl) (hpl : (backTo pos (starEach es X.env)).any (·.1) = false := by rfl) : EvP (wE X (.Call (.Name x p) (e :: es) [] pos)) σ H q :=
  .of (pe_callTy hc hg hm hv pA hn hdb he hpl) fun H1 e1 Q k => ha H1 e1 _ fun vs H2 e2 hvs => h vs H2 (e1.trans e2) hvs Q fun v H3 e3 hq => k v H3 (e2.trans e3) hq
theorem pd1 {F : V → MP → Prop} {vs : List V} {m : MP} (h : Paired F vs [m]) : ∃ v, vs = [v] ∧ F v m := by cases h with | cons r q => cases q; exact ⟨_, rfl, r⟩
theorem pd2 {F : V → MP → Prop} {vs : List V} {m m' : MP} (h : Paired F vs [m, m']) : ∃ v v', vs = [v, v'] ∧ F v m ∧ F v' m' := by cases h with | cons r q => cases q with | cons r' q => cases q; exact ⟨_, _, rfl, r, r'⟩
theorem pd3 {F : V → MP → Prop} {vs : List V} {m m' m2 : MP} (h : Paired F vs [m, m', m2]) : ∃ v v' w, vs = [v, v', w] ∧ F v m ∧ F v' m' ∧ F w m2 := by
  cases h with | cons r q => cases q with | cons r' q => cases q with | cons r2 q => cases q; exact ⟨_, _, _, rfl, r, r', r2⟩
theorem pd4 {F : V → MP → Prop} {vs : List V} {m m' m2 m3 : MP} (h : Paired F vs [m, m', m2, m3]) : ∃ v v' w z, vs = [v, v', w, z] ∧ F v m ∧ F v' m' ∧ F w m2 ∧ F z m3 := by
  cases h with | cons r q => cases q with | cons r' q => cases q with | cons r2 q => cases q with | cons r3 q => cases q; exact ⟨_, _, _, _, rfl, r, r', r2, r3⟩

theorem e_lenL (hm : X.mg "len" = none) (ha : EvP (wE X a) σ H ((kL r).is as).P) (hg : Gl X "len" := by rfl) (h1 : starEach [a] X.env = (false, eval a X.env) :: starEach [] X.env := by rfl) (hpl : (backTo pos (starEach [] X.env)).any (·.1) = false := by rfl) : EvP (wE X (.Call (.Name "len" p) [a] [] pos)) σ H (kI.is as.length).P :=
  e_bltn call_len_seq hm boot_len (a_cons ha a_nil h1) (fun vs H1 e1 hv Q k => by
    obtain ⟨v, rfl, q, xs, rfl, hx, hp⟩ := pd1 hv
    exact ⟨q, xs, rfl, .inl (SqL.of hx), k _ _ ex_refl (by rw [pd_len hp]; rfl)⟩) hg (by decide) (by decide) h1 hpl
theorem e_lenT (hm : X.mg "len" = none) (ha : EvP (wE X a) σ H ((kT X.K r).is as).P) (hg : Gl X "len" := by rfl) (h1 : starEach [a] X.env = (false, eval a X.env) :: starEach [] X.env := by rfl) (hpl : (backTo pos (starEach [] X.env)).any (·.1) = false := by rfl) : EvP (wE X (.Call (.Name "len" p) [a] [] pos)) σ H (kI.is as.length).P :=
  e_bltn call_len_seq hm boot_len (a_cons ha a_nil h1) (fun vs H1 e1 hv Q k => by
    obtain ⟨v, rfl, q, xs, rfl, hx, hp⟩ := pd1 hv
    exact ⟨q, xs, rfl, .inr hx, k _ _ ex_refl (by rw [pd_len hp]; rfl)⟩) hg (by decide) (by decide) h1 hpl
theorem e_abs (hm : X.mg "abs" = none) (ha : EvP (wE X a) σ H (kI.is i).P) (hg : Gl X "abs" := by rfl) (h1 : starEach [a] X.env = (false, eval a X.env) :: starEach [] X.env := by rfl) (hpl : (backTo pos (starEach [] X.env)).any (·.1) = false := by rfl) : EvP (wE X (.Call (.Name "abs" p) [a] [] pos)) σ H (kI.is (i.natAbs : Int)).P :=
  e_bltn call_abs hm (by decide +kernel) (a_cons ha a_nil h1) (fun vs H1 e1 hv Q k => by
    obtain ⟨v, rfl, rfl⟩ := pd1 hv
    exact ⟨i, rfl, k _ _ ex_refl (by show V.int _ = V.int _; congr 1; split <;> omega)⟩) hg (by decide) (by decide) h1 hpl
theorem e_sum {ns : List Int} (hc : X.calm = true) (hm : X.mg "sum" = none) (ha : EvP (wE X a) σ H ((kL kI).is ns).P) (hg : Gl X "sum" := by rfl) (h1 : starEach [a] X.env = (false, eval a X.env) :: starEach [] X.env := by rfl) (hpl : (backTo pos (starEach [] X.env)).any (·.1) = false := by rfl) : EvP (wE X (.Call (.Name "sum" p) [a] [] pos)) σ H (kI.is ns.sum).P :=
  e_bltn (cr_sum hc) hm (by decide +kernel) (a_cons ha a_nil h1) (fun vs H1 e1 hv Q k => by
    obtain ⟨v, rfl, q, xs, rfl, hx, hp⟩ := pd1 hv
    exact ⟨q, ns, rfl, SqL.of (by rw [hx, pd_int.mp hp]), k _ _ ex_refl rfl⟩) hg (by decide) (by decide) h1 hpl
theorem e_all {bs : List Bool} (hc : X.calm = true) (hm : X.mg "all" = none) (ha : EvP (wE X a) σ H ((kL kB).is bs).P) (hg : Gl X "all" := by rfl) (h1 : starEach [a] X.env = (false, eval a X.env) :: starEach [] X.env := by rfl) (hpl : (backTo pos (starEach [] X.env)).any (·.1) = false := by rfl) : EvP (wE X (.Call (.Name "all" p) [a] [] pos)) σ H (kB.is (bs.all id)).P :=
  e_bltn (cr_all hc) hm (by decide +kernel) (a_cons ha a_nil h1) (fun vs H1 e1 hv Q k => by
    obtain ⟨v, rfl, q, xs, rfl, hx, hp⟩ := pd1 hv
    exact ⟨q, bs, rfl, SqL.of (by rw [hx, pd_bl.mp hp]), k _ _ ex_refl rfl⟩) hg (by decide) (by decide) h1 hpl
theorem e_max2 (hc : X.calm = true) (hm : X.mg "max" = none) (ha : EvP (wE X a) σ H (kI.is i).P) (hb : EvP (wE X b) σ H (kI.is j).P) (hg : Gl X "max" := by rfl) (h1 : starEach [a, b] X.env = (false, eval a X.env) :: starEach [b] X.env := by rfl) (h2 : starEach [b] X.env = (false, eval b X.env) :: starEach [] X.env := by rfl) (hpl : (backTo pos (starEach [b] X.env)).any (·.1) = false := by rfl) : EvP (wE X (.Call (.Name "max" p) [a, b] [] pos)) σ H (kI.is (max i j)).P :=
  e_bltn (call_max2 hc) hm (by decide +kernel) (a_cons ha (a_cons hb a_nil h2) h1) (fun vs H1 e1 hv Q k => by
    obtain ⟨v, v', rfl, rfl, rfl⟩ := pd2 hv
    exact ⟨i, j, rfl, k _ _ ex_refl (by show V.int _ = V.int _; congr 1; omega)⟩) hg (by decide) (by decide) h1 hpl
theorem e_min2 (hc : X.calm = true) (hm : X.mg "min" = none) (ha : EvP (wE X a) σ H (kI.is i).P) (hb : EvP (wE X b) σ H (kI.is j).P) (hg : Gl X "min" := by rfl) (h1 : starEach [a, b] X.env = (false, eval a X.env) :: starEach [b] X.env := by rfl) (h2 : starEach [b] X.env = (false, eval b X.env) :: starEach [] X.env := by rfl) (hpl : (backTo pos (starEach [b] X.env)).any (·.1) = false := by rfl) : EvP (wE X (.Call (.Name "min" p) [a, b] [] pos)) σ H (kI.is (min i j)).P :=
  e_bltn (call_min2 hc) hm (by decide +kernel) (a_cons ha (a_cons hb a_nil h2) h1) (fun vs H1 e1 hv Q k => by
    obtain ⟨v, v', rfl, rfl, rfl⟩ := pd2 hv
    exact ⟨i, j, rfl, k _ _ ex_refl (by show V.int _ = V.int _; congr 1; omega)⟩) hg (by decide) (by decide) h1 hpl
theorem e_toInt (hm : X.mg "int" = none) (ha : EvP (wE X a) σ H (kI.is i).P) (hg : Gl X "int" := by rfl) (h1 : starEach [a] X.env = (false, eval a X.env) :: starEach [] X.env := by rfl) (hpl : (backTo pos (starEach [] X.env)).any (·.1) = false := by rfl) : EvP (wE X (.Call (.Name "int" p) [a] [] pos)) σ H (kI.is i).P :=
  e_bltT call_int1 hm boot_int (a_cons ha a_nil h1) (fun vs H1 e1 hv Q k => by
    obtain ⟨v, rfl, rfl⟩ := pd1 hv
    exact .inl ⟨i, rfl, k _ _ ex_refl rfl⟩) hg (by decide) (by decide) h1 hpl
theorem n_bltT {T : String} {rr : List V → Hp → VK → Prop} {x : Str} {ms : List MP} (hc : CallR X (.type T) rr) (hm : X.mg x = none) (hv : bootBuiltins x = some (.type T)) (ha : EvA (wA X (e :: es)) σ H ms)
    (h : ∀ vs H1, Ex H H1 → Paired (fun v (m : MP) => m.P v H1) vs ms → ∀ Q : VK, (∀ p xs, H1 p = none → Paired (r.R H1) xs as → Q (.ref p) (upd H1 p (.lst xs))) → rr vs H1 Q) (hg : Gl X x := by rfl) (hn : x ≠ "__name__" := by decide) (hdb : (x == ("__debug__" : Str)) = false := by decide)
    (he : starEach (e :: es) X.env = (false, eval e X.env) :: starEach es X.env := by rfl) (hpl : (backTo pos (starEach es X.env)).any (·.1) = false := by rfl) : EvN (wE X (.Call (.Name x p) (e :: es) [] pos)) σ H r as :=
  .of (pe_callTy hc hg hm hv pA hn hdb he hpl) fun H1 e1 Q k => ha H1 e1 _ fun vs H2 e2 hvs => h vs H2 (e1.trans e2) hvs Q fun p xs hp hx => k p xs H2 e2 hp hx
theorem n_listL (hm : X.mg "list" = none) (ha : EvP (wE X a) σ H ((kL r).is as).P) (hg : Gl X "list" := by rfl) (h1 : starEach [a] X.env = (false, eval a X.env) :: starEach [] X.env := by rfl) (hpl : (backTo pos (starEach [] X.env)).any (·.1) = false := by rfl) : EvN (wE X (.Call (.Name "list" p) [a] [] pos)) σ H r as :=
  n_bltT call_list_of hm boot_list (a_cons ha a_nil h1) (fun vs H1 e1 hv Q k => by
    obtain ⟨v, rfl, q, xs, rfl, hx, hp⟩ := pd1 hv
    exact ⟨q, xs, rfl, .inl (SqL.of hx), fun l hl => k l xs hl hp⟩) hg (by decide) (by decide) h1 hpl
theorem n_listT (hm : X.mg "list" = none) (ha : EvP (wE X a) σ H ((kT X.K r).is as).P) (hg : Gl X "list" := by rfl) (h1 : starEach [a] X.env = (false, eval a X.env) :: starEach [] X.env := by rfl) (hpl : (backTo pos (starEach [] X.env)).any (·.1) = false := by rfl) : EvN (wE X (.Call (.Name "list" p) [a] [] pos)) σ H r as :=
  n_bltT call_list_of hm boot_list (a_cons ha a_nil h1) (fun vs H1 e1 hv Q k => by
    obtain ⟨v, rfl, q, xs, rfl, hx, hp⟩ := pd1 hv
    exact ⟨q, xs, rfl, .inr hx, fun l hl => k l xs hl hp⟩) hg (by decide) (by decide) h1 hpl
theorem boot_tuple' : bootBuiltins "tuple" = some (.type "tuple") := by decide +kernel
theorem e_tupL (hm : X.mg "tuple" = none) (ha : EvP (wE X a) σ H ((kL r).is as).P) (hg : Gl X "tuple" := by rfl) (h1 : starEach [a] X.env = (false, eval a X.env) :: starEach [] X.env := by rfl) (hpl : (backTo pos (starEach [] X.env)).any (·.1) = false := by rfl) : EvP (wE X (.Call (.Name "tuple" p) [a] [] pos)) σ H ((kT X.K r).is as).P :=
  e_bltT call_tuple_of hm boot_tuple' (a_cons ha a_nil h1) (fun vs H1 e1 hv Q k => by
    obtain ⟨v, rfl, q, xs, rfl, hx, hp⟩ := pd1 hv
    exact ⟨q, xs, rfl, .inl ⟨SqL.of hx, fun l hl => k _ _ (ex_new hl) ⟨l, xs, rfl, SqT.of upd_same, pd_mono hp fun _ _ z => r.mono (ex_new hl) z⟩⟩⟩) hg (by decide) (by decide) h1 hpl
theorem e_tupT (hm : X.mg "tuple" = none) (ha : EvP (wE X a) σ H ((kT X.K r).is as).P) (hg : Gl X "tuple" := by rfl) (h1 : starEach [a] X.env = (false, eval a X.env) :: starEach [] X.env := by rfl) (hpl : (backTo pos (starEach [] X.env)).any (·.1) = false := by rfl) : EvP (wE X (.Call (.Name "tuple" p) [a] [] pos)) σ H ((kT X.K r).is as).P :=
  e_bltT call_tuple_of hm boot_tuple' (a_cons ha a_nil h1) (fun vs H1 e1 hv Q k => by
    obtain ⟨v, rfl, q, xs, rfl, hx, hp⟩ := pd1 hv
    exact ⟨q, xs, rfl, .inr ⟨hx, k _ _ ex_refl ⟨q, xs, rfl, hx, hp⟩⟩⟩) hg (by decide) (by decide) h1 hpl

/-! subscripts, slices, + -/
theorem at_map {xs : List V} {H : Hp} {a0 : α} (hp : Paired (r.R H) xs as) (h : atI as i = some a0) : ∃ x, atI xs i = some x ∧ r.R H x a0 := by
  unfold atI at h ⊢
  rw [pd_len hp]
  cases e : ixN as.length i with
  | none => rw [e] at h; cases h
  | some j =>
    rw [e] at h
    obtain ⟨x, hx, hr⟩ := pd_get' hp (show as[j]? = some a0 from h)
    exact ⟨x, hx, hr⟩
theorem e_ixL {a0 : α} (ha : EvP (wE X a) σ H ((kL r).is as).P) (hb : EvP (wE X b) σ H (kI.is i).P) (h : atI as i = some a0) (hs : PlainIx b := by exact fun _ _ => rfl) : EvP (wE X (.Subscript a b pos)) σ H (r.is a0).P :=
  .of (pe_ix ix_list pE pE hs) fun H1 e1 Q k => ha H1 e1 _ fun v H2 e2 ⟨q, xs, ev, hx, hp⟩ => hb H2 (e1.trans e2) _ fun u H3 e3 eu => by
    obtain ⟨x, hx2, hr⟩ := at_map hp h
    exact ⟨q, xs, i, x, ev, eu, SqL.of (e3 _ _ hx), hx2, k _ _ (e2.trans e3) (r.mono e3 hr)⟩
theorem e_ixT {a0 : α} (ha : EvP (wE X a) σ H ((kT X.K r).is as).P) (hb : EvP (wE X b) σ H (kI.is i).P) (h : atI as i = some a0) (hs : PlainIx b := by exact fun _ _ => rfl) : EvP (wE X (.Subscript a b pos)) σ H (r.is a0).P :=
  .of (pe_ix ix_tup pE pE hs) fun H1 e1 Q k => ha H1 e1 _ fun v H2 e2 ⟨q, xs, ev, hx, hp⟩ => hb H2 (e1.trans e2) _ fun u H3 e3 eu => by
    obtain ⟨x, hx2, hr⟩ := at_map hp h
    exact ⟨q, xs, i, x, ev, eu, ex_sqt e3 hx, hx2, k _ _ (e2.trans e3) (r.mono e3 hr)⟩
theorem n_cat {bs : List α} (ha : EvP (wE X a) σ H ((kL r).is as).P) (hb : EvP (wE X b) σ H ((kL r).is bs).P) (hl : as.length + bs.length ≤ 1000000) : EvN (wE X (.BinOp a .Add b pos)) σ H r (as ++ bs) :=
  .of (pe_op op_cat pE pE) fun H1 e1 Q k => ha H1 e1 _ fun v H2 e2 ⟨q, xs, ev, hx, hp⟩ => hb H2 (e1.trans e2) _ fun u H3 e3 ⟨q', ys, eu, hy, hp'⟩ =>
    ⟨q, q', xs, ys, ev, eu, e3 _ _ hx, hy, by rw [pd_len hp, pd_len hp', sizeLine_eq]; omega, fun l hl => k l _ H3 (e2.trans e3) hl (pd_app (pd_mono hp fun _ _ z => r.mono e3 z) hp')⟩
theorem e_catT {bs : List α} (ha : EvP (wE X a) σ H ((kT X.K r).is as).P) (hb : EvP (wE X b) σ H ((kT X.K r).is bs).P) (hl : as.length + bs.length ≤ 1000000) : EvP (wE X (.BinOp a .Add b pos)) σ H ((kT X.K r).is (as ++ bs)).P :=
  .of (pe_op op_catA pE pE) fun H1 e1 Q k => ha H1 e1 _ fun v H2 e2 ⟨q, xs, ev, hx, hp⟩ => hb H2 (e1.trans e2) _ fun u H3 e3 ⟨q', ys, eu, hy, hp'⟩ => by
    have hp3 : Paired (r.R H3) xs as := pd_mono hp fun _ _ z => r.mono e3 z
    refine ⟨q, q', xs, ys, ev, eu, ex_sqt e3 hx, hy, by rw [pd_len hp, pd_len hp', sizeLine_eq]; omega, fun z => ?_, fun z1 z2 => ?_, fun z1 z2 l hl => ?_⟩
    · subst z; cases hp3; exact k _ _ (e2.trans e3) ⟨q', ys, rfl, hy, hp'⟩
    · subst z2; cases hp'; rw [List.append_nil] at k; exact k _ _ (e2.trans e3) ⟨q, xs, rfl, ex_sqt e3 hx, hp3⟩
    · exact k _ _ ((e2.trans e3).trans (ex_new hl)) ⟨l, _, rfl, SqT.of upd_same, pd_mono (pd_app hp3 hp') fun _ _ z => r.mono (ex_new hl) z⟩
def cut (as : List α) (lo hi : Option Int) : List α := (as.drop (HT.sIx as.length 0 lo)).take (HT.sIx as.length as.length hi - HT.sIx as.length 0 lo)
theorem pd_cut {xs : List V} {H : Hp} {lo hi : Option Int} (hp : Paired (r.R H) xs as) : Paired (r.R H) (cutV xs lo hi) (cut as lo hi) := by
  unfold cutV cut
  rw [pd_len hp]
  exact pd_take _ (pd_drop _ hp)
/-- a part of a slice -/
def EvO (to : TO) (σ : L2.St) (H : Hp) (o : Option Int) : Prop := ∀ H1, Ex H H1 → ∀ Q : Option Int → Hp → Prop, (∀ H2, Ex H1 H2 → Q o H2) → to σ H1 Q
theorem n_slice {lo hi : Option Expr} {tl th : TO} {l u : Option Int} {p2 : Pos} (hl : PO X lo tl) (hu : PO X hi th) (ha : EvP (wE X a) σ H ((kL r).is as).P) (h1 : EvO tl σ H l) (h2 : EvO th σ H u) : EvN (wE X (.Subscript a (.Slice lo hi none p2) pos)) σ H r (cut as l u) :=
  .of (pe_slice sl_list pE hl hu) fun H1 e1 Q k => ha H1 e1 _ fun v H2 e2 ⟨q, xs, ev, hx, hp⟩ => h1 H2 (e1.trans e2) _ fun H3 e3 => h2 H3 ((e1.trans e2).trans e3) _ fun H4 e4 =>
    ⟨q, xs, ev, SqL.of (e4 _ _ (e3 _ _ hx)), fun l hl => k l _ H4 ((e2.trans e3).trans e4) hl (pd_cut (pd_mono hp fun _ _ z => r.mono (e3.trans e4) z))⟩
theorem e_sliceT {lo hi : Option Expr} {tl th : TO} {l u : Option Int} {p2 : Pos} (hl : PO X lo tl) (hu : PO X hi th) (ha : EvP (wE X a) σ H ((kT X.K r).is as).P) (h1 : EvO tl σ H l) (h2 : EvO th σ H u) : EvP (wE X (.Subscript a (.Slice lo hi none p2) pos)) σ H ((kT X.K r).is (cut as l u)).P :=
  .of (pe_slice sl_tupA pE hl hu) fun H1 e1 Q k => ha H1 e1 _ fun v H2 e2 ⟨q, xs, ev, hx, hp⟩ => h1 H2 (e1.trans e2) _ fun H3 e3 => h2 H3 ((e1.trans e2).trans e3) _ fun H4 e4 => by
    have hp4 : Paired (r.R H4) xs as := pd_mono hp fun _ _ z => r.mono (e3.trans e4) z
    refine ⟨q, xs, ev, ex_sqt (e3.trans e4) hx, fun z => ?_, fun _ l hl => k _ _ (((e2.trans e3).trans e4).trans (ex_new hl)) ⟨l, _, rfl, SqT.of upd_same, pd_mono (pd_cut hp4) fun _ _ z => r.mono (ex_new hl) z⟩⟩
    refine k _ _ ((e2.trans e3).trans e4) ⟨q, xs, rfl, ex_sqt (e3.trans e4) hx, ?_⟩
    rw [pd_len hp] at z
    unfold cut
    rw [z.1, z.2, List.drop_zero, Nat.sub_zero, List.take_length]
    exact hp4

theorem o_none : EvO tNoPart σ H none := fun H1 _ Q k => k H1 ex_refl
theorem o_some {l : Int} (h : EvP te σ H (kI.is l).P) : EvO (tPart te) σ H (some l) := fun H1 e1 Q k => h H1 e1 _ fun v H2 e2 hv => ⟨l, hv, k H2 e2⟩

/-! == of data -/
structure Dat (K : PySem.W.Frag) (r : Rep α) where
  d : α → PyData
  dp : ∀ H v a, r.R H v a → Dp K H v (d a)
theorem canLay_all {l : List PyData} : PyData.canLayAll0 l = true ↔ ∀ x ∈ l, x.canLay0 = true := by
  induction l with
  | nil => simp [PyData.canLayAll0]
  | cons x l ih => simp [PyData.canLayAll0, ih]
theorem depth_all {l : List PyData} {n : Nat} (h : ∀ x ∈ l, x.depth ≤ n) : PyData.depthAll l ≤ n := by
  induction l with
  | nil => simp [PyData.depthAll]
  | cons x l ih => simp only [PyData.depthAll]; have := h x (by simp); have := ih fun y hy => h y (by simp [hy]); omega
theorem eqv_all {f : α → PyData} [DecidableEq α] (h : ∀ a b, PyData.eqv (f a) (f b) = decide (a = b)) : ∀ as bs : List α, PyData.eqvAll (as.map f) (bs.map f) = decide (as = bs)
  | [], [] => by simp [PyData.eqvAll]
  | [], _ :: _ => by simp [PyData.eqvAll]
  | _ :: _, [] => by simp [PyData.eqvAll]
  | a :: as, b :: bs => by
    simp only [List.map_cons, PyData.eqvAll, h, eqv_all h as bs]
    by_cases e : a = b <;> by_cases e' : as = bs <;> simp [e, e']
def Shp (n : Nat) (d : PyData) : Prop := d.canLay0 = true ∧ d.depth ≤ n
theorem Shp.shaped {n : Nat} {d : PyData} (h : Shp n d) (hn : n ≤ 64) : SeqAt.shaped d = true := by
  unfold SeqAt.shaped
  rw [h.1, decide_eq_true (Nat.le_trans h.2 hn)]; rfl
theorem Shp.list {n : Nat} {l : List PyData} (h : ∀ x ∈ l, Shp n x) : Shp (n + 1) (.list l) := ⟨canLay_all.mpr fun x hx => (h x hx).1, by
  have := depth_all fun x hx => (h x hx).2
  show PyData.depthAll l + 1 ≤ n + 1
  omega⟩
theorem Shp.tuple {n : Nat} {l : List PyData} (h : ∀ x ∈ l, Shp n x) : Shp (n + 1) (.tuple l) := ⟨canLay_all.mpr fun x hx => (h x hx).1, by
  have := depth_all fun x hx => (h x hx).2
  show PyData.depthAll l + 1 ≤ n + 1
  omega⟩
theorem Shp.mono {n m : Nat} {d : PyData} (h : Shp n d) (l : n ≤ m) : Shp m d := ⟨h.1, Nat.le_trans h.2 l⟩
theorem dp_all {K : PySem.W.Frag} {H : Hp} {R : V → α → Prop} {d : α → PyData} (h : ∀ v a, R v a → Dp K H v (d a)) : ∀ {xs : List V} {as : List α}, Paired R xs as → DpAll K H xs (as.map d)
  | _, _, .nil => .nil
  | _, _, .cons r t => .cons (h _ _ r) (dp_all h t)
def daB (K : PySem.W.Frag) : Dat K kB := ⟨fun b => .bool b, fun H v a h => by rw [show v = V.bl a from h]; exact .bl a⟩
def daI (K : PySem.W.Frag) : Dat K kI := ⟨fun b => .int b, fun H v a h => by rw [show v = V.int a from h]; exact .int a⟩
def dL {K : PySem.W.Frag} {r : Rep α} (d : Dat K r) : Dat K (kL r) := ⟨fun as => .list (as.map d.d), fun H v as ⟨p, xs, e, hx, hp⟩ => by rw [e]; exact .lst (SqL.of hx) (dp_all (fun v a h => d.dp H v a h) hp)⟩
def dT {K : PySem.W.Frag} {r : Rep α} (d : Dat K r) : Dat K (kT K r) := ⟨fun as => .tuple (as.map d.d), fun H v as ⟨p, xs, e, hx, hp⟩ => by rw [e]; exact .tup hx (dp_all (fun v a h => d.dp H v a h) hp)⟩
def d3 (K : PySem.W.Frag) : Dat K (kT3 K) := ⟨fun t => .tuple [.int t.1, .int t.2.1, .int t.2.2], fun H v t ⟨p, e, hx⟩ => by rw [e]; exact .tup hx (.cons (.int _) (.cons (.int _) (.cons (.int _) .nil)))⟩
theorem e_eqD {r' : Rep γ} {a0 : α} {b0 : γ} {n : Nat} (d : Dat X.K r) (d' : Dat X.K r') (hu : X.A.units + 64 < cLine) (ha : EvP (wE X a) σ H (r.is a0).P) (hb : EvP (wE X b) σ H (r'.is b0).P) (s1 : Shp n (d.d a0)) (s2 : Shp n (d'.d b0)) (hn : n ≤ 64) :
    EvP (wE X (.Compare a [.Eq] [b] pos)) σ H (kB.is (PyData.eqv (d.d a0) (d'.d b0))).P :=
  .of (pe_cmpR (op_eqD hu) pE pE (nomark _)) fun H1 e1 Q k => ha H1 e1 _ fun v H2 e2 hv => hb H2 (e1.trans e2) _ fun u H3 e3 hu => ⟨_, _, d.dp H3 v a0 (r.mono e3 hv), d'.dp H3 u b0 hu, s1.shaped hn, s2.shaped hn, k _ _ (e2.trans e3) rfl⟩
theorem t_eqD {r' : Rep γ} {a0 : α} {b0 : γ} {n : Nat} (d : Dat X.K r) (d' : Dat X.K r') (hu : X.A.units + 64 < cLine) (ha : EvP (wE X a) σ H (r.is a0).P) (hb : EvP (wE X b) σ H (r'.is b0).P) (s1 : Shp n (d.d a0)) (s2 : Shp n (d'.d b0)) (hn : n ≤ 64) :
    EvT (wT X (.Compare a [.Eq] [b] pos)) σ H (PyData.eqv (d.d a0) (d'.d b0)) :=
  .of (pt_cmpR (op_eqD hu) pE pE (nomark _)) fun H1 e1 Q k => ha H1 e1 _ fun v H2 e2 hv => hb H2 (e1.trans e2) _ fun u H3 e3 hu => ⟨_, _, d.dp H3 v a0 (r.mono e3 hv), d'.dp H3 u b0 hu, s1.shaped hn, s2.shaped hn, _, rfl, k _ (e2.trans e3)⟩
theorem t_neD {r' : Rep γ} {a0 : α} {b0 : γ} {n : Nat} (d : Dat X.K r) (d' : Dat X.K r') (hu : X.A.units + 64 < cLine) (ha : EvP (wE X a) σ H (r.is a0).P) (hb : EvP (wE X b) σ H (r'.is b0).P) (s1 : Shp n (d.d a0)) (s2 : Shp n (d'.d b0)) (hn : n ≤ 64) :
    EvT (wT X (.Compare a [.NotEq] [b] pos)) σ H (!PyData.eqv (d.d a0) (d'.d b0)) :=
  .of (pt_cmpR (op_neD hu) pE pE (nomark _)) fun H1 e1 Q k => ha H1 e1 _ fun v H2 e2 hv => hb H2 (e1.trans e2) _ fun u H3 e3 hu => ⟨_, _, d.dp H3 v a0 (r.mono e3 hv), d'.dp H3 u b0 hu, s1.shaped hn, s2.shaped hn, _, rfl, k _ (e2.trans e3)⟩
theorem shpB {K : PySem.W.Frag} (b : Bool) : Shp 0 ((daB K).d b) := ⟨rfl, Nat.le_refl _⟩
theorem shpI {K : PySem.W.Frag} (b : Int) : Shp 0 ((daI K).d b) := ⟨rfl, Nat.le_refl _⟩
theorem shpT {K : PySem.W.Frag} {r : Rep α} {d : Dat K r} {n : Nat} {as : List α} (h : ∀ a, Shp n (d.d a)) : Shp (n + 1) ((dT d).d as) := .tuple fun x hx => by obtain ⟨a, _, rfl⟩ := List.mem_map.mp hx; exact h a
theorem shpL {K : PySem.W.Frag} {r : Rep α} {d : Dat K r} {n : Nat} {as : List α} (h : ∀ a, Shp n (d.d a)) : Shp (n + 1) ((dL d).d as) := .list fun x hx => by obtain ⟨a, _, rfl⟩ := List.mem_map.mp hx; exact h a
theorem shp3 {K : PySem.W.Frag} (t : Int × Int × Int) : Shp 1 ((d3 K).d t) := .tuple (n := 0) fun x hx => by
  simp only [List.mem_cons, List.not_mem_nil, or_false] at hx
  rcases hx with rfl | rfl | rfl <;> exact ⟨rfl, Nat.le_refl _⟩
theorem eqvB {K : PySem.W.Frag} (a b : Bool) : PyData.eqv ((daB K).d a) ((daB K).d b) = decide (a = b) := by cases a <;> cases b <;> rfl
theorem eqvT {K : PySem.W.Frag} {r : Rep α} {d : Dat K r} [DecidableEq α] (h : ∀ a b, PyData.eqv (d.d a) (d.d b) = decide (a = b)) (as bs : List α) : PyData.eqv ((dT d).d as) ((dT d).d bs) = decide (as = bs) := eqv_all h as bs
theorem eqvL {K : PySem.W.Frag} {r : Rep α} {d : Dat K r} [DecidableEq α] (h : ∀ a b, PyData.eqv (d.d a) (d.d b) = decide (a = b)) (as bs : List α) : PyData.eqv ((dL d).d as) ((dL d).d bs) = decide (as = bs) := eqv_all h as bs
theorem eqv_nil {K : PySem.W.Frag} {r : Rep α} {r' : Rep γ} {d : Dat K r} {d' : Dat K r'} (as : List α) : PyData.eqv ((dL d).d as) ((dL d').d []) = as.isEmpty := by cases as <;> rfl
end
end Wp
/-! W4: enumerate over a tuple. -/
namespace PySem
open Sem (wp)
open AutoSeq1 (wpAny_loadPart')
theorem meets_enumerate_newTup (l : Addr) (items : Array Value) (n : Nat) (dct : Option Addr) (sl : Array (Option Value)) :
    Meets (Builtin.«enumerate.__new__» ⟨[.type "enumerate", .ref l], []⟩) (fun _ R s => s.heap.get? l = some { cls := .type "tuple", dict := dct, data := .seq items n, slots := sl } ∧
      R (.ok (.ret (.ref (s.heap.push { cls := .type "tuple_iterator", data := .fields #[.ref l, .int 0 0] }).objs.size)))
        { s with heap := (s.heap.push { cls := .type "tuple_iterator", data := .fields #[.ref l, .int 0 0] }).push { cls := .type "enumerate", data := .fields #[.none, .bool false, .ref s.heap.objs.size, rawInt 0, .none, .none] } }) :=
  .of_wp fun prog w A R s h => by
    obtain ⟨hp, g, d, tk, os⟩ := s; obtain ⟨hl, h⟩ := h
    have hsub := sub_enumerate
    have hL : Heap.IsTuple (Shared.heap ⟨hp, g, d, tk, os⟩) l items := ⟨_, hl, rfl, n, rfl⟩
    wp_walk using wpAny_loadPart' hl
    refine wpAny_stack_any fun st => wpAny_pure ?_
    split
    · rename_i c _ _ _ _ _
      cases (c == Value.type "enumerate")
      · wp_walk using wpAny_loadPart' hl, wpAny_pyIter_tuple hL
        exact ⟨_, rfl, h⟩
      · wp_walk using wpAny_loadPart' hl, wpAny_pyIter_tuple hL
        exact ⟨_, rfl, h⟩
    · wp_walk using wpAny_loadPart' hl, wpAny_pyIter_tuple hL
      exact ⟨_, rfl, h⟩
section
variable {prog : Program} {w : World} {A : Around} {E : Value → Shared → Prop} {s : Shared}
theorem call_enumerate_tup {l : Addr} {items : Array Value} {Q : Value → Shared → Prop} (hL : s.heap.IsTuple l items)
    (h : ∀ h', IsEnum h' (s.heap.objs.size + 1) s.heap.objs.size 0 .none → h'.IsTupleIter s.heap.objs.size l 0 → h'.objs.size = s.heap.objs.size + 2 →
      (∀ b o, s.heap.get? b = some o → h'.get? b = some o) → Q (.ref (s.heap.objs.size + 1)) { s with heap := h' }) :
    wpAny (model prog w) A (call (.type "enumerate") [.ref l]) Q E s := by
  obtain ⟨⟨c, dct, dt, sl⟩, hl, hc, n, hd⟩ := hL
  replace hc : c = .type "tuple" := hc
  replace hd : dt = .seq items n := hd
  subst hc hd
  refine callType_new F.called_enumerate (by decide) (F.typeCall_enumerate_1 _) (F.newCall_enumerate_1 _) (fun obj => F.args_object_init_2 obj _) F.entry_enumerate_new
    (meets_enumerate_newTup l items n dct sl) ⟨hl, ?_⟩
  have hz : (s.heap.push { cls := .type "tuple_iterator", data := .fields #[.ref l, .int 0 0] }).objs.size = s.heap.objs.size + 1 := Heap.size_push ..
  show _ ∧ _
  rw [hz]
  have he : IsEnum ((s.heap.push { cls := .type "tuple_iterator", data := .fields #[.ref l, .int 0 0] }).push
      { cls := .type "enumerate", data := .fields #[.none, .bool false, .ref s.heap.objs.size, rawInt 0, .none, .none] }) (s.heap.objs.size + 1) s.heap.objs.size 0 .none := by
    have := Heap.get?_push_size (s.heap.push { cls := .type "tuple_iterator", data := .fields #[.ref l, .int 0 0] })
      (o := { cls := .type "enumerate", data := .fields #[.none, .bool false, .ref s.heap.objs.size, rawInt 0, .none, .none] }) rfl
    rw [hz] at this; exact this
  refine ⟨⟨_, he, rfl⟩, h _ he ⟨_, Heap.get?_push_of_some _ (Heap.get?_push_size _ rfl), rfl, rfl⟩ (by rw [Heap.size_push, hz]) fun b o x => Heap.get?_push_of_some _ (Heap.get?_push_of_some _ x)⟩
end
end PySem
namespace Wp
open PySem PySem.Spec PyProof.Rows L2
/-- the tuple at a, its items with their numbers in new pairs -/
def Itet (K : PySem.W.Frag) (a : Addr) : It :=
  ⟨fun i H => ∃ (xs : List V) (x : V), SqT K H a xs ∧ xs[i]? = some x, fun i H v H' => ∃ T x, v = .ref T ∧ H T = none ∧ H' = upd H T (.tup [.int (i : Nat), x]) ∧ ∀ xs, SqT K H a xs → xs[i]? = some x, fun i H => ∃ xs : List V, SqT K H a xs ∧ xs.length = i⟩
theorem turn_enumT {P : Program} {w : World} {K : PySem.W.Frag} {elts : List Expr} {kk : Nat} {tpos : Pos} (a e it : Addr) (hat : a ≠ it) :
    Turn P w K (.Tuple elts kk tpos) (Itet K a) [e, it] e (fun i h => (∃ old, IsEnum h e it ((i : Nat) : Int) old) ∧ h.IsTupleIter it a i ∧ e ≠ it) where
  mem := by simp
  obj := fun i h st b hb => by
    obtain ⟨⟨old, he⟩, ⟨o, ho, hc, hd⟩, _⟩ := st
    have e' : b = e ∨ b = it := by simpa using hb
    rcases e' with z | z
    · rw [z]; exact ⟨_, he, fun v q => nomatch q⟩
    · rw [z]; exact ⟨o, ho, fun v q => by rw [hd] at q; cases q⟩
  keep := fun i h h' st k => let ⟨⟨old, he⟩, hi, hne⟩ := st; ⟨⟨old, k e (by simp) _ he⟩, hi.at fun o q => k it (by simp) o q, hne⟩
  item := by
    intro X hP hw hK hc i pins s σ H E I hf st hg
    subst hP hw hK
    obtain ⟨⟨old, he⟩, hit, hne⟩ := st
    obtain ⟨xs, x, hq, hx⟩ := hg
    obtain ⟨its, rv, p, hz⟩ := I.tuple hq
    have pT : s.heap.IsTuple a its.toArray := p
    have hae : a ≠ e := fun z => by
      obtain ⟨o, ho, hcls, _⟩ := pT
      rw [z, he] at ho; cases ho; simp at hcls
    have hi : i < its.toArray.size := by
      have := (List.getElem?_eq_some_iff.mp hx).1
      have := rv.length
      simp; omega
    have hel : e < s.heap.objs.size := Heap.lt_size he
    have hil : it < s.heap.objs.size := by obtain ⟨_, q, _⟩ := hit; exact Heap.lt_size q
    refine wpAny_pyNext_enum_itemD (Draws.tuple (by exact I.ok.hd hc) it a hat its.toArray) he ⟨hit, pT⟩ hi hne (by simp [hne, Ne.symm hae]) fun u h' tk hu ho hst' hT hsz hk => ?_
    obtain ⟨u', hu', ru⟩ := rv.get hx
    have hu2 : its[i]? = some u := by simpa using hu
    rw [hu2] at hu'
    cases hu'
    refine ⟨_, rfl, wpAny_letOwnedTupleGo_enum (s := { s with heap := h', toks := tk + 1 }) ho fun h'' he' sb => ?_⟩
    have hT2 : h''.get? s.heap.objs.size = some { cls := .type "tuple", data := .seq #[.int i tk, u] } := (sb.2 _ (Nat.ne_of_gt hel)).trans hT
    have new : ObjOk X.prog X.w (upd H s.heap.objs.size (.tup [.int (i : Nat), x])) h'' s.heap.objs.size (.tup [.int (i : Nat), x]) :=
      ⟨by show 2 ≤ sizeLine; decide, [.int i tk, u], .cons ⟨_, rfl⟩ (.cons ru .nil), ⟨_, hT2, rfl, _, rfl⟩⟩
    have I1 : Inv X pins σ (upd H s.heap.objs.size (.tup [.int (i : Nat), x])) { s with heap := h'', toks := tk + 1 } :=
      I.turnedNew (ch := [e, it]) (fun b ob hb q => (sb.2 b (fun z => hb (by simp [z]))).trans (hk b ob (fun z => hb (by simp [z])) (fun z => hb (by simp [z])) q)) hf (Nat.le_refl _) new
    refine ⟨.ref s.heap.objs.size, _, I1, rfl, ⟨_, x, rfl, I.hok.fresh (Nat.le_refl _), rfl, fun ys hy => by rw [I.tuple_inj hy hq]; exact hx⟩, ⟨⟨u, ?_⟩, hst'.1.at fun o q => (sb.2 it (Ne.symm hne)).trans q, hne⟩, fun b hb => ?_⟩
    · have e1 : ((i + 1 : Nat) : Int) = (i : Int) + 1 := by omega
      rw [e1]; exact he'
    · have hb' : b < s.heap.objs.size := by
        have e' : b = e ∨ b = it := by simpa using hb
        rcases e' with z | z
        · rw [z]; exact hel
        · rw [z]; exact hil
      rw [upd_ne (Nat.ne_of_lt hb')]
      exact (hf b hb).1
  done := by
    intro X hP hw hK hc i pins s σ H E I hf st hg
    subst hP hw hK
    obtain ⟨⟨old, he⟩, hit, hne⟩ := st
    obtain ⟨xs, hq, hx⟩ := hg
    obtain ⟨its, rv, p, hz⟩ := I.tuple hq
    have pT : s.heap.IsTuple a its.toArray := p
    obtain ⟨f0, f1, f2, f3, f4, f5⟩ := hf it (by simp)
    have hl := rv.length
    have hi : i = its.toArray.size := by simp; omega
    have hat' : a ≠ it := hat
    rw [hi] at hit
    exact wpAny_pyNext_enum_endD (Draws.tuple (by exact I.ok.hd hc) it a hat its.toArray) he ⟨hit, pT⟩ fun h' eb => ⟨rfl, I.turned (t' := s.toks) (fun b o hb q => eb b o hb q) f0 f1 f3 f4 f5⟩
  self := fun A i s Q E st h => let ⟨⟨_, he⟩, _⟩ := st; wpAny_pyIter_enum he h
def iEnumT (K : PySem.W.Frag) (ta : TA) : TI := fun σ H R => ta σ H fun vs H1 => ∃ a xs, vs = [.ref a] ∧ SqT K H1 a xs ∧ R (Itet K a) H1
theorem pi_enumT {X : Cx} {e : Expr} {ta : TA} {p pos tpos : Pos} {elts : List Expr} {kk : Nat} (hg : Gl X "enumerate") (hm : X.mg "enumerate" = none) (ha : PA X [e] ta) (hs : starEach [e] X.env = [(false, eval e X.env)] := by rfl) :
    PI X (.Tuple elts kk tpos) (.Call (.Name "enumerate" p) [e] [] pos) (iEnumT X.K ta) := by
  refine ⟨fun pins s σ H R I h => ?_⟩
  refine Call_ (ld_blt I hg hm boot_enumerate (PyProof.Rows.callWith_type1 (thn (ha.run pos pins s σ H _ I h) fun us s1 ⟨vs, H1, I1, r1, q1⟩ => ?_) hs rfl))
  obtain ⟨a, xs, ex, hq, q⟩ := q1
  subst ex
  cases r1 with
  | cons r rr =>
    cases rr
    cases r
    obtain ⟨its, rv, p', hz⟩ := I1.tuple hq
    have pT : s1.heap.IsTuple a its.toArray := p'
    have hat : a ≠ s1.heap.objs.size := by
      obtain ⟨o, ho, _⟩ := pT
      exact Nat.ne_of_lt (Heap.lt_size ho)
    refine call_enumerate_tup pT fun h' he hit hsz hk => wpAny_pyIter_enum he ?_
    have I2 : Inv X pins σ H1 { s1 with heap := h' } := I1.kept (t' := s1.toks) hk
    refine ⟨s1.heap.objs.size + 1, [s1.heap.objs.size + 1, s1.heap.objs.size], _, _, H1, rfl, I2, turn_enumT a (s1.heap.objs.size + 1) s1.heap.objs.size hat, ⟨⟨.none, he⟩, hit, Nat.succ_ne_self _⟩, fun b hb => ?_, q⟩
    have e' : b = s1.heap.objs.size + 1 ∨ b = s1.heap.objs.size := by simpa using hb
    have hle : s1.heap.objs.size ≤ b := by
      rcases e' with z | z
      · rw [z]; exact Nat.le_add_right _ _
      · rw [z]; exact Nat.le_refl _
    exact I1.fpOk hle (I1.hok.fresh hle)
theorem walk_enumT {K : PySem.W.Frag} {a : Addr} {xs : List V} : Walk (Itet K a) xs.length (fun H => SqT K H a xs) (YPair (fun i => some (.int (i : Nat))) (fun i => xs[i]?)) := by
  refine ⟨fun i _ hi q => ⟨xs, xs[i], q, by simp [hi]⟩, fun _ q => ⟨xs, q, rfl⟩, fun i H v H' _ q y => ?_⟩
  obtain ⟨T, x, h1, h2, h3, h4⟩ := y
  exact ⟨T, .int (i : Nat), x, h1, h2, h3, rfl, h4 xs q⟩
end Wp
/-! W5: instances: fields, making, own operators. -/
namespace Wp
open PySem PySem.Spec PyProof.Rows L2
/-- a method (or operator) of the class at C -/
structure Own (P : Program) (w : World) (K : PySem.W.Frag) (mg : Str → Option Value) (base : Heap) (k : Nat) (C : Addr) (m : Str) (ps : List Str) (sp : Sp) : Prop where
  ok : ∃ f fd, FnOk P w K mg base CX0 k f fd ps sp ∧ PySem.W.findIn K (.ref C) m = some (some (.ref f)) ∧ PySem.W.isFn K (.ref f) = true ∧ PySem.W.keepIn K (.ref f) = true ∧ Binds K fd ps []
section
variable {P : Program} {w : World} {K : PySem.W.Frag} {mg : Str → Option Value} {base : Heap} {k : Nat} {x qual : Str} {N ps : List Str} {st : Stmt} {f C : Addr} {fd : FuncData}
theorem Own.mk' {sp : Sp} {m : Str} (F : Fun K x qual st f fd) (S : FnScope N ps (defScope st)) (h1 : PySem.W.findIn K (.ref C) m = some (some (.ref f))) (h2 : PySem.W.isFn K (.ref f) = true) (hb : Binds K fd ps []) (hl : ∀ vs H Q E, sp vs H Q E → vs.length = ps.length)
    (body : ∀ (cdv : Value) (A : Around) (outer : List Env) (s : Shared) (H : Hp) (vs : List V) (Q : VK) (E : XK), Room k (A.deeper (envOfC qual (defScope st) s.heap.objs.size f cdv)) → sp vs H Q E →
      wS (cxOf CX0 P w K mg base N qual (defScope st) f cdv A outer s H E).nox (defBody st) { nx := fun _ H' => Q .non H', rt := Q } (start N vs) H) : Own P w K mg base (k + 1) C m ps sp :=
  ⟨f, fd, F.ok S hl (fun cdv A outer s H vs Q E hr hs => ⟨_, pS, body cdv A outer s H vs Q E hr hs⟩), h1, h2, F.kp, hb⟩
theorem Own.pure {R : List MP → MP → Prop} {m : Str} (F : Fun K x qual st f fd) (S : FnScope N ps (defScope st)) (h1 : PySem.W.findIn K (.ref C) m = some (some (.ref f))) (h2 : PySem.W.isFn K (.ref f) = true) (hb : Binds K fd ps []) (hl : ∀ ms m, R ms m → ms.length = ps.length)
    (body : ∀ (cdv : Value) (A : Around) (outer : List Env) (s : Shared) (H : Hp) (vs : List V) (E : XK) (ms : List MP) (m : MP), Room k (A.deeper (envOfC qual (defScope st) s.heap.objs.size f cdv)) → Paired (fun v (p : MP) => p.P v H) vs ms → R ms m →
      wS (cxOf CX0 P w K mg base N qual (defScope st) f cdv A outer s H E).nox (defBody st) { nx := fun _ H' => Ex H H' ∧ m.P .non H', rt := fun v H' => Ex H H' ∧ m.P v H' } (start N vs) H) : Own P w K mg base (k + 1) C m ps (spM R) :=
  .mk' F S h1 h2 hb (fun vs H Q E ⟨ms, m, h1, h2, _⟩ => (pd_len h1).trans (hl ms m h2)) fun cdv A outer s H vs Q E hr ⟨ms, m, h1, h2, h3⟩ =>
    (body cdv A outer s H vs E ms m hr h1 h2).mono (fun σ' H' q => h3 _ _ q.1 q.2) (fun v H' q => h3 _ _ q.1 q.2) (fun _ _ q => q) fun _ _ q => q
theorem Own.meth {sp : Sp} {m : Str} (o : Own P w K mg base k C m ps sp) : ∃ f fd, FnOk P w K mg base CX0 k f fd ps sp ∧ Meth K C m f ∧ Binds K fd ps [] := by
  obtain ⟨f, fd, h1, h2, h3, h4, h5⟩ := o.ok
  exact ⟨f, fd, h1, ⟨h2, h3, h4⟩, h5⟩
end
section
variable {X : Cx} {pins : List (Addr × Obj)} {σ : L2.St} {H : Hp} {s : Shared} {C : Addr} {k : Nat} {ps : List Str} {sp : Sp} {x y : V} {u v : Value} {Q : VK}
theorem inst_look {a dx : Addr} {fs : List (Str × V)} (I : Inv X pins σ H s) (e : H a = some (.ins C dx fs)) : ∃ od, PySem.W.InstAt s.heap a (PySem.W.instObj C dx) C (some od) := by
  obtain ⟨mA, O, _⟩ := ins_get I.hok e
  obtain ⟨od, h, _⟩ := O.look
  exact ⟨od, h⟩
/-- an operator's reading over own instances -/
def rO1 (C : Addr) (sp : Sp) : V → Hp → VK → Prop := fun x H Q => ∃ a dx fs, x = .ref a ∧ H a = some (.ins C dx fs) ∧ sp [x] H Q E0
def rO2 (C : Addr) (sp : Sp) : R2 := fun x y H Q => ∃ a dx fs b dy gs, x = .ref a ∧ H a = some (.ins C dx fs) ∧ y = .ref b ∧ H b = some (.ins C dy gs) ∧ sp [x, y] H Q E0
/-- y in x -/
def rOin (C : Addr) (sp : Sp) : R2 := fun y x H Q => ∃ a dx fs, x = .ref a ∧ H a = some (.ins C dx fs) ∧ sp [x, y] H (fun z H' => ∃ b, z = .bl b ∧ Q (.bl b) H') E0
theorem un_own (o : Own X.prog X.w X.K X.mg X.base k C "__neg__" ps sp) (hr : Room k X.A) : UnR X (unaryOp .USub) (rO1 C sp) := by
  intro pins s σ H x v Q I rx h
  obtain ⟨a, dx, fs, rfl, ha, q⟩ := h
  obtain ⟨f, fd, F, h1, h2, h3, hb⟩ := o.ok
  cases (show v = Value.ref a from rx)
  obtain ⟨od, J⟩ := inst_look I ha
  unfold unaryOp
  refine wpAny_holding ?_
  show wpAny _ _ (callSpecial? (.ref a) "__neg__" [] >>= _) _ _ _
  refine wpAny_bind (PySem.W.special_fn I.kIn J h1 (beq_iff_eq.mp h2) ?_)
  refine thn (run_fn (us := [.ref a]) (vs := [.ref a]) F hr hb .nil pass0 I (.cons rfl .nil) (by simpa using q)) fun w s' z => ?_
  exact wpAny_pure z
theorem bin_own (o : Own X.prog X.w X.K X.mg X.base k C "__add__" ps sp) (hr : Room k X.A) (hc : PySem.W.selfFirst X.K C = true) : OpR X (binaryOp .Add) (rO2 C sp) := by
  intro pins s σ H x y v u Q I rx ry h
  obtain ⟨a, dx, fs, b, dy, gs, rfl, ha, rfl, hb', q⟩ := h
  obtain ⟨f, fd, F, h1, h2, h3, hb⟩ := o.ok
  cases (show v = Value.ref a from rx)
  cases (show u = Value.ref b from ry)
  obtain ⟨od, J⟩ := inst_look I ha
  obtain ⟨od', J'⟩ := inst_look I hb'
  obtain ⟨m, hF⟩ := I.fr
  refine PySem.W.binop_K hF I.ok.mod.kin J J'.type hc h1 h2 ?_
  refine thn (run_fn (us := [.ref a, .ref b]) (vs := [.ref a, .ref b]) (Q := Q) F hr hb .nil pass0 I (.cons rfl (.cons rfl .nil)) (by simpa using q)) fun w s' ⟨z, H', I', rz, qz⟩ => ?_
  exact SlX.cmpback rz ⟨z, H', I', rz, qz⟩
theorem in_own (o : Own X.prog X.w X.K X.mg X.base k C "__contains__" ps sp) (hr : Room k X.A) : OpR X (compareOp .In) (rOin C sp) := by
  intro pins s σ H y x u v Q I ry rx h
  obtain ⟨a, dx, fs, rfl, ha, q⟩ := h
  obtain ⟨f, fd, F, h1, h2, h3, hb⟩ := o.ok
  cases (show v = Value.ref a from rx)
  obtain ⟨od, J⟩ := inst_look I ha
  obtain ⟨m, hF⟩ := I.fr
  refine PySem.W.in_K hF I.ok.mod.kin J h1 h2 ?_
  refine thn (run_fn (us := [.ref a, u]) (vs := [.ref a, y]) (Q := fun z H' => ∃ b, z = .bl b ∧ Q (.bl b) H') F hr hb .nil pass0 I (.cons rfl (.cons ry .nil)) (by simpa using q)) fun w s' ⟨z, H', I', r, b, hz, q'⟩ => ?_
  subst hz
  cases (show w = Value.bool b from r)
  exact wpAny_truthy_bool ⟨.bl b, H', I', rfl, q'⟩
theorem eq_own (o : Own X.prog X.w X.K X.mg X.base k C "__eq__" ps sp) (hr : Room k X.A) (hn : PySem.W.notFirst X.K C (.ref C) = true) : OpR X (compareOp .Eq) (rO2 C sp) := by
  intro pins s σ H x y v u Q I rx ry h
  obtain ⟨a, dx, fs, b, dy, gs, rfl, ha, rfl, hb', q⟩ := h
  obtain ⟨f, fd, F, h1, h2, h3, hb⟩ := o.ok
  cases (show v = Value.ref a from rx)
  cases (show u = Value.ref b from ry)
  obtain ⟨od, J⟩ := inst_look I ha
  obtain ⟨od', J'⟩ := inst_look I hb'
  obtain ⟨m, hF⟩ := I.fr
  show wpAny _ _ (richCompare .Eq (.ref a) (.ref b)) _ _ _
  refine PySem.W.cmp_K (op := .Eq) (tb := .ref C) hr.units0 hF I.ok.mod.kin J J'.type hn h1 h2 ?_
  refine thn (run_fn (us := [.ref a, .ref b]) (vs := [.ref a, .ref b]) (Q := Q) F hr hb .nil pass0 I (.cons rfl (.cons rfl .nil)) (by simpa using q)) fun w s' ⟨z, H', I', rz, qz⟩ => ?_
  exact SlX.cmpback rz ⟨z, H', I', rz, qz⟩
end
/-! ### fields, making -/
section
variable {α : Type} {X : Cx} {σ : L2.St} {H : Hp} {D : Ends} {rest : List Stmt} {e o : Expr} {es : List Expr} {pos p : Pos} {C : Addr} {f : Str} {k : Nat} {ps : List Str} {sp : Sp} {ms : List MP}
theorem e_fld {a dx : Addr} {fs : List (Str × V)} {v : V} {q : V → Hp → Prop} (hc : Cls X.K C) (hn : NoAttr X.K C f) (ho : EvP (wE X o) σ H fun v _ => v = .ref a) (ha : H a = some (.ins C dx fs)) (hl : fs.lookup f = some v) (hq : ∀ H', Ex H H' → q v H') (hb : attributeBase o f X.env (eval o X.env) = eval o X.env := by rfl) :
    EvP (wE X (.Attribute o f pos)) σ H q :=
  .of (pe_fld pE hb) fun H1 e1 Q k => ho H1 e1 _ fun u H2 e2 hu => ⟨a, C, dx, fs, v, hu, e2 _ _ (e1 _ _ ha), hc, hn, hl, k v H2 e2 (hq H2 (e1.trans e2))⟩
/-- o.f of what is told by a relation -/
theorem e_fldR {q : V → Hp → Prop} {R : V → Hp → Prop} (hc : Cls X.K C) (hn : NoAttr X.K C f) (ho : EvP (wE X o) σ H R) (hR : ∀ v H', R v H' → ∃ a dx fs w, v = .ref a ∧ H' a = some (.ins C dx fs) ∧ fs.lookup f = some w ∧ q w H') (hb : attributeBase o f X.env (eval o X.env) = eval o X.env := by rfl) :
    EvP (wE X (.Attribute o f pos)) σ H q :=
  .of (pe_fld pE hb) fun H1 e1 Q k => ho H1 e1 _ fun u H2 e2 hu => by
    obtain ⟨a, dx, fs, w, h1, h2, h3, h4⟩ := hR u H2 hu
    exact ⟨a, C, dx, fs, w, h1, h2, hc, hn, h3, k w H2 e2 h4⟩
/-- o.f = e, the instance at a -/
theorem s_fld {a dx : Addr} {fs : List (Str × V)} {q : V → Hp → Prop} {pos' : Pos} (hc : Cls X.K C) (hn : NoAttr X.K C f) (he : EvP (wE X e) σ H q) (ho : EvP (wE X o) σ H fun v _ => v = .ref a) (ha : H a = some (.ins C dx fs)) (hl : fs.length < 1000)
    (h : ∀ v H', Ex H H' → q v H' → wS X rest D σ (upd H' a (.ins C dx (putF f v fs)))) (hm : ∀ v H' H'', Ex H' H'' → q v H' → q v H'') (hs : swapsWith e (some (.Attribute o f pos')) pos.line X.env = pure false := by rfl) : wS X (.Assign [.Attribute o f pos'] e pos :: rest) D σ H :=
  wS.cons (ps_fld pE pE hs) (he H ex_refl _ fun v H2 e2 hv => ho H2 e2 _ fun u H3 e3 hu => ⟨a, C, dx, fs, hu, e3 _ _ (e2 _ _ ha), hc, hn, hl, h v H3 (e2.trans e3) (hm v H2 H3 e3 hv)⟩)
/-- how a class makes its instances: C(e) -/
structure Mak (P : Program) (w : World) (K : PySem.W.Frag) (mg : Str → Option Value) (base : Heap) (k : Nat) (x : Str) (C : Addr) (ps : List Str) (sp : Sp) : Prop where
  ok : ∃ f fd, FnOk P w K mg base CX0 k f fd ps sp ∧ Mk K C f ∧ mg x = some (.ref C) ∧ Binds K fd ps []
/-- C(e): the instance at x, all that stood stands -/
theorem e_make {x : Str} {r : Rep α} {a0 : α} (M : Mak X.prog X.w X.K X.mg X.base k x C ps sp) (hr : Room (k + 1) X.A) (ha : EvA (wA X (e :: es)) σ H ms)
    (h : ∀ vs H1 y dx (Q : VK), Ex H H1 → Paired (fun v (m : MP) => m.P v H1) vs ms → H1 y = none → H1 dx = none → dx ≠ y → (∀ H2, Ex H1 H2 → r.R H2 (.ref y) a0 → Q (.ref y) H2) → sp (.ref y :: vs) (upd (upd H1 dx (.own y)) y (.ins C dx [])) (fun v H2 => v = .non ∧ Q (.ref y) H2) E0)
    (hg : Gl X x := by rfl) (hdb : (x == ("__debug__" : Str)) = false := by decide) (he : starEach (e :: es) X.env = (false, eval e X.env) :: starEach es X.env := by rfl) (hpl : (backTo pos (starEach es X.env)).any (·.1) = false := by rfl) :
    EvP (wE X (.Call (.Name x p) (e :: es) [] pos)) σ H (r.is a0).P := by
  obtain ⟨f, fd, F, M, hm, hb⟩ := M.ok
  exact .of (pe_make M F hr hg hm hb .nil pass0 pA hdb he hpl) fun H1 e1 Q q => ha H1 e1 _ fun vs H2 e2 hv y dx hy hdx hne => by
    have z := h vs H2 y dx Q (e1.trans e2) hv hy hdx hne fun H3 e3 h3 => q _ H3 (e2.trans e3) h3
    rw [List.append_nil]
    exact z
theorem sqt_upd {K : PySem.W.Frag} {H : Hp} {a b : Addr} {o : HO} {xs : List V} (h : SqT K H a xs) (hb : ∀ ys, H b ≠ some (.tup ys)) (hf : ∀ ob u, H b ≠ some (.frz ob u)) : SqT K (upd H b o) a xs := by
  rcases h with (h | ⟨ob, h⟩) | h
  · exact .inl (.inl (by rw [upd_ne (fun z => by subst z; exact hb _ h)]; exact h))
  · exact .inl (.inr ⟨ob, by rw [upd_ne (fun z => by subst z; exact hf _ _ h)]; exact h⟩)
  · exact .inr h
end
end Wp
/-! W6: lists that change in place; reversed; slices' bounds. -/
namespace Wp
open PySem PySem.Spec PyProof.Rows L2
section
variable {X : Cx}
theorem pget_list : PGet X (rIxL X.K) := by
  intro pins s σ H x y v u Q I rx ry h
  obtain ⟨p, xs, i, z, rfl, rfl, hq, he, q⟩ := h
  cases rx
  obtain ⟨t, rfl⟩ := ry
  obtain ⟨its, r, pl, hz⟩ := I.list hq
  obtain ⟨j, h1, h2, h3, h4, h5⟩ := atI_get he
  obtain ⟨w, ew, rw'⟩ := r.get h2
  have hl := r.length
  have hn := line63
  have fin : EP X pins σ Q w s := ⟨z, H, I, rw', q⟩
  by_cases h0 : 0 ≤ i
  · have hj : i.toNat = j := by
      rw [seqIndex_of h0 h5] at h1
      exact Option.some.inj h1
    exact wpAny_getItem_list pl.isList h0 (by omega) (by rw [hj]; simpa using ew) fin
  · have hj : (i + (its.toArray.size : Int)).toNat = j := by
      rw [seqIndex_neg (by omega) h4] at h1
      rw [List.size_toArray, ← hl]
      exact Option.some.inj h1
    exact wpAny_getItem_list_neg pl.isList (by omega) (by rw [List.size_toArray] <;> omega) (by omega) (by rw [hj]; simpa using ew) fin
end
section
variable {α : Type} {X : Cx} {σ : L2.St} {H : Hp} {D : Ends} {rest : List Stmt} {e o i : Expr} {pos apos cpos tpos : Pos} {p : Addr} {xs : List V} {q : V → Hp → Prop} {r : Rep α}
/-- o.append(e) -/
theorem s_app (hl : H p = some (.lst xs)) (ho : EvP (wE X o) σ H fun v _ => v = .ref p) (he : EvP (wE X e) σ H q) (hz : xs.length ≤ 1000000) (k : ∀ v H', Ex H H' → q v H' → wS X rest D σ (upd H' p (.lst (xs ++ [v]))))
    (hbase : attributeBase o "append" X.env (eval o X.env) = eval o X.env := by rfl)
    (hfew : ((backTo cpos (starEach [e] X.env)).all (fun x => !x.1) && (backToKw cpos (keywordEach [] X.env)).all (fun x => x.1.isSome) && decide (([e] : List Expr).length + ([] : List Keyword).length + (if ([] : List Keyword).isEmpty then 0 else 1) < 30)) = true := by rfl)
    (hline : (apos.endLine == cpos.line) = true := by rfl) (hs : starEach [e] X.env = (false, eval e X.env) :: starEach [] X.env := by rfl) (hplain : (backTo cpos (starEach [] X.env)).any (·.1) = false := by rfl)
    (hsw : swapsWith (.Call (.Attribute o "append" apos) [e] [] cpos) none pos.line X.env = pure false := by rfl) : wS X (.Expr (.Call (.Attribute o "append" apos) [e] [] cpos) pos :: rest) D σ H :=
  wS.cons (ps_expr (pe_bm PySem.F.plainAttrs_list PySem.F.slot_list_append PySem.F.type_list_append mt_append pE (pa_cons pE pa_nil hs) hbase hfew hline hs hplain) hsw)
    (ho H ex_refl _ fun u H1 e1 hu => by
      subst hu
      exact ⟨.inl ⟨rfl, _, SqL.of (e1 _ _ hl)⟩, he H1 e1 _ fun v H2 e2 hv => ⟨p, xs, v, rfl, rfl, e2 _ _ (e1 _ _ hl), by rw [sizeLine_eq]; omega, k v H2 (e1.trans e2) hv⟩⟩)
/-- o.pop() -/
theorem w_pop {y : V} {Q : VK} (hl : H p = some (.lst xs)) (hy : xs[xs.length - 1]? = some y) (ho : EvP (wE X o) σ H fun v _ => v = .ref p) (k : ∀ H', Ex H H' → Q y (upd H' p (.lst xs.dropLast))) (hbase : attributeBase o "pop" X.env (eval o X.env) = eval o X.env := by rfl) (hline : (apos.endLine == cpos.line) = true := by rfl) :
    wE X (.Call (.Attribute o "pop" apos) [] [] cpos) σ H Q :=
  wE.of (pe_bm0 PySem.F.plainAttrs_list PySem.F.slot_list_pop PySem.F.type_list_pop mt_pop pE hbase hline) (ho H ex_refl _ fun u H1 e1 hu => by
    subst hu
    exact ⟨.inl ⟨rfl, _, SqL.of (e1 _ _ hl)⟩, p, xs, y, rfl, rfl, e1 _ _ hl, hy, k H1 e1⟩)
/-- o[i] op= e, ints -/
theorem s_augL {op : Operator} {f : Int → Int → Int} {n a b : Int} {j : Nat} (hop : PIp X op (ipI f)) (hl : H p = some (.lst xs)) (ho : EvP (wE X o) σ H fun v _ => v = .ref p) (hi : EvP (wE X i) σ H (kI.is n).P) (hn : ixN xs.length n = some j) (ha : xs[j]? = some (.int a)) (he : EvP (wE X e) σ H (kI.is b).P)
    (k : ∀ H', Ex H H' → wS X rest D σ (upd H' p (.lst (xs.set j (.int (f a b)))))) (h1 : ∀ ov iv new, augStore i ov iv new = (do holding [new, ov, iv] (setItem ov iv new); release [new, ov, iv] []; pure .next) := by intros; rfl) : wS X (.AugAssign (.Subscript o i tpos) op e pos :: rest) D σ H :=
  wS.cons (ps_augS pE pE pget_list pE hop set_list h1) (ho H ex_refl _ fun u H1 e1 hu => hi H1 e1 _ fun w H2 e2 hw => by
    subst hu
    have hl2 : H2 p = some (.lst xs) := e2 _ _ (e1 _ _ hl)
    refine ⟨p, xs, n, .int a, rfl, hw, SqL.of hl2, by unfold atI; rw [hn]; exact ha, ?_⟩
    refine he H2 (e1.trans e2) _ fun z H3 e3 hz => ⟨a, b, rfl, hz, p, xs, n, j, rfl, hw, e3 _ _ hl2, hn, k H3 ((e1.trans e2).trans e3)⟩)
/-- o[i] = e -/
theorem s_setIx {n : Int} {j : Nat} {pos' : Pos} (hl : H p = some (.lst xs)) (he : EvP (wE X e) σ H q) (ho : EvP (wE X o) σ H fun v _ => v = .ref p) (hi : EvP (wE X i) σ H (kI.is n).P) (hn : ixN xs.length n = some j)
    (hm : ∀ v H' H'', Ex H' H'' → q v H' → q v H'') (k : ∀ v H', Ex H H' → q v H' → wS X rest D σ (upd H' p (.lst (xs.set j v))))
    (ha : ∀ v, assign (.Subscript o i pos') X.env v = (do
      let ov ← holding [v] (eval o X.env)
      let iv ← holding [v, ov] (eval i X.env)
      standAt pos'
      holding [v, ov, iv] (setItem ov iv v)
      release [v, ov, iv] []) := by intro _; rfl)
    (hs : swapsWithSole [.Subscript o i pos'] e pos.line X.env = pure false := by rfl) (hw : swappedStores [.Subscript o i pos'] e X.env = pure none := by rfl) (h1 : (assignEach [.Subscript o i pos'] X.env).map (·.2) = [assign (.Subscript o i pos') X.env] := by rfl) :
    wS X (.Assign [.Subscript o i pos'] e pos :: rest) D σ H :=
  wS.cons (ps_asg pE (pg_sub pE pE set_list ha) hs hw h1) (he H ex_refl _ fun v H1 e1 hv => ho H1 e1 _ fun u H2 e2 hu => hi H2 (e1.trans e2) _ fun w H3 e3 hw => by
    subst hu
    exact ⟨p, xs, n, j, rfl, hw, e3 _ _ (e2 _ _ (e1 _ _ hl)), hn, k v H3 ((e1.trans e2).trans e3) (hm _ _ _ (e2.trans e3) hv)⟩)
/-- reversed -/
theorem walk_revT {K : PySem.W.Frag} {a : Addr} {xs : List V} : Walk (RT.ItvT K a xs.length) xs.length (fun H => SqT K H a xs) (YAt xs.reverse) :=
  ⟨fun i _ hi q => ⟨hi, xs, xs[xs.length - 1 - i]'(by omega), q, by simp [show xs.length - 1 - i < xs.length by omega]⟩, fun _ _ => Nat.le_refl _, fun i _ _ _ hi q y => ⟨y.1, by rw [List.getElem?_reverse hi]; exact y.2 xs q⟩⟩
theorem walk_revL {K : PySem.W.Frag} {a : Addr} {xs : List V} : Walk (Itv K a xs.length) xs.length (fun H => SqL K H a xs) (YAt xs.reverse) :=
  walk_rev.mono (fun _ h => h) fun i _ _ _ hi _ y => ⟨y.1, by rw [List.getElem?_reverse hi]; exact y.2⟩
theorem src_revT {tl : TE} {as : List α} (h : EvP tl σ H ((kT X.K r).is as).P) : SrcP (RT.iRevA X.K tl) σ H r as.reverse := fun H1 e R k => h H1 e _ fun v H2 e2 ⟨p, xs, e3, hx, hp⟩ =>
  ⟨p, xs, e3, .inr ⟨hx, k _ H2 xs.reverse _ e2 (pd_rev hp) (by rw [List.length_reverse, ← pd_len hp]; exact walk_revT) fun H' e4 => ex_sqt e4 hx⟩⟩
theorem src_revL {tl : TE} {as : List α} (h : EvP tl σ H ((kL r).is as).P) : SrcP (RT.iRevA X.K tl) σ H r as.reverse := fun H1 e R k => h H1 e _ fun v H2 e2 ⟨p, xs, e3, hx, hp⟩ =>
  ⟨p, xs, e3, .inl ⟨SqL.of hx, k _ H2 xs.reverse _ e2 (pd_rev hp) (by rw [List.length_reverse, ← pd_len hp]; exact walk_revL) fun H' e4 => SqL.of (e4 _ _ hx)⟩⟩
end
/-! slices -/
theorem cut_init {α : Type} {as : List α} (h : as ≠ []) : cut as none (some (-1)) = as.dropLast := by
  unfold cut HT.sIx
  have : 0 < as.length := List.length_pos_iff.mpr h
  simp only [List.drop_zero, Nat.sub_zero]
  rw [if_pos (by omega), List.dropLast_eq_take]
  congr 1
  omega
theorem cut_tail {α : Type} {as : List α} (h : as ≠ []) : cut as (some 1) none = as.tail := by
  unfold cut HT.sIx
  have : 0 < as.length := List.length_pos_iff.mpr h
  simp only
  rw [if_neg (by omega)]
  have e : min (1 : Int).toNat as.length = 1 := by simp; omega
  rw [e, List.drop_one]
  apply List.take_of_length_le
  simp
theorem at_last {α : Type} {as : List α} {a : α} (h : as.getLast? = some a) : atI as (-1) = some a := by
  rw [List.getLast?_eq_getElem?] at h
  have hl := (List.getElem?_eq_some_iff.mp h).1
  unfold atI ixN
  rw [if_neg (by omega), if_pos (by omega)]
  show as[(-1 + (as.length : Int)).toNat]? = some a
  rw [show (-1 + (as.length : Int)).toNat = as.length - 1 by omega]; exact h
theorem at_head {α : Type} {as : List α} {a : α} (h : as.head? = some a) : atI as 0 = some a := by
  cases as with
  | nil => simp at h
  | cons b as => simp at h; subst h; exact atI_nat (j := 0) rfl
end Wp
/-! W7: max of a list of ints with a default. -/
namespace MaxD
open PySem PySem.Spec PyProof.Rows
theorem args_max_default (a v : Value) : argsOk "max" ⟨[a], [(Str.ofString "default", v)]⟩ := by unfold argsOk; kernel_rfl
section
variable {prog : Program} {w : World} {A : Around} {R : Result → Shared → Prop} {I S : Addr} {fp wr : List Addr} {n : Nat} {P : Nat → Value → Prop} {St : Nat → Heap → Prop} {bt : Nat → Nat → Bool} {d : Value}
/-- the best so far, kept at S -/
def Best (P : Nat → Value → Prop) (bt : Nat → Nat → Bool) : Nat → Array Value → Prop
  | 0, old => old = #[]
  | j + 1, old => ∃ vb, old = #[vb, vb] ∧ P (argBest bt j) vb
theorem turns (W : Walks prog w A.in1 I fp wr n P St) (hcmp : CmpOf prog w A.in1 .Gt P bt) (hSf : S ∉ fp) :
    ∀ (k j : Nat) (s : Shared) (old : Array Value) (c : Nat), n - j = k → j ≤ n → St j s.heap → Best P bt j old → s.heap.get? S = some { cls := .type "list", dict := none, data := .seq old c, slots := #[] } →
    (n = 0 → ∀ h' tk, (∀ b o, b ∉ wr → b ≠ S → s.heap.get? b = some o → h'.get? b = some o) → R (.ok (.ret d)) { s with heap := h', toks := tk }) →
    (0 < n → ∀ v h' tk, P (argBest bt (n - 1)) v → (∀ b o, b ∉ wr → b ≠ S → s.heap.get? b = some o → h'.get? b = some o) → R (.ok (.ret v)) { s with heap := h', toks := tk }) →
    codeAny (model prog w) A (.builtin "max.loop" ⟨[.ref I, .none, .ref S], [(Str.ofString "default", d)]⟩) R s := by
  have hSw : S ∉ wr := fun h => hSf (W.sub _ h)
  have nm : (toString "max" ++ toString ".loop" : String) = "max.loop" := by decide
  intro k
  induction k with
  | zero =>
    intro j s old c hk hj hst hB hS hR0 hR
    have hjn : j = n := by omega
    subst hjn
    refine codeAny_builtin F.entry_max_loop ?_
    rw [Around.under_plainId F.plain_max_loop _]
    show wpAny _ A.in1 (seqItems? (.ref S) >>= _) _ _ s
    refine wpAny_bind (wpAny_seqItems hS rfl ?_)
    show wpAny _ A.in1 (tryCatch (pyNext (.ref I)) _ >>= _) _ _ s
    refine wpAny_bind (wpAny_tryCatch (W.done s _ _ hst fun h' tk keep => ?_))
    have hS' := keep S _ hSw hS
    cases j with
    | zero =>
      obtain rfl : old = #[] := hB
      exact wpAny_bind (wpAny_rule (wpAny_pure (hR0 rfl _ tk fun b o h1 _ e => keep b o h1 e)))
    | succ j =>
      obtain ⟨vb, rfl, hP⟩ := hB
      show wpAny _ A.in1 (updateSeq S (fun _ => #[]) >>= _) _ _ _
      refine wpAny_bind ?_
      refine wpAny_updateSeq hS' rfl (wpAny_bind (wpAny_letGo (wpAny_pure ?_)))
      exact hR (by omega) vb _ tk hP fun b o h1 h2 e => (Heap.get?_update_other _ _ (Ne.symm h2)).trans (keep b o h1 e)
  | succ k ih =>
    intro j s old c hk hj hst hB hS hR0 hR
    have hlt : j < n := by omega
    refine codeAny_builtin F.entry_max_loop ?_
    rw [Around.under_plainId F.plain_max_loop _]
    show wpAny _ A.in1 (seqItems? (.ref S) >>= _) _ _ s
    refine wpAny_bind (wpAny_seqItems hS rfl ?_)
    show wpAny _ A.in1 (tryCatch (pyNext (.ref I)) _ >>= _) _ _ s
    refine wpAny_bind (wpAny_tryCatch (W.item j s _ _ hlt hst fun v h' tk hP hst' keep => ?_))
    have hS' := keep S _ hSw hS
    have put : ∀ x : Array Value, ∀ b ∈ fp, ∀ o, h'.get? b = some o → (h'.update S (Obj.mapSeq fun _ => x)).get? b = some o := fun x b hb o e => (Heap.get?_update_other _ _ (fun h : S = b => hSf (by rw [h]; exact hb))).trans e
    have kp : ∀ (x : Array Value) (h2 : Heap), (∀ b o, b ∉ wr → b ≠ S → (h'.update S (Obj.mapSeq fun _ => x)).get? b = some o → h2.get? b = some o) → ∀ b o, b ∉ wr → b ≠ S → s.heap.get? b = some o → h2.get? b = some o :=
      fun x h2 q b o h1 h3 e => q b o h1 h3 ((Heap.get?_update_other _ _ (Ne.symm h3)).trans (keep b o h1 e))
    cases j with
    | zero =>
      obtain rfl : old = #[] := hB
      show wpAny _ A.in1 (updateSeq S (fun _ => #[v, v]) >>= _) _ _ _
      refine wpAny_bind ?_
      refine wpAny_updateSeq hS' rfl ?_
      rw [nm]
      exact wpAny_pure ⟨plainId_quiet F.plain_max_loop _, ih 1 _ #[v, v] _ (by omega) hlt (W.frame _ _ _ hst' (put _)) ⟨v, rfl, hP⟩ (Heap.get?_update_self _ hS' rfl)
        (fun z => absurd z (by omega)) fun hn v' h2 tk2 hP' q => hR hn v' h2 tk2 hP' (kp _ h2 q)⟩
    | succ j =>
      obtain ⟨vb, rfl, hPb⟩ := hB
      show wpAny _ A.in1 (tryCatch (holding [v, v] (richCompare .Gt v vb >>= _)) _ >>= _) _ _ _
      refine wpAny_bind (wpAny_tryCatch (wpAny_holding (wpAny_bind (hcmp (j + 1) (argBest bt j) v vb _ _ _ hP hPb ?_))))
      refine wpAny_bind (wpAny_holding (wpAny_truthy_bool ?_))
      refine wpAny_bind (wpAny_letGo (wpAny_pure ?_))
      cases hb : bt (j + 1) (argBest bt j) with
      | true =>
        simp only [if_true]
        refine wpAny_bind ?_
        refine wpAny_updateSeq hS' rfl (wpAny_bind (wpAny_letGo ?_))
        rw [nm]
        exact wpAny_pure ⟨plainId_quiet F.plain_max_loop _, ih (j + 2) _ #[v, v] _ (by omega) hlt (W.frame _ _ _ hst' (put _)) ⟨v, rfl, by simp only [argBest, hb, if_true]; exact hP⟩ (Heap.get?_update_self _ hS' rfl)
          (fun z => absurd z (by omega)) fun hn v' h2 tk2 hP' q => hR hn v' h2 tk2 hP' (kp _ h2 q)⟩
      | false =>
        simp only [Bool.false_eq_true, if_false]
        refine wpAny_bind (wpAny_letGo ?_)
        rw [nm]
        exact wpAny_pure ⟨plainId_quiet F.plain_max_loop _, ih (j + 2) _ #[vb, vb] c (by omega) hlt hst' ⟨vb, rfl, by simp only [argBest, hb, Bool.false_eq_true, if_false]; exact hPb⟩ hS'
          (fun z => absurd z (by omega)) fun hn v' h2 tk2 hP' q => hR hn v' h2 tk2 hP' fun b o h1 h3 e => q b o h1 h3 (keep b o h1 e)⟩
end
section
variable {prog : Program} {w : World} {A : Around} {E : Value → Shared → Prop} {s : Shared}
/-- a built-in written as a tree, called with keywords -/
theorem tree_kw {id : String} {b : Builtin} {g : Args} {Q : Value → Shared → Prop} (hk : builtinKind id = none) (hp : plainId id = true) (hb : entryFor table id = some b) (ha : argsOk id g)
    (hc : wpAny (model prog w) A.in1 (b g) (fun fin s' => match fin with
      | .done f => (match (Except.ok f : Result) with | .ok (.ret v) => Q v s' | .ok _ => False | .error e => E e s')
      | .again c' => c'.quiet = true ∧ codeAny (model prog w) A c' (fun r s' => match r with | .ok (.ret v) => Q v s' | .ok _ => False | .error e => E e s') s') E s) : wpAny (model prog w) A (call (.builtin id) g.pos g.kw) Q E s := by
  refine wpAny_call (codeAny_call_builtin hp hb ?_)
  simp only [checkBuiltinCall, hk]
  cases hsig : Manifest.signature? id with
  | none => exact wpAny_pure hc
  | some sig =>
    simp only [argsOk, hsig] at ha
    have h2 : Bind.checkArgs id sig g = pure () := ha
    show wpAny _ A.in1 (Bind.checkArgs id sig g) _ _ s
    rw [h2]
    exact wpAny_pure hc
theorem call_max_default {x d : Value} {Q : Value → Shared → Prop}
    (h : wpAny (model prog w) A.in1 (pyIter x) (fun it s₂ => ∃ I fp wr n P St bt, it = .ref I ∧ Walks prog w A.in1 I fp wr n P St ∧ St 0 s₂.heap ∧ (∀ b ∈ fp, b < s₂.heap.objs.size) ∧ CmpOf prog w A.in1 .Gt P bt ∧
      (n = 0 → ∀ h' tk, (∀ b o, b ∉ wr → s₂.heap.get? b = some o → h'.get? b = some o) → Q d { s₂ with heap := h', toks := tk }) ∧
      (0 < n → ∀ v h' tk, P (argBest bt (n - 1)) v → (∀ b o, b ∉ wr → s₂.heap.get? b = some o → h'.get? b = some o) → Q v { s₂ with heap := h', toks := tk })) E s) :
    wpAny (model prog w) A (call (.builtin "max") [x] [(Str.ofString "default", d)]) Q E s := by
  have nm : (toString "max" ++ toString ".loop" : String) = "max.loop" := by decide
  refine tree_kw (g := ⟨[x], [(Str.ofString "default", d)]⟩) F.kind_max F.plain_max F.entry_max (args_max_default x d) ?_
  show wpAny _ A.in1 (Builtin.Builtins.bindParams "max" ["key", "default"] 0 ⟨[], [(Str.ofString "default", d)]⟩ >>= _) _ _ s
  refine wpAny_bind (wpAny_of_eq (show Builtin.Builtins.bindParams "max" ["key", "default"] 0 ⟨[], [(Str.ofString "default", d)]⟩ = pure [none, some d] from by rfl) ?_)
  refine wpAny_bind (wpAny_pure ?_)
  refine wpAny_bind (wpAny_mono h (fun it s₂ h₂ => ?_) fun _ _ e => e)
  obtain ⟨I, fp, wr, n, P, St, bt, rfl, W, hst, hfp, hcmp, hQ0, hQ⟩ := h₂
  refine wpAny_bind (wpAny_newObj_type ?_)
  have hSf : s₂.heap.objs.size ∉ fp := fun hm => Nat.lt_irrefl _ (hfp _ hm)
  rw [nm]
  refine wpAny_pure ⟨plainId_quiet F.plain_max_loop _, ?_⟩
  show codeAny (model prog w) A (.builtin "max.loop" ⟨[.ref I, .none, .ref s₂.heap.objs.size], [(Str.ofString "default", d)]⟩) _ _
  exact turns (bt := bt) W hcmp hSf n 0 _ #[] _ rfl (Nat.zero_le _) (W.frame _ _ _ hst fun b _ o e => Heap.get?_push_of_some _ e) rfl (Heap.get?_push_size _ rfl)
    (fun z h' tk q => hQ0 z h' tk fun b o h1 e => q b o h1 (Nat.ne_of_lt (Heap.lt_size e)) (Heap.get?_push_of_some _ e)) fun z v h' tk hP q => hQ z v h' tk hP fun b o h1 e => q b o h1 (Nat.ne_of_lt (Heap.lt_size e)) (Heap.get?_push_of_some _ e)
end
end MaxD
namespace Wp
open PySem PySem.Spec PyProof.Rows L2
/-- max(xs, default=d), xs ints -/
def rMaxDf (K : PySem.W.Frag) : List V → List V → Hp → VK → Prop := fun vs zs H Q => ∃ (a : Addr) (ns : List Int) (d : Int), vs = [V.ref a] ∧ zs = [.int d] ∧ SqL K H a (ns.map V.int) ∧ (ns = [] → Q (.int d) H) ∧ (ns ≠ [] → ∀ m, m ∈ ns → (∀ y, y ∈ ns → y ≤ m) → Q (.int m) H)
theorem cr_maxDf {X : Cx} (hc : X.calm = true) : CallRK X (.builtin "max") [Str.ofString "default"] (rMaxDf X.K) := by
  intro pins s σ H vs zs us ws Q I r r2 h
  obtain ⟨a, ns, d, rfl, rfl, hs, q0, q1⟩ := h
  obtain ⟨its, rv, hl, _⟩ := I.list hs
  have hl := hl.isList
  rw [Vals.ref1 r]
  obtain ⟨u, rfl, t, rfl⟩ := r2.one
  obtain ⟨xs, e⟩ := rv.ints.allInts.items
  have hn : numsOf (intItems xs).toList = ns := by rw [← e]; exact rv.ints.numsOf
  rw [nums_intItems] at hn
  rw [e] at hl
  show wpAny (model X.prog X.w) X.A (call (.builtin "max") [.ref a] [(Str.ofString "default", .int d t)]) (EP X pins σ Q) X.xe s
  refine MaxD.call_max_default (iter_intList hl fun s₂ e st hfp hlI => ?_)
  subst e
  refine ⟨_, _, _, _, _, _, _, rfl, Walks.list (A := X.A.in1) (I.ok.hd hc) _ a hlI (intItems xs), st, hfp, CmpOf.ints_gt (numAt xs) (fun _ _ => intItems_at), fun hz h' tk hk => ?_, fun hp v h' tk hP hk => ?_⟩
  · have hns : ns = [] := by
      have : xs.size = 0 := by simpa [intItems] using hz
      rw [← hn]; simpa using this
    exact ⟨.int d, H, I.kept (t' := tk) (old_kept hk), ⟨_, rfl⟩, q0 hns⟩
  · have hsz : 0 < xs.size := by simpa [intItems] using hp
    have hP' : (intItems xs)[argBest (fun i j => decide (numAt xs i > numAt xs j)) (xs.size - 1)]? = some v := by simpa [intItems] using hP
    obtain ⟨tv, rfl⟩ := intItems_at hP'
    obtain ⟨h1, h2⟩ := argBest_gt (numAt xs) (xs.size - 1)
    subst hn
    refine ⟨.int _, H, I.kept (t' := tk) (old_kept hk), ⟨_, rfl⟩, q1 (by intro z; have := congrArg List.length z; simp at this; rw [this] at hsz; exact absurd hsz (by decide)) _ ?_ fun y hy => ?_⟩
    · rw [numAt_eq]; exact PySem.getD_mem (by rw [List.length_map, Array.length_toList]; omega)
    · obtain ⟨j, hj, rfl⟩ := mem_getD hy
      rw [List.length_map, Array.length_toList] at hj
      rw [← numAt_eq]; exact h2 j (by omega)
end Wp
/-! M1: polynomials as coefficient functions; canonical term lists. Plain Lean. -/
namespace Wf
abbrev C := Int → Int → Int
abbrev Tm := Int × Int × Int
abbrev Po := List Tm
def coef : Po → C
  | [], _, _ => 0
  | t :: f, i, j => (if t.1 = i ∧ t.2.1 = j then t.2.2 else 0) + coef f i j
theorem coef_nil (i j : Int) : coef [] i j = 0 := rfl
theorem coef_cons (t : Tm) (f : Po) (i j : Int) : coef (t :: f) i j = (if t.1 = i ∧ t.2.1 = j then t.2.2 else 0) + coef f i j := rfl
theorem coef_append (f g : Po) (i j : Int) : coef (f ++ g) i j = coef f i j + coef g i j := by
  induction f with
  | nil => simp [coef]
  | cons t f ih => simp only [List.cons_append, coef_cons, ih]; omega
theorem coef_neg (f : Po) (i j : Int) : coef (f.map fun t => (t.1, t.2.1, -t.2.2)) i j = - coef f i j := by
  induction f with
  | nil => simp [coef]
  | cons t f ih =>
    simp only [List.map_cons, coef_cons, ih]
    split <;> omega
theorem coef_swap (f : Po) (i j : Int) : coef (f.map fun t => (t.2.1, t.1, t.2.2)) i j = coef f j i := by
  induction f with
  | nil => simp [coef]
  | cons t f ih =>
    simp only [List.map_cons, coef_cons, ih]
    by_cases h : t.1 = j ∧ t.2.1 = i
    · rw [if_pos h, if_pos ⟨h.2, h.1⟩]
    · rw [if_neg h, if_neg (fun q => h ⟨q.2, q.1⟩)]
/-- times one term -/
theorem coef_term (k m d : Int) (f : Po) (i j : Int) : coef (f.map fun t => (k + t.1, m + t.2.1, d * t.2.2)) i j = d * coef f (i - k) (j - m) := by
  induction f with
  | nil => simp [coef]
  | cons t f ih =>
    simp only [List.map_cons, coef_cons, ih]
    by_cases h : t.1 = i - k ∧ t.2.1 = j - m
    · rw [if_pos h, if_pos (by omega)]; rw [Int.mul_add]
    · rw [if_neg h, if_neg (by omega)]; rw [Int.zero_add, Int.zero_add]
theorem coef_mem_ne {f : Po} {i j : Int} (h : coef f i j ≠ 0) : ∃ t ∈ f, t.1 = i ∧ t.2.1 = j := by
  induction f with
  | nil => simp [coef] at h
  | cons t f ih =>
    by_cases e : t.1 = i ∧ t.2.1 = j
    · exact ⟨t, by simp, e⟩
    · rw [coef_cons, if_neg e, Int.zero_add] at h
      obtain ⟨u, hu, q⟩ := ih h
      exact ⟨u, by simp [hu], q⟩
/-- the order of keys -/
def KLt (s t : Int × Int) : Prop := s.1 < t.1 ∨ (s.1 = t.1 ∧ s.2 < t.2)
def TLt (s t : Tm) : Prop := s.1 < t.1 ∨ (s.1 = t.1 ∧ s.2.1 < t.2.1)
structure Canon (f : Po) : Prop where
  srt : f.Pairwise TLt
  nz : ∀ t ∈ f, t.2.2 ≠ 0
theorem Canon.nil : Canon [] := ⟨.nil, by simp⟩
theorem Canon.tail {t : Tm} {f : Po} (h : Canon (t :: f)) : Canon f := ⟨(List.pairwise_cons.mp h.srt).2, fun u hu => h.nz u (by simp [hu])⟩
/-- below all keys nothing stands -/
theorem coef_lt {f : Po} {i j : Int} (h : ∀ t ∈ f, i < t.1 ∨ (i = t.1 ∧ j < t.2.1)) : coef f i j = 0 := by
  by_cases q : coef f i j = 0
  · exact q
  · obtain ⟨t, ht, h1, h2⟩ := coef_mem_ne q
    have := h t ht
    omega
theorem Canon.head {t : Tm} {f : Po} (h : Canon (t :: f)) : coef (t :: f) t.1 t.2.1 = t.2.2 := by
  rw [coef_cons, if_pos ⟨rfl, rfl⟩, coef_lt, Int.add_zero]
  intro u hu
  exact (List.pairwise_cons.mp h.srt).1 u hu
theorem canon_ext : ∀ {f g : Po}, Canon f → Canon g → (∀ i j, coef f i j = coef g i j) → f = g
  | [], [], _, _, _ => rfl
  | [], t :: g, _, hg, e => by
    have h1 := e t.1 t.2.1
    rw [hg.head, coef_nil] at h1
    exact absurd h1.symm (hg.nz t (by simp))
  | t :: f, [], hf, _, e => by
    have h1 := e t.1 t.2.1
    rw [hf.head, coef_nil] at h1
    exact absurd h1 (hf.nz t (by simp))
  | t :: f, u :: g, hf, hg, e => by
    have key : t.1 = u.1 ∧ t.2.1 = u.2.1 := by
      have nf := hf.nz t (by simp)
      have ng := hg.nz u (by simp)
      have h1 := e t.1 t.2.1
      rw [hf.head] at h1
      have h2 := e u.1 u.2.1
      rw [hg.head] at h2
      by_cases q : t.1 = u.1 ∧ t.2.1 = u.2.1
      · exact q
      · exfalso
        by_cases l : t.1 < u.1 ∨ (t.1 = u.1 ∧ t.2.1 < u.2.1)
        · have z : coef (u :: g) t.1 t.2.1 = 0 := coef_lt fun v hv => by
            rcases List.mem_cons.mp hv with rfl | hv
            · exact l
            · have := (List.pairwise_cons.mp hg.srt).1 v hv
              unfold TLt at this; omega
          rw [z] at h1
          exact nf h1
        · have z : coef (t :: f) u.1 u.2.1 = 0 := coef_lt fun v hv => by
            rcases List.mem_cons.mp hv with rfl | hv
            · omega
            · have := (List.pairwise_cons.mp hf.srt).1 v hv
              unfold TLt at this; omega
          rw [z] at h2
          exact ng h2.symm
    have h1 := e t.1 t.2.1
    rw [hf.head, key.1, key.2, hg.head] at h1
    have tu : t = u := by
      obtain ⟨a, b, c⟩ := t
      obtain ⟨a', b', c'⟩ := u
      simp only at key h1
      rw [key.1, key.2, h1]
    subst tu
    have : f = g := canon_ext hf.tail hg.tail fun i j => by
      have := e i j
      rw [coef_cons, coef_cons] at this
      omega
    rw [this]
/-- one canonical list a function -/
theorem canon_eq {f g : Po} (hf : Canon f) (hg : Canon g) : (coef f = coef g) ↔ f = g :=
  ⟨fun e => canon_ext hf hg fun i j => by rw [e], fun e => by rw [e]⟩
/-- the support lies in a box -/
def Box (φ : C) (m n : Nat) : Prop := ∀ i j, φ i j ≠ 0 → 0 ≤ i ∧ i < m ∧ 0 ≤ j ∧ j < n
theorem Box.mono {φ : C} {m n m' n' : Nat} (h : Box φ m n) (h1 : m ≤ m') (h2 : n ≤ n') : Box φ m' n' := fun i j q => by
  have := h i j q; omega
/-- a canonical list has keys in the box -/
theorem Canon.key {f : Po} (h : Canon f) {t : Tm} (ht : t ∈ f) : coef f t.1 t.2.1 = t.2.2 := by
  induction f with
  | nil => simp at ht
  | cons u f ih =>
    rcases List.mem_cons.mp ht with rfl | ht'
    · exact h.head
    · have := (List.pairwise_cons.mp h.srt).1 t ht'
      rw [coef_cons, if_neg (by unfold TLt at this; omega), Int.zero_add]
      exact ih h.tail ht'
theorem Canon.inbox {f : Po} {m n : Nat} (h : Canon f) (b : Box (coef f) m n) {t : Tm} (ht : t ∈ f) : 0 ≤ t.1 ∧ t.1 < m ∧ 0 ≤ t.2.1 ∧ t.2.1 < n :=
  b _ _ (by rw [h.key ht]; exact h.nz t ht)
/-- distinct naturals below a bound -/
theorem nodup_len : ∀ {n : Nat} {l : List Nat}, l.Nodup → (∀ x ∈ l, x < n) → l.length ≤ n
  | 0, l, _, hb => by
    cases l with
    | nil => simp
    | cons x l => exact absurd (hb x (by simp)) (by omega)
  | n + 1, l, hn, hb => by
    have h1 : (l.erase n).length ≤ n := nodup_len (hn.erase n) fun x hx => by
      have hx' := List.mem_of_mem_erase hx
      have := hb x hx'
      have ne : x ≠ n := fun e => by
        subst e
        exact (List.Nodup.not_mem_erase hn) hx
      omega
    have := List.length_erase (a := n) (l := l)
    split at this <;> omega
theorem Canon.len {f : Po} {m n : Nat} (h : Canon f) (b : Box (coef f) m n) : f.length ≤ m * n := by
  have inj : (f.map fun t => t.1.toNat * n + t.2.1.toNat).Nodup := by
    rw [List.nodup_iff_pairwise_ne, List.pairwise_map]
    refine List.Pairwise.imp_of_mem (fun {s t} hs ht r => ?_) h.srt
    have h1 := h.inbox b hs
    have h2 := h.inbox b ht
    unfold TLt at r
    intro e
    rcases r with r | ⟨r1, r2⟩
    · have : s.1.toNat + 1 ≤ t.1.toNat := by omega
      have := Nat.mul_le_mul_right n this
      rw [Nat.add_mul, Nat.one_mul] at this
      omega
    · rw [r1] at e; omega
  have := nodup_len (n := m * n) inj fun x hx => by
    obtain ⟨t, ht, rfl⟩ := List.mem_map.mp hx
    have h1 := h.inbox b ht
    have : t.1.toNat + 1 ≤ m := by omega
    have := Nat.mul_le_mul_right n this
    rw [Nat.add_mul, Nat.one_mul] at this
    omega
  simpa using this
/-! ### the functions of the program on coefficients -/
def add (f g : C) : C := fun i j => f i j + g i j
def sub (f g : C) : C := fun i j => f i j - g i j
def neg (f : C) : C := fun i j => - f i j
def mx (f : C) : C := fun i j => f (i - 1) j
def my (f : C) : C := fun i j => f i (j - 1)
def sw (f : C) : C := fun i j => f j i
def zero : C := fun _ _ => 0
structure Nm where
  a : C
  b : C
  c : C
  d : C
theorem Nm.ext' {x y : Nm} (ha : x.a = y.a) (hb : x.b = y.b) (hc : x.c = y.c) (hd : x.d = y.d) : x = y := by
  cases x; cases y; simp only at ha hb hc hd; rw [ha, hb, hc, hd]
def unit : C := fun i j => if i = 0 ∧ j = 0 then 1 else 0
def one : Nm := ⟨unit, zero, zero, zero⟩
def tl (n : Nm) : Nm := ⟨sub (mx n.c) n.b, add (add n.a (my n.b)) (mx n.d), add (my n.c) n.d, neg n.c⟩
def tr (n : Nm) : Nm := ⟨sub (add (my n.a) n.b) (mx n.c), neg (add n.a (mx n.d)), neg n.d, add n.c (my n.d)⟩
def gn (n : Nm) : Nm := ⟨neg n.c, neg n.d, n.a, n.b⟩
def ng (n : Nm) : Nm := ⟨neg n.a, neg n.b, neg n.c, neg n.d⟩
theorem tl_tr (n : Nm) : tl (tr n) = n := by
  apply Nm.ext' <;> funext i j <;> simp only [tl, tr, gn, ng, add, sub, neg, mx, my] <;> omega
theorem tr_tl (n : Nm) : tr (tl n) = n := by
  apply Nm.ext' <;> funext i j <;> simp only [tl, tr, gn, ng, add, sub, neg, mx, my] <;> omega
theorem gn_gn (n : Nm) : gn (gn n) = ng n := by
  apply Nm.ext' <;> funext i j <;> simp only [tl, tr, gn, ng, add, sub, neg, mx, my] <;> omega
theorem ng_ng (n : Nm) : ng (ng n) = n := by
  apply Nm.ext' <;> funext i j <;> simp only [tl, tr, gn, ng, add, sub, neg, mx, my] <;> omega
theorem tl_ng (n : Nm) : tl (ng n) = ng (tl n) := by
  apply Nm.ext' <;> funext i j <;> simp only [tl, tr, gn, ng, add, sub, neg, mx, my] <;> omega
theorem tr_ng (n : Nm) : tr (ng n) = ng (tr n) := by
  apply Nm.ext' <;> funext i j <;> simp only [tl, tr, gn, ng, add, sub, neg, mx, my] <;> omega
theorem gn_ng (n : Nm) : gn (ng n) = ng (gn n) := by
  apply Nm.ext' <;> funext i j <;> simp only [tl, tr, gn, ng, add, sub, neg, mx, my] <;> omega
end Wf
namespace Wf
/-! ### sorted keys make the canonical list -/
theorem KLt.irr {a b : Int × Int} (h : KLt a b) (h' : KLt b a) : False := by unfold KLt at *; omega
theorem klt_ext : ∀ {l m : List (Int × Int)}, l.Pairwise KLt → m.Pairwise KLt → (∀ x, x ∈ l ↔ x ∈ m) → l = m := by
  intro l m hl hm h
  have nd : ∀ {l : List (Int × Int)}, l.Pairwise KLt → l.Nodup := fun {l} h => List.Pairwise.imp (fun {a b} r e => by subst e; exact r.irr r) h
  exact List.Perm.eq_of_pairwise (le := KLt) (fun a b _ _ r r' => (r.irr r').elim) hl hm ((List.perm_ext_iff_of_nodup (nd hl) (nd hm)).mpr h)
def kle (a b : Int × Int) : Bool := decide (a.1 < b.1 ∨ (a.1 = b.1 ∧ a.2 ≤ b.2))
def srt (ks : List (Int × Int)) : List (Int × Int) := ks.mergeSort kle
theorem srt_mem {ks : List (Int × Int)} {x : Int × Int} : x ∈ srt ks ↔ x ∈ ks := List.mem_mergeSort
theorem srt_len {ks : List (Int × Int)} : (srt ks).length = ks.length := List.length_mergeSort ks
theorem srt_pw {ks : List (Int × Int)} (hn : ks.Nodup) : (srt ks).Pairwise KLt := by
  have h1 := List.pairwise_mergeSort (le := kle) (fun a b c => by simp only [kle, decide_eq_true_eq]; omega) (fun a b => by simp only [kle, Bool.or_eq_true, decide_eq_true_eq]; omega) ks
  have h2 : (srt ks).Nodup := (List.mergeSort_perm ks kle).nodup_iff.mpr hn
  have h3 : (srt ks).Pairwise fun a b => kle a b = true ∧ a ≠ b := List.Pairwise.and h1 h2
  refine h3.imp fun {a b} ⟨r, n⟩ => ?_
  simp only [kle, decide_eq_true_eq] at r
  unfold KLt
  rcases r with r | ⟨r1, r2⟩
  · exact .inl r
  · refine .inr ⟨r1, ?_⟩
    by_cases e : a.2 = b.2
    · exact absurd (Prod.ext r1 e) n
    · omega
theorem srt_eq {ks ys : List (Int × Int)} (hp : ys.Perm ks) (hy : ys.Pairwise KLt) : ys = srt ks := by
  have nd : ys.Nodup := List.Pairwise.imp (fun {a b} r e => by subst e; exact r.irr r) hy
  exact klt_ext hy (srt_pw (hp.nodup_iff.mp nd)) fun x => by rw [srt_mem, hp.mem_iff]
def fromKeys (ks : List (Int × Int)) (S : C) : Po := (ks.filter fun k => !decide (S k.1 k.2 = 0)).map fun k => (k.1, k.2, S k.1 k.2)
theorem fromKeys_ok {ks : List (Int × Int)} {S : C} (hs : ks.Pairwise KLt) (hS : ∀ i j, S i j ≠ 0 → (i, j) ∈ ks) : Canon (fromKeys ks S) ∧ coef (fromKeys ks S) = S := by
  have hc : Canon (fromKeys ks S) := by
    refine ⟨?_, fun t ht => ?_⟩
    · unfold fromKeys
      rw [List.pairwise_map]
      exact (hs.filter _).imp fun {a b} r => r
    · obtain ⟨k, hk, rfl⟩ := List.mem_map.mp ht
      have := (List.mem_filter.mp hk).2
      simpa using this
  refine ⟨hc, ?_⟩
  funext i j
  by_cases h : S i j = 0
  · rw [h]
    by_cases q : coef (fromKeys ks S) i j = 0
    · exact q
    · obtain ⟨t, ht, h1, h2⟩ := coef_mem_ne q
      have e := hc.key ht
      obtain ⟨k, hk, rfl⟩ := List.mem_map.mp ht
      simp only at h1 h2 e
      rw [h1, h2, h] at e
      exact e
  · have hm : (i, j, S i j) ∈ fromKeys ks S := List.mem_map.mpr ⟨(i, j), List.mem_filter.mpr ⟨hS i j h, by simpa using h⟩, rfl⟩
    exact hc.key hm
theorem fromKeys_len {ks : List (Int × Int)} {S : C} : (fromKeys ks S).length ≤ ks.length := by
  unfold fromKeys
  rw [List.length_map]
  exact List.length_filter_le _ _
end Wf
/-! M2: boxes, numbers of walks, the reduction of walks. Plain Lean. -/
namespace Wf
theorem Box.add {f g : C} {m n : Nat} (hf : Box f m n) (hg : Box g m n) : Box (add f g) m n := fun i j h => by
  unfold Wf.add at h
  by_cases q : f i j = 0
  · exact hg i j (by intro z; rw [q, z] at h; exact h rfl)
  · exact hf i j q
theorem Box.sub {f g : C} {m n : Nat} (hf : Box f m n) (hg : Box g m n) : Box (sub f g) m n := fun i j h => by
  unfold Wf.sub at h
  by_cases q : f i j = 0
  · exact hg i j (by intro z; rw [q, z] at h; exact h rfl)
  · exact hf i j q
theorem Box.neg {f : C} {m n : Nat} (hf : Box f m n) : Box (neg f) m n := fun i j h => by
  unfold Wf.neg at h
  exact hf i j (by omega)
theorem Box.mx {f : C} {m n : Nat} (hf : Box f m n) : Box (mx f) (m + 1) n := fun i j h => by
  have := hf (i - 1) j h
  omega
theorem Box.my {f : C} {m n : Nat} (hf : Box f m n) : Box (my f) m (n + 1) := fun i j h => by
  have := hf i (j - 1) h
  omega
theorem Box.sw {f : C} {m n : Nat} (hf : Box f m n) : Box (sw f) n m := fun i j h => by
  have := hf j i h
  omega
theorem Box.zero {m n : Nat} : Box zero m n := fun i j h => absurd rfl h
theorem Box.unit {m n : Nat} (hm : 0 < m) (hn : 0 < n) : Box unit m n := fun i j h => by
  unfold Wf.unit at h
  split at h
  · omega
  · exact absurd rfl h
/-- all four parts in a box -/
structure NB (x : Nm) (m n : Nat) : Prop where
  a : Box x.a m n
  b : Box x.b m n
  c : Box x.c m n
  d : Box x.d m n
theorem NB.mono {x : Nm} {m n m' n' : Nat} (h : NB x m n) (h1 : m ≤ m') (h2 : n ≤ n') : NB x m' n' := ⟨h.a.mono h1 h2, h.b.mono h1 h2, h.c.mono h1 h2, h.d.mono h1 h2⟩
theorem NB.one {m n : Nat} (hm : 0 < m) (hn : 0 < n) : NB one m n := ⟨.unit hm hn, .zero, .zero, .zero⟩
theorem NB.tl {x : Nm} {m n : Nat} (h : NB x m n) : NB (tl x) (m + 1) (n + 1) :=
  ⟨(h.c.mx.mono (by omega) (by omega)).sub (h.b.mono (by omega) (by omega)), ((h.a.mono (by omega) (by omega)).add (h.b.my.mono (by omega) (by omega))).add (h.d.mx.mono (by omega) (by omega)),
   (h.c.my.mono (by omega) (by omega)).add (h.d.mono (by omega) (by omega)), h.c.neg.mono (by omega) (by omega)⟩
theorem NB.tr {x : Nm} {m n : Nat} (h : NB x m n) : NB (tr x) (m + 1) (n + 1) :=
  ⟨((h.a.my.mono (by omega) (by omega)).add (h.b.mono (by omega) (by omega))).sub (h.c.mx.mono (by omega) (by omega)), ((h.a.mono (by omega) (by omega)).add (h.d.mx.mono (by omega) (by omega))).neg,
   h.d.neg.mono (by omega) (by omega), (h.c.mono (by omega) (by omega)).add (h.d.my.mono (by omega) (by omega))⟩
theorem NB.gn {x : Nm} {m n : Nat} (h : NB x m n) : NB (gn x) m n := ⟨h.c.neg, h.d.neg, h.a, h.b⟩
theorem NB.ng {x : Nm} {m n : Nat} (h : NB x m n) : NB (ng x) m n := ⟨h.a.neg, h.b.neg, h.c.neg, h.d.neg⟩
/-- n turns -/
def tls : Nat → Nm → Nm
  | 0, x => x
  | n + 1, x => tl (tls n x)
def trs : Nat → Nm → Nm
  | 0, x => x
  | n + 1, x => tr (trs n x)
def trn (k : Int) (x : Nm) : Nm := if 0 < k then tls k.natAbs x else trs k.natAbs x
theorem NB.tls {x : Nm} {m n : Nat} (h : NB x m n) : ∀ k, NB (tls k x) (m + k) (n + k)
  | 0 => h
  | k + 1 => (NB.tls h k).tl
theorem NB.trs {x : Nm} {m n : Nat} (h : NB x m n) : ∀ k, NB (trs k x) (m + k) (n + k)
  | 0 => h
  | k + 1 => (NB.trs h k).tr
theorem NB.trn {x : Nm} {m n : Nat} (h : NB x m n) (k : Int) : NB (trn k x) (m + k.natAbs) (n + k.natAbs) := by
  unfold Wf.trn; split
  · exact h.tls _
  · exact h.trs _
theorem tls_tl (n : Nat) (x : Nm) : tls n (tl x) = tl (tls n x) := by
  induction n with
  | zero => rfl
  | succ n ih => simp only [tls, ih]
theorem trs_tr (n : Nat) (x : Nm) : trs n (tr x) = tr (trs n x) := by
  induction n with
  | zero => rfl
  | succ n ih => simp only [trs, ih]
/-- one turn more -/
theorem trn_succ (k : Int) (x : Nm) : trn (k + 1) x = tl (trn k x) := by
  unfold trn
  by_cases h : 0 < k
  · rw [if_pos h, if_pos (by omega), show (k + 1).natAbs = k.natAbs + 1 by omega]; rfl
  · rw [if_neg h]
    by_cases h0 : k = 0
    · subst h0; rw [if_pos (by omega)]; rfl
    · rw [if_neg (by omega), show k.natAbs = (k + 1).natAbs + 1 by omega]
      simp only [trs, tl_tr]
theorem trn_pred (k : Int) (x : Nm) : trn (k - 1) x = tr (trn k x) := by
  have := trn_succ (k - 1) x
  rw [show k - 1 + 1 = k by omega] at this
  rw [this, tr_tl]
theorem trn_zero (x : Nm) : trn 0 x = x := rfl
theorem trn_add (j k : Int) (x : Nm) : trn k (trn j x) = trn (j + k) x := by
  have pos : ∀ n : Nat, trn (n : Int) (trn j x) = trn (j + n) x := by
    intro n
    induction n with
    | zero => simp [trn_zero]
    | succ n ih => rw [show ((n + 1 : Nat) : Int) = (n : Int) + 1 by omega, trn_succ, ih, show j + ((n : Int) + 1) = (j + n) + 1 by omega, trn_succ]
  have ng : ∀ n : Nat, trn (-(n : Int)) (trn j x) = trn (j - n) x := by
    intro n
    induction n with
    | zero => simp [trn_zero]
    | succ n ih => rw [show (-((n + 1 : Nat) : Int)) = (-(n : Int)) - 1 by omega, trn_pred, ih, show j - ((n + 1 : Nat) : Int) = (j - n) - 1 by omega, trn_pred]
  by_cases h : 0 ≤ k
  · have := pos k.toNat
    rw [Int.toNat_of_nonneg h] at this
    exact this
  · have := ng k.natAbs
    rw [show (-(k.natAbs : Int)) = k by omega, show j - (k.natAbs : Int) = j + k by omega] at this
    exact this
theorem trn_ng (k : Int) (x : Nm) : trn k (ng x) = ng (trn k x) := by
  have a : ∀ n, tls n (ng x) = ng (tls n x) := by
    intro n; induction n with
    | zero => rfl
    | succ n ih => simp only [tls, ih, tl_ng]
  have b : ∀ n, trs n (ng x) = ng (trs n x) := by
    intro n; induction n with
    | zero => rfl
    | succ n ih => simp only [trs, ih, tr_ng]
  unfold trn; split
  · exact a _
  · exact b _
end Wf
/-! M3: walks as lists of turns: joined, back, reduced, their numbers. Plain Lean. -/
namespace Wf
def joinL (u v : List Int) : List Int := u.dropLast ++ [u.getLastD 0 + v.headD 0] ++ v.tail
def backL (u : List Int) : List Int := u.reverse.map fun k => -k
def stp (st : List Int) (k : Int) : List Int := match st with
  | 0 :: a :: r => (a + k) :: r
  | st => k :: st
def redS (ts : List Int) : List Int := ts.foldl stp []
def redL (ts : List Int) : List Int := (redS ts).reverse
def numL : List Int → Nm
  | [] => one
  | k :: r => r.foldl (fun n k => trn k (gn n)) (trn k one)
theorem numL_snoc {ts : List Int} (h : ts ≠ []) (k : Int) : numL (ts ++ [k]) = trn k (gn (numL ts)) := by
  cases ts with
  | nil => exact absurd rfl h
  | cons a r => simp [numL, List.foldl_append]
theorem numL_one (k : Int) : numL [k] = trn k one := rfl
def tot (ts : List Int) : Nat := (ts.map Int.natAbs).sum
theorem tot_nil : tot [] = 0 := rfl
theorem tot_cons (k : Int) (ts : List Int) : tot (k :: ts) = k.natAbs + tot ts := by simp [tot]
theorem tot_append (a b : List Int) : tot (a ++ b) = tot a + tot b := by simp [tot]
theorem stp_len (st : List Int) (k : Int) : (stp st k).length ≤ st.length + 1 := by
  unfold stp; split <;> simp <;> omega
theorem stp_ne (st : List Int) (k : Int) : stp st k ≠ [] := by
  unfold stp; split <;> simp
theorem redS_len (ts : List Int) : (redS ts).length ≤ ts.length := by
  have : ∀ (ts st : List Int), (ts.foldl stp st).length ≤ st.length + ts.length := by
    intro ts
    induction ts with
    | nil => intro st; simp
    | cons k ts ih => intro st; have := ih (stp st k); have := stp_len st k; simp only [List.foldl_cons, List.length_cons]; omega
  simpa [redS] using this ts []
theorem redL_len (ts : List Int) : (redL ts).length ≤ ts.length := by unfold redL; rw [List.length_reverse]; exact redS_len ts
/-- the numbers' boxes, crude -/
theorem numL_box : ∀ {ts : List Int}, ts ≠ [] → NB (numL ts) (1 + tot ts) (1 + tot ts) := by
  intro ts h
  have key : ∀ (r : List Int) (n : Nm) (b : Nat), NB n b b → NB (r.foldl (fun n k => trn k (gn n)) n) (b + tot r) (b + tot r) := by
    intro r
    induction r with
    | nil => intro n b h; simpa [tot] using h
    | cons k r ih =>
      intro n b h
      have := ih (trn k (gn n)) (b + k.natAbs) ((h.gn).trn k)
      rw [tot_cons, List.foldl_cons, show b + (k.natAbs + tot r) = b + k.natAbs + tot r by omega]
      exact this
  cases ts with
  | nil => exact absurd rfl h
  | cons k r =>
    have := key r (trn k one) (1 + k.natAbs) ((NB.one (by omega) (by omega)).trn k)
    rw [tot_cons, show 1 + (k.natAbs + tot r) = 1 + k.natAbs + tot r by omega]
    exact this
theorem tot_take (ts : List Int) (i : Nat) : tot (ts.take i) ≤ tot ts := by
  have := tot_append (ts.take i) (ts.drop i)
  rw [List.take_append_drop] at this
  omega
end Wf
/-! M4: step polynomials, the lowering of a power, stable bounds. Plain Lean. -/
namespace Wf
/-- the first items lessened -/
def subL : List Int → List Int → List Int
  | f, [] => f
  | [], _ :: _ => []
  | x :: f, y :: o => (x - y) :: subL f o
theorem subL_len : ∀ f o : List Int, (subL f o).length = f.length
  | f, [] => by cases f <;> rfl
  | [], _ :: _ => rfl
  | x :: f, y :: o => by simp [subL, subL_len f o]
/-- place by place -/
theorem subL_get : ∀ (f o : List Int) (i : Nat), (subL f o)[i]? = (f[i]?).map fun x => x - (o[i]?).getD 0
  | f, [], i => by cases f <;> simp [subL]
  | [], _ :: _, i => by simp [subL]
  | x :: f, y :: o, 0 => by simp [subL]
  | x :: f, y :: o, i + 1 => by simp [subL, subL_get f o i]
def sIter : Nat → List Int × List Int
  | 0 => ([], [1])
  | n + 1 => ((sIter n).2, subL (0 :: (sIter n).2) (sIter n).1)
theorem sIter_len (n : Nat) : (sIter n).1.length = n ∧ (sIter n).2.length = n + 1 := by
  induction n with
  | zero => exact ⟨rfl, rfl⟩
  | succ n ih => simp only [sIter, subL_len, List.length_cons]; omega
/-- the coefficients of S(k) -/
def stepL (k : Nat) : List Int := if k = 0 then [] else (sIter (k - 1)).2
theorem stepL_len (k : Nat) : (stepL k).length = k := by
  unfold stepL; split
  · subst k; rfl
  · rw [(sIter_len _).2]; omega
def Sc (p : Nat) (m : Nat) : Int := (stepL p).getD m 0
def smallL (l : List Int) : Bool := l.all fun x => decide (-(2 ^ 64) < x ∧ x < 2 ^ 64)
theorem stepL_small : ∀ k, k ≤ 60 → smallL (stepL k) = true := by
  have : ((List.range 61).all fun k => smallL (stepL k)) = true := by decide +kernel
  intro k hk
  exact List.all_eq_true.mp this k (List.mem_range.mpr (by omega))
theorem Sc_small {p m : Nat} (hp : p ≤ 60) : -(2 ^ 64) < Sc p m ∧ Sc p m < 2 ^ 64 := by
  unfold Sc
  rw [List.getD_eq_getElem?_getD]
  cases h : (stepL p)[m]? with
  | none => simp
  | some x =>
    have := List.all_eq_true.mp (stepL_small p hp) x (List.mem_of_getElem? h)
    simpa using this
/-- the power high of x lowered by S(p) -/
def lowS (p high : Nat) (φ : C) : C := fun i j => φ i j - if (high : Int) - p + 1 ≤ i ∧ i ≤ high then Sc p (i - ((high : Int) - p + 1)).toNat * φ high j else 0
/-- the powers below m lowered, from above, as far as p - 1 -/
def lowX (p : Nat) : Nat → C → C
  | 0, φ => φ
  | m + 1, φ => if p ≤ m + 1 then lowX p m (lowS p m φ) else φ
theorem lowX_done {p m : Nat} (h : m < p) (φ : C) : lowX p m φ = φ := by
  cases m with
  | zero => rfl
  | succ m => simp only [lowX]; rw [if_neg (by omega)]
theorem lowX_succ {p m : Nat} (h : p ≤ m + 1) (φ : C) : lowX p (m + 1) φ = lowX p m (lowS p m φ) := by simp only [lowX]; rw [if_pos h]
theorem lowS_zero {p high : Nat} {φ : C} (h : ∀ j, φ high j = 0) : lowS p high φ = φ := by
  funext i j
  unfold lowS
  rw [h j]; split <;> simp
/-- the bound does not matter above the degree -/
theorem lowX_any {p m n : Nat} {φ : C} (h : ∀ i j, (m : Int) ≤ i → φ i j = 0) (hmn : m ≤ n) : lowX p n φ = lowX p m φ := by
  obtain ⟨d, rfl⟩ := Nat.le.dest hmn
  induction d with
  | zero => rfl
  | succ d ih =>
    have e : lowX p (m + d + 1) φ = lowX p (m + d) φ := by
      by_cases hp : p ≤ m + d + 1
      · rw [lowX_succ hp, lowS_zero (fun j => h _ j (by omega))]
      · rw [lowX_done (by omega), lowX_done (by omega)]
    rw [show m + (d + 1) = m + d + 1 by omega, e]
    exact ih (by omega)
theorem Box.hi {φ : C} {m n : Nat} (h : Box φ m n) : ∀ i j, (m : Int) ≤ i → φ i j = 0 := fun i j hi => by
  by_cases q : φ i j = 0
  · exact q
  · have := h i j q; omega
theorem Box.lowS {φ : C} {m n p high : Nat} (h : Box φ m n) (hh : high < m) (hp : p ≤ high + 1) : Box (lowS p high φ) m n := fun i j q => by
  unfold Wf.lowS at q
  by_cases z : φ i j = 0
  · rw [z] at q
    split at q
    · rename_i hi
      have z2 : φ high j ≠ 0 := by intro z2; rw [z2] at q; simp at q
      have := h _ _ z2
      omega
    · simp at q
  · exact h i j z
theorem Box.lowX {m n p : Nat} : ∀ {k : Nat} {φ : C}, Box φ m n → k ≤ m → Box (lowX p k φ) m n
  | 0, φ, h, _ => h
  | k + 1, φ, h, hk => by
    by_cases hp : p ≤ k + 1
    · rw [lowX_succ hp]; exact Box.lowX (h.lowS (by omega) hp) (by omega)
    · rw [lowX_done (by omega)]; exact h
theorem lowS_neg (p high : Nat) (φ : C) : lowS p high (neg φ) = neg (lowS p high φ) := by
  funext i j
  unfold lowS neg
  split <;> simp [Int.mul_neg] <;> omega
theorem lowX_neg (p : Nat) : ∀ (m : Nat) (φ : C), lowX p m (neg φ) = neg (lowX p m φ)
  | 0, φ => rfl
  | m + 1, φ => by
    by_cases hp : p ≤ m + 1
    · rw [lowX_succ hp, lowX_succ hp, lowS_neg, lowX_neg p m]
    · rw [lowX_done (by omega), lowX_done (by omega)]
theorem neg_zero_iff (φ : C) : neg φ = zero ↔ φ = zero := by
  constructor
  · intro h
    funext i j
    have := congrFun (congrFun h i) j
    unfold neg zero at this
    show φ i j = 0
    omega
  · rintro rfl; funext i j; simp [neg, zero]
/-- the rest on the floor (p, q) is nought -/
def restX (p : Nat) (m : Nat) (φ : C) : C := lowX p m φ
def rest2 (p q m n : Nat) (φ : C) : C := lowX q n (sw (lowX p m φ))
end Wf
namespace Wf
theorem subL_next {f o : List Int} {j : Nat} {x y : Int} (hf : f[j]? = some x) (ho : o[j]? = some y) : (subL f (o.take j))[j]? = some x ∧ (subL f (o.take j)).set j (x - y) = subL f (o.take (j + 1)) := by
  have hj := (List.getElem?_eq_some_iff.mp hf).1
  have h1 : (subL f (o.take j))[j]? = some x := by
    rw [subL_get, hf, List.getElem?_eq_none (by rw [List.length_take]; omega)]; simp
  refine ⟨h1, ?_⟩
  apply List.ext_getElem?
  intro i
  rw [subL_get]
  by_cases e : i = j
  · subst e
    rw [List.getElem?_set_self (by rw [subL_len]; exact hj), hf, List.getElem?_take_of_lt (by omega), ho]; rfl
  · rw [List.getElem?_set_ne (Ne.symm e), subL_get]
    congr 1
    funext z
    congr 2
    by_cases l : i < j
    · rw [List.getElem?_take_of_lt l, List.getElem?_take_of_lt (by omega)]
    · rw [List.getElem?_eq_none (by rw [List.length_take]; omega), List.getElem?_eq_none (by rw [List.length_take]; omega)]
end Wf
/-! D0: the text by places, what the top holds, polynomials as values, collected. -/
namespace Wf
open PySem PySem.Spec PyProof.Rows L2 Wp
def top (i : Nat) : Stmt := PySem.Challenge.pw_whichfloor_k52_whole_all_floors_at_once.main.body.getD i (.Pass ⟨0, 0, 0, 0⟩)
/-- what the top leaves: built-ins untouched, constants -/
structure Txt (K : PySem.W.Frag) (mg : Str → Option Value) : Prop where
  len : mg "len" = none
  abs : mg "abs" = none
  sum : mg "sum" = none
  all : mg "all" = none
  max : mg "max" = none
  min : mg "min" = none
  list : mg "list" = none
  tuple : mg "tuple" = none
  range : mg "range" = none
  enumerate : mg "enumerate" = none
  reversed : mg "reversed" = none
  sorted : mg "sorted" = none
  dict : mg "dict" = none
  int : mg "int" = none
  isinstance : mg "isinstance" = none
  X : ∃ a, mg "X" = some (.ref a) ∧ ∀ H, (kT K (kT3 K)).R H (.ref a) [(1, 0, 1)]
  Y : ∃ a, mg "Y" = some (.ref a) ∧ ∀ H, (kT K (kT3 K)).R H (.ref a) [(0, 1, 1)]

/-! ### polynomials as values -/
def rP (K : PySem.W.Frag) : Rep Po := kL (kT3 K)
/-- the canonical list of a function -/
def rC (K : PySem.W.Frag) : Rep C := ⟨fun H v φ => ∃ f, (rP K).R H v f ∧ Canon f ∧ coef f = φ, fun e ⟨f, h, q⟩ => ⟨f, (rP K).mono e h, q⟩⟩
theorem rC_of {K : PySem.W.Frag} {H : Hp} {v : V} {f : Po} (h : (rP K).R H v f) (c : Canon f) : (rC K).R H v (coef f) := ⟨f, h, c, rfl⟩

/-! ### dicts (i, j) -> c -/
def tk (i j : Int) : List Key := [.inl i, .inl j]
structure DOk (kvs : List (List Key × V)) (S : C) : Prop where
  shape : ∀ p ∈ kvs, ∃ i j c, p = (tk i j, V.int c)
  val : ∀ i j, (valV kvs (tk i j)).getD (.int 0) = V.int (S i j)
  nd : (kvs.map (·.1)).Nodup
theorem tk_inj {i j i' j' : Int} : tk i j = tk i' j' ↔ i = i' ∧ j = j' := by
  unfold tk
  constructor
  · intro h
    injection h with h1 h2
    injection h2 with h2 _
    exact ⟨Sum.inl.inj h1, Sum.inl.inj h2⟩
  · rintro ⟨rfl, rfl⟩; rfl
theorem DOk.nil : DOk [] (coef []) := ⟨by simp, fun i j => rfl, .nil⟩
theorem DOk.put {kvs : List (List Key × V)} {S : C} (h : DOk kvs S) (i j c : Int) : DOk (putK kvs (tk i j) (.int c)) (fun a b => if a = i ∧ b = j then c else S a b) := by
  refine ⟨fun p hp => ?_, fun a b => ?_, ?_⟩
  · unfold putK at hp
    split at hp
    · obtain ⟨q, hq, rfl⟩ := List.mem_map.mp hp
      split
      · rename_i e; exact ⟨i, j, c, by rw [e]⟩
      · exact h.shape q hq
    · rcases List.mem_append.mp hp with hp | hp
      · exact h.shape p hp
      · exact ⟨i, j, c, by simpa using hp⟩
  · rw [valV_put]
    by_cases e : a = i ∧ b = j
    · rw [if_pos (tk_inj.mpr e), if_pos e]; rfl
    · rw [if_neg (fun z => e (tk_inj.mp z)), if_neg e]; exact h.val a b
  · cases e : valV kvs (tk i j) with
    | none =>
      rw [putK_new _ e, List.map_append, List.nodup_append]
      refine ⟨h.nd, by simp, fun a ha b hb => ?_⟩
      have : b = tk i j := by simpa using hb
      subst this
      rintro rfl
      exact valV_not e ha
    | some v =>
      have ha : (kvs.any fun kv => decide (kv.1 = tk i j)) = true := by rw [valV_any, e]; rfl
      unfold putK
      rw [if_pos ha, List.map_map]
      have : ((fun x : List Key × V => x.1) ∘ fun kv => if kv.1 = tk i j then (kv.1, V.int c) else kv) = fun x => x.1 := by
        funext x; simp only [Function.comp]; split <;> rfl
      rw [this]; exact h.nd
theorem DOk.ext {kvs : List (List Key × V)} {S S' : C} (h : DOk kvs S) (e : ∀ i j, S i j = S' i j) : DOk kvs S' := by
  have : S = S' := by funext i j; exact e i j
  rw [← this]; exact h
/-- d[(i, j)] = d.get((i, j), 0) + c -/
theorem DOk.addTm {kvs : List (List Key × V)} {f : Po} (h : DOk kvs (coef f)) (t : Tm) : DOk (putK kvs (tk t.1 t.2.1) (.int (coef f t.1 t.2.1 + t.2.2))) (coef (f ++ [t])) :=
  (h.put t.1 t.2.1 _).ext fun a b => by
    rw [coef_append, coef_cons, coef_nil]
    by_cases e : a = t.1 ∧ b = t.2.1
    · rw [if_pos e, if_pos ⟨e.1.symm, e.2.symm⟩, e.1, e.2]; omega
    · rw [if_neg e, if_neg (fun z => e ⟨z.1.symm, z.2.symm⟩)]; omega
theorem putK_len' (c : List (List Key × V)) (k : List Key) (x : V) : (putK c k x).length ≤ c.length + 1 := by
  unfold putK; split <;> simp
/-- the keys of such a dict -/
def keysOf (kvs : List (List Key × V)) : List (Int × Int) := kvs.map fun p => match p.1 with | [.inl i, .inl j] => (i, j) | _ => (0, 0)
theorem DOk.keys {kvs : List (List Key × V)} {S : C} (h : DOk kvs S) : (keysOf kvs).Nodup ∧ ∀ i j, S i j ≠ 0 → (i, j) ∈ keysOf kvs := by
  constructor
  · have nd := h.nd
    unfold keysOf
    rw [List.nodup_iff_pairwise_ne, List.pairwise_map] at nd ⊢
    refine nd.imp_of_mem fun {p q} hp hq ne => ?_
    obtain ⟨i, j, c, rfl⟩ := h.shape p hp
    obtain ⟨i', j', c', rfl⟩ := h.shape q hq
    intro e
    exact ne (tk_inj.mpr ⟨congrArg Prod.fst e, congrArg Prod.snd e⟩)
  · intro i j hs
    have v := h.val i j
    cases e : valV kvs (tk i j) with
    | none => rw [e] at v; injection v with v; exact absurd v.symm hs
    | some x =>
      have := valV_in e
      obtain ⟨p, hp, e2⟩ := List.mem_map.mp this
      refine List.mem_map.mpr ⟨p, hp, ?_⟩
      rw [e2]; rfl
def rD (K : PySem.W.Frag) (b : Nat) : Rep C := ⟨fun H v S => ∃ p kvs, v = .ref p ∧ H p = some (.dT kvs) ∧ DOk kvs S ∧ kvs.length ≤ b, fun e ⟨p, kvs, h1, h2, h3⟩ => ⟨p, kvs, h1, e _ _ h2, h3⟩⟩
/-- list(d) gives tuples of the keys -/
theorem keys_pd {H : Hp} : ∀ {kvs : List (List Key × V)} {bs : List Addr}, (∀ p ∈ kvs, ∃ i j c, p = (tk i j, V.int c)) → IsKeys H kvs bs → Paired (kT2.R H) (bs.map V.ref) (keysOf kvs)
  | _, _, _, .nil => .nil
  | p :: kvs, b :: bs, h, .cons r t => by
    obtain ⟨i, j, c, rfl⟩ := h p (by simp)
    exact .cons ⟨b, rfl, r⟩ (keys_pd (fun q hq => h q (by simp [hq])) t)

theorem pd_fn {α β : Type} {R : α → β → Prop} {f : α → β} : ∀ {xs : List α} {as : List β}, Paired R xs as → (∀ v t, R v t → f v = t) → xs.map f = as
  | _, _, .nil, _ => rfl
  | _, _, .cons r t, h => by rw [List.map_cons, h _ _ r, pd_fn t h]
theorem pd_self {α β : Type} {R : α → β → Prop} {f : α → β} : ∀ {ys : List α}, (∀ y ∈ ys, R y (f y)) → Paired R ys (ys.map f)
  | [], _ => .nil
  | y :: ys, h => .cons (h y (by simp)) (pd_self fun z hz => h z (by simp [hz]))
section
variable {X : Cx} {σ : L2.St} {H : Hp} {a : Expr} {p pos : Pos}
/-- list(d) -/
theorem n_listD {S : C} {q : Addr} {kvs : List (List Key × V)} (hc : X.calm = true) (hm : X.mg "list" = none) (ha : EvP (wE X a) σ H fun v _ => v = .ref q) (hq : H q = some (.dT kvs)) (hk : DOk kvs S) (hg : Gl X "list" := by rfl)
    (h1 : starEach [a] X.env = (false, eval a X.env) :: starEach [] X.env := by rfl) (hpl : (backTo pos (starEach [] X.env)).any (·.1) = false := by rfl) : EvN (wE X (.Call (.Name "list" p) [a] [] pos)) σ H kT2 (keysOf kvs) :=
  .of (pe_callTy (call_list_dT hc) hg hm boot_list (pa_cons pE pa_nil h1) (by decide) (by decide) h1 hpl) fun H1 e1 Q k => ha H1 e1 _ fun v H2 e2 hv =>
    ⟨q, kvs, by rw [hv], .inl (e2 _ _ (e1 _ _ hq)), fun l bs hl hb => k l _ H2 e2 hl (keys_pd hk.shape hb)⟩
/-- sorted of pairs -/
theorem n_sorted {ks : List (Int × Int)} (hm : X.mg "sorted" = none) (ha : EvP (wE X a) σ H ((kL kT2).is ks).P) (hn : ks.Nodup) (hg : Gl X "sorted" := by rfl)
    (h1 : starEach [a] X.env = (false, eval a X.env) :: starEach [] X.env := by rfl) (hpl : (backTo pos (starEach [] X.env)).any (·.1) = false := by rfl) : EvN (wE X (.Call (.Name "sorted" p) [a] [] pos)) σ H kT2 (srt ks) := by
  refine .of (pe_callB cr_sortedPO hg hm (by decide +kernel) (pa_cons pE pa_nil h1) (by decide) (by decide) h1 hpl) fun H1 e1 Q k => ha H1 e1 _ fun v H2 e2 ⟨q, xs, ev, hx, hp⟩ => ?_
  let kk : V → Int × Int := fun v => match v with | .ref t => (match H2 t with | some (.tup [.int i, .int j]) => (i, j) | _ => (0, 0)) | _ => (0, 0)
  have hk : ∀ {v : V} {t : Int × Int}, kT2.R H2 v t → kk v = t := fun {v t} ⟨t', e, h⟩ => by
    rw [e]; show (match H2 t' with | some (.tup [.int i, .int j]) => (i, j) | _ => (0, 0)) = t
    rw [h]
  have hkm : xs.map kk = ks := pd_fn hp fun v t h => hk h
  refine ⟨q, xs, kk, by rw [ev], SqL.of hx, fun x hm => ?_, fun ys l hs hst hl => ?_⟩
  · obtain ⟨i, hi⟩ := List.getElem?_of_mem hm
    obtain ⟨t, _, hr⟩ := pd_get hp hi
    rw [hk hr]
    obtain ⟨t', e, h⟩ := hr
    exact ⟨t', e, h⟩
  · have pm : (ys.map kk).Perm ks := hkm ▸ hst.perm.map kk
    have nd : (ys.map kk).Nodup := pm.nodup_iff.mpr hn
    have so : (ys.map kk).Pairwise KLt := by
      rw [List.pairwise_map]
      rw [List.nodup_iff_pairwise_ne, List.pairwise_map] at nd
      refine (List.Pairwise.and hs nd).imp fun {a b} ⟨r, n⟩ => ?_
      have r := SrtO.lexB_no.mp r
      unfold KLt
      by_cases e1 : (kk a).1 = (kk b).1
      · by_cases e2 : (kk a).2 = (kk b).2
        · exact absurd (Prod.ext e1 e2) n
        · omega
      · omega
    have se := srt_eq pm so
    refine k l ys H2 e2 hl ?_
    rw [← se]
    refine pd_self fun y hy => ?_
    have hy' : y ∈ xs := hst.perm.mem_iff.mp hy
    obtain ⟨i, hi⟩ := List.getElem?_of_mem hy'
    obtain ⟨t, _, hr⟩ := pd_get hp hi
    rw [hk hr]; exact hr
end
end Wf
namespace Wf
open PySem PySem.Spec PyProof.Rows L2 Wp
section
variable {α : Type} {X : Cx} {σ : L2.St} {H Hb : Hp} {r : Rep α} {tl : TE} {as : List α}
theorem srcM_list {v : V} (h : EvP tl σ H fun v' _ => v' = v) (hr : (kL r).R Hb v as) (e : Ex Hb H) : SrcM (iList X.K tl) σ H Hb r as := fun R k => h H ex_refl _ fun v' H2 e2 hv => by
  obtain ⟨p, xs, rfl, hx, hp⟩ := hr
  exact ⟨p, hv, ⟨xs, SqL.of (e2 _ _ (e _ _ hx))⟩, k _ H2 xs _ e2 hp (by rw [← pd_len hp]; exact walk_list) fun H' e4 => SqL.of (e4 _ _ hx)⟩
theorem srcM_tup {v : V} (h : EvP tl σ H fun v' _ => v' = v) (hr : (kT X.K r).R Hb v as) (e : Ex Hb H) : SrcM (iTup X.K tl) σ H Hb r as := fun R k => h H ex_refl _ fun v' H2 e2 hv => by
  obtain ⟨p, xs, rfl, hx, hp⟩ := hr
  exact ⟨p, hv, ⟨xs, ex_sqt (e.trans e2) hx⟩, k _ H2 xs _ e2 hp (by rw [← pd_len hp]; exact walk_tup) fun H' e4 => ex_sqt e4 hx⟩
variable {D : Ends} {rest : List Stmt}
theorem s_newT {i : Nat} {y : Str} {p' p2 pos : Pos} (hN : X.N.Nodup) (h : ∀ p, H p = none → wS X rest D (σ.set i (some (.ref p))) (upd H p (.dT []))) (hi : X.N[i]? = some y := by rfl) (hx : Loc X.env.scope y := by first | exact Or.inl rfl | exact Or.inr rfl)
    (hs : swapsWith (.Dict [] [] p2) (some (.Name y p')) pos.line X.env = pure false := by rfl) (hf : X.fn y = true ∨ X.env.scope.names.lookup y = some .local := by first | exact .inl rfl | exact .inr rfl) : wS X (.Assign [.Name y p'] (.Dict [] [] p2) pos :: rest) D σ H :=
  wS.cons (ps_set hN hi hx pe_dnewT hs hf) h
theorem s_newK {i : Nat} {y : Str} {p' p2 pos : Pos} (hN : X.N.Nodup) (h : ∀ p, H p = none → wS X rest D (σ.set i (some (.ref p))) (upd H p (.dK []))) (hi : X.N[i]? = some y := by rfl) (hx : Loc X.env.scope y := by first | exact Or.inl rfl | exact Or.inr rfl)
    (hs : swapsWith (.Dict [] [] p2) (some (.Name y p')) pos.line X.env = pure false := by rfl) (hf : X.fn y = true ∨ X.env.scope.names.lookup y = some .local := by first | exact .inl rfl | exact .inr rfl) : wS X (.Assign [.Name y p'] (.Dict [] [] p2) pos :: rest) D σ H :=
  wS.cons (ps_set hN hi hx pe_dnewK hs hf) h
/-- a name's value itself -/
theorem e_nm {i : Nat} {x : Str} {pos : Pos} {v : V} (h : σ[i]? = some (some v)) (hN : X.N[i]? = some x := by rfl) (hv : Vis X.env.scope x := by first | exact Or.inl rfl | exact Or.inr (Or.inl rfl) | exact Or.inr (Or.inr rfl))
    (hd : (x == ("__debug__" : Str)) = false := by decide) (hcd : (x == ("__classdict__" : Str)) = false := by decide) : EvP (wE X (.Name x pos)) σ H fun v' _ => v' = v := e_var h (fun _ _ => rfl) hN hv hd hcd
end

/-! ### dicts by pairs -/
section
variable {X : Cx} {σ : L2.St} {H : Hp} {d x y : Expr} {p pos pos' : Pos} {D : Ends} {rest : List Stmt} {q : Addr} {kvs : List (List Key × V)} {S : C} {i j : Int} {x1 : Nat}
theorem ev_key (hx : EvP (wE X x) σ H (kI.is i).P) (hy : EvP (wE X y) σ H (kI.is j).P) (h1 : starEach [x, y] X.env = (false, eval x X.env) :: starEach [y] X.env := by rfl) (h2 : starEach [y] X.env = (false, eval y X.env) :: starEach [] X.env := by rfl) :
    EvP (wE X (.Tuple [x, y] x1 pos)) σ H fun v H' => ∃ b, v = .ref b ∧ H' b = some (.tup ((tk i j).map kV)) := (e_t2 hx hy h1 h2).imp fun v H' _ ⟨b, e, h⟩ => ⟨b, e, h⟩
theorem e_dgetT {f : Expr} {apos cpos : Pos} (hu : X.A.units + 1 < cLine) (hd : EvP (wE X d) σ H fun v _ => v = .ref q) (hq : H q = some (.dT kvs)) (hk : DOk kvs S) (hx : EvP (wE X x) σ H (kI.is i).P) (hy : EvP (wE X y) σ H (kI.is j).P) (hf : EvP (wE X f) σ H (kI.is 0).P)
    (h1 : starEach [x, y] X.env = (false, eval x X.env) :: starEach [y] X.env := by rfl) (h2 : starEach [y] X.env = (false, eval y X.env) :: starEach [] X.env := by rfl) (m : M2 X d "get" apos (.Tuple [x, y] x1 pos) f cpos := by exact ⟨rfl, rfl, rfl, rfl⟩) :
    EvP (wE X (.Call (.Attribute d "get" apos) [.Tuple [x, y] x1 pos, f] [] cpos)) σ H (kI.is (S i j)).P :=
  .of (pe_dget2 hu pE pE pE m) fun H1 e1 Q k => hd H1 e1 _ fun v H2 e2 hv => ⟨q, hv, .inr ⟨kvs, .inl (e2 _ _ (e1 _ _ hq))⟩, ev_key hx hy h1 h2 H2 (e1.trans e2) _ fun u H3 e3 ⟨b, hb, hb2⟩ => hf H3 ((e1.trans e2).trans e3) _ fun z H4 e4 hz =>
    ⟨valV kvs (tk i j), by rw [hb]; exact DGet.t (e4 _ _ (e3 _ _ (e2 _ _ (e1 _ _ hq)))) (e4 _ _ hb2), k _ _ ((e2.trans e3).trans e4) (by rw [show z = V.int 0 from hz]; exact hk.val i j)⟩⟩
theorem DOk.there (hk : DOk kvs S) (h : (i, j) ∈ keysOf kvs) : valV kvs (tk i j) = some (.int (S i j)) := by
  cases e : valV kvs (tk i j) with
  | none =>
    obtain ⟨p, hp, e2⟩ := List.mem_map.mp h
    obtain ⟨i', j', c, rfl⟩ := hk.shape p hp
    have e3 : i' = i ∧ j' = j := ⟨congrArg Prod.fst e2, congrArg Prod.snd e2⟩
    rw [e3.1, e3.2] at hp
    exact absurd (List.mem_map.mpr ⟨_, hp, rfl⟩) (valV_not e)
  | some v =>
    have := hk.val i j
    rw [e] at this
    exact congrArg some this
theorem e_dixT (hu : X.A.units + 1 < cLine) (hd : EvP (wE X d) σ H fun v _ => v = .ref q) (hq : H q = some (.dT kvs)) (hk : DOk kvs S) (hm : (i, j) ∈ keysOf kvs) (hx : EvP (wE X x) σ H (kI.is i).P) (hy : EvP (wE X y) σ H (kI.is j).P)
    (h1 : starEach [x, y] X.env = (false, eval x X.env) :: starEach [y] X.env := by rfl) (h2 : starEach [y] X.env = (false, eval y X.env) :: starEach [] X.env := by rfl) (hs : NoSl (.Tuple [x, y] x1 pos) := by exact fun _ _ => rfl) :
    EvP (wE X (.Subscript d (.Tuple [x, y] x1 pos) pos')) σ H (kI.is (S i j)).P :=
  .of (pe_dget hu pE pE hs) fun H1 e1 Q k => hd H1 e1 _ fun v H2 e2 hv => ev_key hx hy h1 h2 H2 (e1.trans e2) _ fun u H3 e3 ⟨b, hb, hb2⟩ =>
    ⟨q, .int (S i j), hv, by rw [hb, ← hk.there hm]; exact DGet.t (e3 _ _ (e2 _ _ (e1 _ _ hq))) hb2, k _ _ (e2.trans e3) rfl⟩
theorem s_dputT {value : Expr} {c : Int} (hu : X.A.units + 1 < cLine) (hd : EvP (wE X d) σ H fun v _ => v = .ref q) (hq : H q = some (.dT kvs)) (hx : EvP (wE X x) σ H (kI.is i).P) (hy : EvP (wE X y) σ H (kI.is j).P) (hv : EvP (wE X value) σ H (kI.is c).P) (hl : kvs.length ≤ 1000000)
    (k : ∀ H', (∀ H0, H0 q = none → Ex H0 H → Ex H0 H') → H' q = some (.dT (putK kvs (tk i j) (.int c))) → wS X rest D σ H')
    (h1 : starEach [x, y] X.env = (false, eval x X.env) :: starEach [y] X.env := by rfl) (h2 : starEach [y] X.env = (false, eval y X.env) :: starEach [] X.env := by rfl) (hs : swapsWith value (some (.Subscript d (.Tuple [x, y] x1 p) pos')) pos.line X.env = pure false := by rfl) :
    wS X (.Assign [.Subscript d (.Tuple [x, y] x1 p) pos'] value pos :: rest) D σ H :=
  wS.cons (ps_dput hu pE pE pE hs) (hv H ex_refl _ fun z H1 e1 hz => hd H1 e1 _ fun v H2 e2 hv => ev_key hx hy h1 h2 H2 (e1.trans e2) _ fun u H3 e3 ⟨b, hb, hb2⟩ => by
    have e := (e1.trans e2).trans e3
    refine ⟨q, upd H3 q (.dT (putK kvs (tk i j) z)), hv, by rw [hb]; exact DPut.t (e _ _ hq) hb2 (by rw [sizeLine_eq]; omega), ?_⟩
    rw [show z = V.int c from hz]
    exact k _ (fun H0 h0 e0 => Evl.Ex.mut (e0.trans e) h0) upd_same)
end
/-! ### collected -/
def RCol (K : PySem.W.Frag) : List MP → MP → Prop := fun ms m => ∃ f : Po, ms = [(rP K).is f] ∧ f.length ≤ 100000 ∧ m = (rC K).is (coef f)
abbrev N16 : List Str := ["terms", "sums", "i", "j", "c"]
theorem sc16 : FnScope N16 ["terms"] (defScope (top 16)) := ⟨rfl, rfl, rfl, by decide +kernel, rfl, by decide +kernel, by decide +kernel⟩
section
variable {P : Program} {w : World} {K : PySem.W.Frag} {mg : Str → Option Value} {base : Heap} {f : Addr} {fd : FuncData}
theorem ok_collected (F : Fun K "collected" "collected" (top 16) f fd) (T : Txt K mg) (hm : mg "collected" = some (.ref f)) (hb : Binds K fd ["terms"] []) : Cal P w K mg base 1 "collected" ["terms"] (spM (RCol K)) := by
  refine Cal.pure F sc16 hm hb (fun ms m ⟨f, h, _⟩ => by rw [h]; rfl) (fun cdv A outer s H vs E ms m hr hv hR => ?_)
  obtain ⟨f, rfl, hl, rfl⟩ := hR
  obtain ⟨v, rfl, hf⟩ := pd1 hv
  -- sums = {}
  refine s_newT (i := 1) sc16.nd (fun p hp => ?_)
  -- for i, j, c in terms
  refine s_forM rfl PassesOwn.never (pi_list pE) (pg_tup rfl (pgs_cons (pg_name (i := 2) sc16.nd rfl (.inl rfl)) (pgs_cons (pg_name (i := 3) sc16.nd rfl (.inl rfl)) (pgs_cons (pg_name (i := 4) sc16.nd rfl (.inl rfl)) pgs_nil))))
    (srcM_list (r := kT3 K) (Hb := H) (v := v) (e_nm (i := 0) rfl) hf (ex_new hp))
    (fun n σ' H' => ∃ kvs a b c, σ' = [some v, some (.ref p), a, b, c] ∧ Ex H H' ∧ H' p = some (.dT kvs) ∧ DOk kvs (coef (f.take n)) ∧ kvs.length ≤ n)
    (fun H2 e2 => ⟨[], _, _, _, rfl, (ex_new hp).trans e2, e2 _ _ upd_same, DOk.nil, Nat.le_refl _⟩) (fun n σ' H' ⟨_, _, _, _, _, e, _⟩ => e) ?_ ?_
  · rintro n t x σ' H' ht hx ⟨kvs, a, b, c, rfl, he, hd, hk, hn⟩
    refine g_t3 ((kT3 K).mono he hx) ?_
    have ht2 : f.take (n + 1) = f.take n ++ [t] := by rw [List.take_add_one, ht]; rfl
    have hlt : n < f.length := (List.getElem?_eq_some_iff.mp ht).1
    refine s_dputT (hu_of hr) (e_nm (i := 1) rfl) hd (e_v (i := 2) (m := kI.is t.1) rfl rfl) (e_v (i := 3) (m := kI.is t.2.1) rfl rfl)
      (e_add (e_dgetT (hu_of hr) (e_nm (i := 1) rfl) hd hk (e_v (i := 2) (m := kI.is t.1) rfl rfl) (e_v (i := 3) (m := kI.is t.2.1) rfl rfl) e_int) (e_v (i := 4) (m := kI.is t.2.2) rfl rfl)) (by omega) fun H2 e2 hd2 => ?_
    refine s_nil ⟨_, _, _, _, rfl, e2 _ hp he, hd2, ?_, Nat.le_trans (putK_len' _ _ _) (by omega)⟩
    rw [ht2]
    exact hk.addTm t
  · rintro σ' H' ⟨kvs, a, b, c, rfl, he, hd, hk, hn⟩
    rw [List.take_length] at hk
    obtain ⟨k1, k2⟩ := hk.keys
    have hlk : (keysOf kvs).length ≤ 1000000 := by unfold keysOf; rw [List.length_map]; omega
    have fk := fromKeys_ok (srt_pw k1) (fun i j h => srt_mem.mpr (k2 i j h))
    refine s_ret (EvN.evp (r := kT3 K) (n_lcIf (own := [("i", 2), ("j", 3)]) (r := kT2) (as := srt (keysOf kvs)) rfl sc16.nd (pi_list pE) (blkOk_by (N := N16) (sc := defScope (top 16)) (by decide +kernel))
      (fun _ _ _ _ _ => pg_tup rfl (pgs_cons (pg_name (i := 2) sc16.nd rfl (.inl rfl)) (pgs_cons (pg_name (i := 3) sc16.nd rfl (.inl rfl)) pgs_nil)))
      (src_list (EvN.evp (n_sorted T.sorted (EvN.evp (n_listD rfl T.list (e_nm (i := 1) rfl) hd hk)) k1)))
      (fun k => !decide (coef f k.1 k.2 = 0)) (fun k => (k.1, k.2, coef f k.1 k.2)) (fun _ k => [some v, some (.ref p), some (.int k.1), some (.int k.2), c]) (by rw [srt_len]; exact hlk)
      (fun k x H' Q _ hx q => g_t2 (i := 2) (j := 3) hx q) (fun _ _ => rfl)
      (fun k x H2 hkm e2 hx => bT_of fun s H0 C cl fp => t_neI (e_dixT (hu_of hr) (e_nm (i := 1) rfl) (e2 _ _ hd) hk (srt_mem.mp hkm) (e_v (i := 2) (m := kI.is k.1) rfl rfl) (e_v (i := 3) (m := kI.is k.2) rfl rfl)) e_int)
      (fun k x H2 hkm e2 hx _ => bE_of fun s H0 C cl fp => e_t3 (e_v (i := 2) (m := kI.is k.1) rfl rfl) (e_v (i := 3) (m := kI.is k.2) rfl rfl) (e_dixT (hu_of hr) (e_nm (i := 1) rfl) (e2 _ _ hd) hk (srt_mem.mp hkm) (e_v (i := 2) (m := kI.is k.1) rfl rfl) (e_v (i := 3) (m := kI.is k.2) rfl rfl)))))
      fun v' H2 e2 hv' => ⟨he.trans e2, ⟨_, hv', fk.1, fk.2⟩⟩
end
end Wf
namespace Wf
open PySem PySem.Spec PyProof.Rows L2 Wp
section
variable {α : Type} {X : Cx} {σ : L2.St} {H : Hp} {r : Rep α}
/-- an int at a name, a thing at a name -/
theorem vI (i : Nat) {n : Int} {x : Str} {pos : Pos} (h : σ[i]? = some (some (.int n)) := by rfl) (hN : X.N[i]? = some x := by rfl) (hv : Vis X.env.scope x := by first | exact Or.inl rfl | exact Or.inr (Or.inl rfl) | exact Or.inr (Or.inr rfl))
    (hd : (x == ("__debug__" : Str)) = false := by decide) (hcd : (x == ("__classdict__" : Str)) = false := by decide) : EvP (wE X (.Name x pos)) σ H (kI.is n).P := e_var h (fun _ _ => rfl) hN hv hd hcd
theorem vX (i : Nat) {a : α} {v : V} {x : Str} {pos : Pos} (hp : r.R H v a) (h : σ[i]? = some (some v) := by rfl) (hN : X.N[i]? = some x := by rfl) (hv : Vis X.env.scope x := by first | exact Or.inl rfl | exact Or.inr (Or.inl rfl) | exact Or.inr (Or.inr rfl))
    (hd : (x == ("__debug__" : Str)) = false := by decide) (hcd : (x == ("__classdict__" : Str)) = false := by decide) : EvP (wE X (.Name x pos)) σ H (r.is a).P := e_var h (fun _ e => r.mono e hp) hN hv hd hcd
end
section
variable {γ : Type} {X : Cx} {σ : L2.St} {H : Hp} {rc : Rep γ} {elt iter : Expr} {pos : Pos} {scope : Scope} {own : List (Str × Nat)} {wi : TI} {f : Po}
/-- (x, y, z) as a target -/
theorem pg3 {i j k : Nat} {x y z : Str} {px py pz pos : Pos} {kk : Nat} (hc : X.calm = true) (hN : X.N.Nodup) (h1 : X.N[i]? = some x := by rfl) (h2 : X.N[j]? = some y := by rfl) (h3 : X.N[k]? = some z := by rfl)
    (l1 : Loc X.env.scope x := by first | exact Or.inl rfl | exact Or.inr rfl) (l2 : Loc X.env.scope y := by first | exact Or.inl rfl | exact Or.inr rfl) (l3 : Loc X.env.scope z := by first | exact Or.inl rfl | exact Or.inr rfl)
    (f1 : X.fn x = true ∨ X.env.scope.names.lookup x = some .local := by first | exact .inl rfl | exact .inr rfl) (f2 : X.fn y = true ∨ X.env.scope.names.lookup y = some .local := by first | exact .inl rfl | exact .inr rfl) (f3 : X.fn z = true ∨ X.env.scope.names.lookup z = some .local := by first | exact .inl rfl | exact .inr rfl)
    (c1 : (assignEach [.Name x px, .Name y py, .Name z pz] X.env).map (·.2) = assign (.Name x px) X.env :: (assignEach [.Name y py, .Name z pz] X.env).map (·.2) := by rfl)
    (c2 : (assignEach [.Name y py, .Name z pz] X.env).map (·.2) = assign (.Name y py) X.env :: (assignEach [.Name z pz] X.env).map (·.2) := by rfl) (c3 : (assignEach [.Name z pz] X.env).map (·.2) = assign (.Name z pz) X.env :: (assignEach [] X.env).map (·.2) := by rfl)
    (hn : (assignEach [.Name x px, .Name y py, .Name z pz] X.env).length = 3 := by rfl) (hst : (assignEach [.Name x px, .Name y py, .Name z pz] X.env).findIdx? (·.1) = none := by rfl) :
    PG X (.Tuple [.Name x px, .Name y py, .Name z pz] kk pos) (gTup X.K 3 (gCons (gName i) (gCons (gName j) (gCons (gName k) gNil)))) :=
  pg_tup hc (pgs_cons (pg_name hN h1 l1 f1) (pgs_cons (pg_name hN h2 l2 f2) (pgs_cons (pg_name hN h3 l3 f3) pgs_nil c3) c2) c1) hn hst
def sl3 (σ : L2.St) (own : List (Str × Nat)) (i j k : Nat) (t : Tm) : L2.St := (((wipe σ (own.map (·.2))).set i (some (.int t.1))).set j (some (.int t.2.1))).set k (some (.int t.2.2))
/-- a comprehension over terms -/
theorem n_lcP (i j k : Nat) {x y z : Str} {px py pz tpos : Pos} {kk : Nat} (hc : X.calm = true) (hN : X.N.Nodup) (hi : PI X (.Tuple [.Name x px, .Name y py, .Name z pz] kk tpos) iter wi) (ok : BlkOk X.N X.env.scope scope own)
    (hgP : ∀ (s : Shared) (H : Hp) (C : Addr) (cl : List (Str × Addr)) (fp : List Addr), PG (X.blk s H scope (compEnvC scope cl C X.env) fp) (.Tuple [.Name x px, .Name y py, .Name z pz] kk tpos) (gTup X.K 3 (gCons (gName i) (gCons (gName j) (gCons (gName k) gNil)))))
    (src : SrcP wi σ H (kT3 X.K) f) (F : Tm → γ) (hlen : f.length ≤ 1000000)
    (he : ∀ (t : Tm) (H' : Hp) (s : Shared) (H0 : Hp) (C : Addr) (cl : List (Str × Addr)) (fp : List Addr), t ∈ f → Ex H H' → EvP (wE (X.blk s H0 scope (compEnvC scope cl C X.env) fp) elt) (sl3 σ own i j k t) H' (rc.is (F t)).P)
    (hw : ∀ t, wipe (sl3 σ own i j k t) (own.map (·.2)) = wipe σ (own.map (·.2)) := by intro _; rfl) (hs : ∀ x, foldedSetIterable iter X.env x = pure x := by intro _; rfl) :
    EvN (wE X (.ListComp elt [⟨.Tuple [.Name x px, .Name y py, .Name z pz] kk tpos, iter, [], 0⟩] scope pos)) σ H rc (f.map F) :=
  n_lc hc hN hi ok hgP src F (fun _ t => sl3 σ own i j k t) hlen (fun t x H' Q _ hx q => g_t3 (i := i) (j := j) (k := k) hx q) (fun _ t => hw t) (fun t x H2 ht e2 hx => bE_of fun s H0 C cl fp => he t H2 s H0 C cl fp ht e2) hs
end
theorem box_len {K : PySem.W.Frag} {H : Hp} {v : V} {φ : C} {m n : Nat} (h : (rC K).R H v φ) (b : Box φ m n) : ∃ f, (rP K).R H v f ∧ Canon f ∧ coef f = φ ∧ f.length ≤ m * n := by
  obtain ⟨f, h1, h2, h3⟩ := h
  exact ⟨f, h1, h2, h3, h2.len (by rw [h3]; exact b)⟩
/-- room for the terms -/
def Sm (φ : C) : Prop := ∃ m n, Box φ m n ∧ m * n ≤ 20000
theorem Sm.len {K : PySem.W.Frag} {H : Hp} {v : V} {φ : C} (h : (rC K).R H v φ) (b : Sm φ) : ∃ f, (rP K).R H v f ∧ Canon f ∧ coef f = φ ∧ f.length ≤ 20000 := by
  obtain ⟨m, n, b, hm⟩ := b
  obtain ⟨f, h1, h2, h3, h4⟩ := box_len h b
  exact ⟨f, h1, h2, h3, by omega⟩
abbrev Po3 : List (Str × Nat) := [("i", 2), ("j", 3), ("c", 4)]

/-! ### plus -/
def RPlus (K : PySem.W.Frag) : List MP → MP → Prop := fun ms m => ∃ φ ψ : C, ms = [(rC K).is φ, (rC K).is ψ] ∧ Sm φ ∧ Sm ψ ∧ m = (rC K).is (add φ ψ)
theorem sc17 : FnScope ["f", "g"] ["f", "g"] (defScope (top 17)) := ⟨rfl, rfl, rfl, by decide +kernel, rfl, by decide +kernel, by decide +kernel⟩
abbrev N18 : List Str := ["f", "g", "i", "j", "c"]
theorem sc18 : FnScope N18 ["f", "g"] (defScope (top 18)) := ⟨rfl, rfl, rfl, by decide +kernel, rfl, by decide +kernel, by decide +kernel⟩
def RMinus (K : PySem.W.Frag) : List MP → MP → Prop := fun ms m => ∃ φ ψ : C, ms = [(rC K).is φ, (rC K).is ψ] ∧ Sm φ ∧ Sm ψ ∧ m = (rC K).is (sub φ ψ)
section
variable {P : Program} {w : World} {K : PySem.W.Frag} {mg : Str → Option Value} {base : Heap} {f : Addr} {fd : FuncData}
theorem ok_plus (F : Fun K "plus" "plus" (top 17) f fd) (T : Txt K mg) (hm : mg "plus" = some (.ref f)) (hb : Binds K fd ["f", "g"] []) (C1 : Cal P w K mg base 1 "collected" ["terms"] (spM (RCol K))) : Cal P w K mg base 2 "plus" ["f", "g"] (spM (RPlus K)) := by
  refine Cal.pure F sc17 hm hb (fun ms m ⟨_, _, h, _⟩ => by rw [h]; rfl) (fun cdv A outer s H vs E ms m hr hv hR => ?_)
  obtain ⟨φ, ψ, rfl, b1, b2, rfl⟩ := hR
  obtain ⟨v, u, rfl, h1, h2⟩ := pd2 hv
  obtain ⟨f1, hf1, c1, rfl, l1⟩ := b1.len h1
  obtain ⟨f2, hf2, c2, rfl, l2⟩ := b2.len h2
  refine s_ret (e_call C1 hr (a_cons (m := (rP K).is (f1 ++ f2)) (EvN.evp (n_cat (EvN.evp (n_listL T.list (vX (r := rP K) 0 hf1))) (EvN.evp (n_listL T.list (vX (r := rP K) 1 hf2))) (by omega))) a_nil) ⟨_, rfl, by rw [List.length_append]; omega, rfl⟩) fun v' H2 e2 hv' => ⟨e2, ?_⟩
  have e : coef (f1 ++ f2) = add (coef f1) (coef f2) := by funext i j; exact coef_append f1 f2 i j
  rw [e] at hv'
  exact hv'
theorem ok_minus (F : Fun K "minus" "minus" (top 18) f fd) (T : Txt K mg) (hm : mg "minus" = some (.ref f)) (hb : Binds K fd ["f", "g"] []) (C1 : Cal P w K mg base 1 "collected" ["terms"] (spM (RCol K))) : Cal P w K mg base 2 "minus" ["f", "g"] (spM (RMinus K)) := by
  refine Cal.pure F sc18 hm hb (fun ms m ⟨_, _, h, _⟩ => by rw [h]; rfl) (fun cdv A outer s H vs E ms m hr hv hR => ?_)
  obtain ⟨φ, ψ, rfl, b1, b2, rfl⟩ := hR
  obtain ⟨v, u, rfl, h1, h2⟩ := pd2 hv
  obtain ⟨f1, hf1, c1, rfl, l1⟩ := b1.len h1
  obtain ⟨f2, hf2, c2, rfl, l2⟩ := b2.len h2
  refine s_ret (e_call C1 hr (a_cons (m := (rP K).is (f1 ++ f2.map fun t => (t.1, t.2.1, -t.2.2))) (EvN.evp (n_cat (EvN.evp (n_listL T.list (vX (r := rP K) 0 hf1))) (EvN.evp (?_ : EvN _ _ _ (kT3 K) (f2.map fun t => (t.1, t.2.1, -t.2.2)))) (by rw [List.length_map]; omega))) a_nil) ⟨_, rfl, by rw [List.length_append, List.length_map]; omega, rfl⟩) fun v' H2 e2 hv' => ⟨e2, ?_⟩
  · exact n_lcP 2 3 4 (own := Po3) rfl sc18.nd (pi_list pE) (blkOk_by (N := N18) (sc := defScope (top 18)) (by decide +kernel)) (fun _ _ _ _ _ => pg3 rfl sc18.nd) (src_list (vX (r := rP K) 1 hf2)) (fun t => (t.1, t.2.1, -t.2.2)) (by omega)
      (fun t H2 s H0 C cl fp _ e2 => e_t3 (vI 2) (vI 3) (e_neg (vI 4)))
  have e : coef (f1 ++ f2.map fun t => (t.1, t.2.1, -t.2.2)) = sub (coef f1) (coef f2) := by funext i j; rw [coef_append, coef_neg]; rfl
  rw [e] at hv'
  exact hv'
end
end Wf
namespace Wf
open PySem PySem.Spec PyProof.Rows L2 Wp
/-! ### numbers as values -/
def rNm (K : PySem.W.Frag) : Rep Nm := ⟨fun H v n => ∃ p a b c d, v = .ref p ∧ SqT K H p [a, b, c, d] ∧ (rC K).R H a n.a ∧ (rC K).R H b n.b ∧ (rC K).R H c n.c ∧ (rC K).R H d n.d,
  fun e ⟨p, a, b, c, d, h0, h1, h2, h3, h4, h5⟩ => ⟨p, a, b, c, d, h0, ex_sqt e h1, (rC _).mono e h2, (rC _).mono e h3, (rC _).mono e h4, (rC _).mono e h5⟩⟩
def rNl (K : PySem.W.Frag) : Rep Nm := ⟨fun H v n => ∃ p a b c d, v = .ref p ∧ H p = some (.lst [a, b, c, d]) ∧ (rC K).R H a n.a ∧ (rC K).R H b n.b ∧ (rC K).R H c n.c ∧ (rC K).R H d n.d,
  fun e ⟨p, a, b, c, d, h0, h1, h2, h3, h4, h5⟩ => ⟨p, a, b, c, d, h0, e _ _ h1, (rC _).mono e h2, (rC _).mono e h3, (rC _).mono e h4, (rC _).mono e h5⟩⟩
section
variable {X : Cx} {σ : L2.St} {H : Hp} {D : Ends} {rest : List Stmt} {e : Expr} {es : List Expr} {pos : Pos}
theorem e_num {n : Nm} {x1} (h : EvA (wA X es) σ H [(rC X.K).is n.a, (rC X.K).is n.b, (rC X.K).is n.c, (rC X.K).is n.d]) : EvP (wE X (.Tuple es x1 pos)) σ H ((rNm X.K).is n).P :=
  (e_tup h (by simp)).imp fun v H' _ ⟨p, vs, hv, hp, hq⟩ => by
    obtain ⟨a, b, c, d, rfl, h1, h2, h3, h4⟩ := pd4 hq
    exact ⟨p, a, b, c, d, hv, SqT.of hp, h1, h2, h3, h4⟩
theorem e_numL {n : Nm} (h : EvA (wA X es) σ H [(rC X.K).is n.a, (rC X.K).is n.b, (rC X.K).is n.c, (rC X.K).is n.d]) : EvP (wE X (.List es pos)) σ H ((rNl X.K).is n).P :=
  .of (pe_lst pA) fun H1 e Q k => h H1 e _ fun vs H2 e2 hvs => by
    obtain ⟨a, b, c, d, rfl, h1, h2, h3, h4⟩ := pd4 hvs
    refine ⟨by show 4 ≤ sizeLine; rw [sizeLine_eq]; omega, fun p hp => k _ _ (e2.trans (ex_new hp)) ⟨p, a, b, c, d, rfl, upd_same, (rC _).mono (ex_new hp) h1, (rC _).mono (ex_new hp) h2, (rC _).mono (ex_new hp) h3, (rC _).mono (ex_new hp) h4⟩⟩
/-- a, b, c, d = e -/
theorem s_unp {tgs : List Expr} {t : TGs} {kk : Nat} {tpos : Pos} {n : Nm} (hc : X.calm = true) (he : EvP (wE X e) σ H ((rNm X.K).is n).P) (hg : PGs X tgs t)
    (h : ∀ a b c d H', Ex H H' → (rC X.K).R H' a n.a → (rC X.K).R H' b n.b → (rC X.K).R H' c n.c → (rC X.K).R H' d n.d → t [a, b, c, d] σ H' (wS X rest D))
    (hn : (assignEach tgs X.env).length = 4 := by rfl) (hst : (assignEach tgs X.env).findIdx? (·.1) = none := by rfl) (hs : swapsWithSole [.Tuple tgs kk tpos] e pos.line X.env = pure false := by rfl) (hw : swappedStores [.Tuple tgs kk tpos] e X.env = pure none := by rfl)
    (h1 : (assignEach [.Tuple tgs kk tpos] X.env).map (·.2) = [assign (.Tuple tgs kk tpos) X.env] := by rfl) : wS X (.Assign [.Tuple tgs kk tpos] e pos :: rest) D σ H :=
  wS.cons (ps_asg pE (pg_tup hc hg hn hst) hs hw h1) (he H ex_refl _ fun v H2 e2 ⟨p, a, b, c, d, hv, hp, q1, q2, q3, q4⟩ => ⟨p, _, hv, hp, rfl, h a b c d H2 e2 q1 q2 q3 q4⟩)
theorem s_unpL {tgs : List Expr} {t : TGs} {kk : Nat} {tpos : Pos} {n : Nm} (hc : X.calm = true) (he : EvP (wE X e) σ H ((rNl X.K).is n).P) (hg : PGs X tgs t)
    (h : ∀ a b c d H', Ex H H' → (rC X.K).R H' a n.a → (rC X.K).R H' b n.b → (rC X.K).R H' c n.c → (rC X.K).R H' d n.d → t [a, b, c, d] σ H' (wS X rest D))
    (hn : (assignEach tgs X.env).length = 4 := by rfl) (hst : (assignEach tgs X.env).findIdx? (·.1) = none := by rfl) (hs : swapsWithSole [.Tuple tgs kk tpos] e pos.line X.env = pure false := by rfl) (hw : swappedStores [.Tuple tgs kk tpos] e X.env = pure none := by rfl)
    (h1 : (assignEach [.Tuple tgs kk tpos] X.env).map (·.2) = [assign (.Tuple tgs kk tpos) X.env] := by rfl) : wS X (.Assign [.Tuple tgs kk tpos] e pos :: rest) D σ H :=
  wS.cons (ps_asg pE (pg_unl hc hg hn hst) hs hw h1) (he H ex_refl _ fun v H2 e2 ⟨p, a, b, c, d, hv, hp, q1, q2, q3, q4⟩ => ⟨p, _, hv, SqL.of hp, rfl, h a b c d H2 e2 q1 q2 q3 q4⟩)
theorem g4 {i j k l : Nat} {a b c d : V} {Q : L2.St → Hp → Prop} (q : Q ((((σ.set i (some a)).set j (some b)).set k (some c)).set l (some d)) H) : gCons (gName i) (gCons (gName j) (gCons (gName k) (gCons (gName l) gNil))) [a, b, c, d] σ H Q :=
  ⟨_, _, rfl, _, _, rfl, _, _, rfl, _, _, rfl, rfl, q⟩
end
theorem Canon.negm {f : Po} (h : Canon f) : Canon (f.map fun t => (t.1, t.2.1, -t.2.2)) := ⟨by rw [List.pairwise_map]; exact h.srt.imp fun {a b} r => r, fun t ht => by
  obtain ⟨u, hu, rfl⟩ := List.mem_map.mp ht
  have := h.nz u hu
  show -u.2.2 ≠ 0
  omega⟩
/-- names of the number's and polynomials' defs -/
def RNeg (K : PySem.W.Frag) : List MP → MP → Prop := fun ms m => ∃ φ : C, ms = [(rC K).is φ] ∧ Sm φ ∧ m = (rC K).is (neg φ)
def RSw (K : PySem.W.Frag) : List MP → MP → Prop := fun ms m => ∃ φ : C, ms = [(rC K).is φ] ∧ Sm φ ∧ m = (rC K).is (sw φ)
/-- a term times -/
def tmul (t : Tm) (φ : C) : C := fun i j => t.2.2 * φ (i - t.1) (j - t.2.1)
theorem tmul_x (φ : C) : tmul (1, 0, 1) φ = mx φ := by funext i j; simp [tmul, mx]
theorem tmul_y (φ : C) : tmul (0, 1, 1) φ = my φ := by funext i j; simp [tmul, my]
def RTimes (K : PySem.W.Frag) : List MP → MP → Prop := fun ms m => ∃ (t : Tm) (φ ψ : C), ms = [(kT K (kT3 K)).is [t], (rC K).is φ] ∧ (-(2 ^ 64) < t.2.2 ∧ t.2.2 < 2 ^ 64) ∧ Sm φ ∧ ψ = tmul t φ ∧ m = (rC K).is ψ
abbrev N23 : List Str := ["f", "i", "j", "c"]
abbrev O23 : List (Str × Nat) := [("i", 1), ("j", 2), ("c", 3)]
theorem sc23 : FnScope N23 ["f"] (defScope (top 23)) := ⟨rfl, rfl, rfl, by decide +kernel, rfl, by decide +kernel, by decide +kernel⟩
theorem sc30 : FnScope N23 ["f"] (defScope (top 30)) := ⟨rfl, rfl, rfl, by decide +kernel, rfl, by decide +kernel, by decide +kernel⟩
abbrev N19 : List Str := ["f", "g", "i", "j", "c", "k", "m", "d"]
abbrev O19 : List (Str × Nat) := [("i", 2), ("j", 3), ("c", 4), ("k", 5), ("m", 6), ("d", 7)]
theorem sc19 : FnScope N19 ["f", "g"] (defScope (top 19)) := ⟨rfl, rfl, rfl, by decide +kernel, rfl, by decide +kernel, by decide +kernel⟩
section
variable {P : Program} {w : World} {K : PySem.W.Frag} {mg : Str → Option Value} {base : Heap} {f : Addr} {fd : FuncData}
theorem ok_swapped (F : Fun K "swapped" "swapped" (top 23) f fd) (hm : mg "swapped" = some (.ref f)) (hb : Binds K fd ["f"] []) (C1 : Cal P w K mg base 1 "collected" ["terms"] (spM (RCol K))) : Cal P w K mg base 2 "swapped" ["f"] (spM (RSw K)) := by
  refine Cal.pure F sc23 hm hb (fun ms m ⟨_, h, _⟩ => by rw [h]; rfl) (fun cdv A outer s H vs E ms m hr hv hR => ?_)
  obtain ⟨φ, rfl, b1, rfl⟩ := hR
  obtain ⟨v, rfl, h1⟩ := pd1 hv
  obtain ⟨f1, hf1, c1, rfl, l1⟩ := b1.len h1
  refine s_ret (e_call C1 hr (a_cons (m := (rP K).is (f1.map fun t => (t.2.1, t.1, t.2.2))) (EvN.evp (?_ : EvN _ _ _ (kT3 K) (f1.map fun t => (t.2.1, t.1, t.2.2)))) a_nil) ⟨_, rfl, by rw [List.length_map]; omega, rfl⟩) fun v' H2 e2 hv' => ⟨e2, ?_⟩
  · exact n_lcP 1 2 3 (own := O23) rfl sc23.nd (pi_list pE) (blkOk_by (N := N23) (sc := defScope (top 23)) (by decide +kernel)) (fun _ _ _ _ _ => pg3 rfl sc23.nd) (src_list (vX (r := rP K) 0 hf1)) (fun t => (t.2.1, t.1, t.2.2)) (by omega)
      (fun t H2 s H0 C cl fp _ e2 => e_t3 (vI 2) (vI 1) (vI 3))
  have e : coef (f1.map fun t => (t.2.1, t.1, t.2.2)) = sw (coef f1) := by funext i j; rw [coef_swap]; rfl
  rw [e] at hv'
  exact hv'
theorem ok_negated (F : Fun K "negated" "negated" (top 30) f fd) (hm : mg "negated" = some (.ref f)) (hb : Binds K fd ["f"] []) (C1 : Cal P w K mg base 1 "collected" ["terms"] (spM (RCol K))) : Cal P w K mg base 2 "negated" ["f"] (spM (RNeg K)) := by
  refine Cal.pure F sc30 hm hb (fun ms m ⟨_, h, _⟩ => by rw [h]; rfl) (fun cdv A outer s H vs E ms m hr hv hR => ?_)
  obtain ⟨φ, rfl, b1, rfl⟩ := hR
  obtain ⟨v, rfl, h1⟩ := pd1 hv
  obtain ⟨f1, hf1, c1, rfl, l1⟩ := b1.len h1
  refine s_ret (e_call C1 hr (a_cons (m := (rP K).is (f1.map fun t => (t.1, t.2.1, -t.2.2))) (EvN.evp (?_ : EvN _ _ _ (kT3 K) (f1.map fun t => (t.1, t.2.1, -t.2.2)))) a_nil) ⟨_, rfl, by rw [List.length_map]; omega, rfl⟩) fun v' H2 e2 hv' => ⟨e2, ?_⟩
  · exact n_lcP 1 2 3 (own := O23) rfl sc30.nd (pi_list pE) (blkOk_by (N := N23) (sc := defScope (top 30)) (by decide +kernel)) (fun _ _ _ _ _ => pg3 rfl sc30.nd) (src_list (vX (r := rP K) 0 hf1)) (fun t => (t.1, t.2.1, -t.2.2)) (by omega)
      (fun t H2 s H0 C cl fp _ e2 => e_t3 (vI 1) (vI 2) (e_neg (vI 3)))
  have e : coef (f1.map fun t => (t.1, t.2.1, -t.2.2)) = neg (coef f1) := by funext i j; rw [coef_neg]; rfl
  rw [e] at hv'
  exact hv'
theorem ok_times (F : Fun K "times" "times" (top 19) f fd) (hm : mg "times" = some (.ref f)) (hb : Binds K fd ["f", "g"] []) (C1 : Cal P w K mg base 1 "collected" ["terms"] (spM (RCol K))) : Cal P w K mg base 2 "times" ["f", "g"] (spM (RTimes K)) := by
  refine Cal.pure F sc19 hm hb (fun ms m ⟨_, _, _, h, _⟩ => by rw [h]; rfl) (fun cdv A outer s H vs E ms m hr hv hR => ?_)
  obtain ⟨t0, φ, _, rfl, ht0, b1, rfl, rfl⟩ := hR
  obtain ⟨v, u, rfl, h0, h1⟩ := pd2 hv
  obtain ⟨f1, hf1, c1, rfl, l1⟩ := b1.len h1
  refine s_ret (e_call C1 hr (a_cons (m := (rP K).is (([t0] : Po).flatMap fun t => f1.map fun u => (t.1 + u.1, t.2.1 + u.2.1, t.2.2 * u.2.2))) (EvN.evp (?_ : EvN _ _ _ (kT3 K) (([t0] : Po).flatMap fun t => f1.map fun u => (t.1 + u.1, t.2.1 + u.2.1, t.2.2 * u.2.2)))) a_nil) ⟨_, rfl, by simp; omega, rfl⟩) fun v' H2 e2 hv' => ⟨e2, ?_⟩
  · exact n_lc2 (own := O19) (r := kT3 K) (r1 := kT3 K) (as := [t0]) (vs1 := [5, 6, 7]) rfl sc19.nd (pi_tup pE) (blkOk_by (N := N19) (sc := defScope (top 19)) (by decide +kernel)) (by decide) (fun _ _ _ _ _ => pg3 rfl sc19.nd) (fun _ _ _ _ _ => pi_list (pv 1)) (fun _ _ _ _ _ => pg3 rfl sc19.nd)
      (src_tup (vX (r := kT K (kT3 K)) 0 h0)).toE (fun _ => f1) (fun t u => (t.1 + u.1, t.2.1 + u.2.1, t.2.2 * u.2.2)) (fun _ t => [some v, some u, some (.int t.1), some (.int t.2.1), some (.int t.2.2), none, none, none])
      (fun _ t _ u' => [some v, some u, some (.int t.1), some (.int t.2.1), some (.int t.2.2), some (.int u'.1), some (.int u'.2.1), some (.int u'.2.2)]) 20000 (by simp) (fun _ _ => l1)
      (fun t x H' Q _ hx q => g_t3 (i := 2) (j := 3) (k := 4) hx q) (fun _ _ => rfl)
      (fun t x Hd H' _ e1 _ e2 => srcM_list (r := kT3 K) (v := u) (fun H1 e Q k => ⟨u, rfl, k u H1 ex_refl rfl⟩) ((rP K).mono e1 hf1) e2)
      (fun t x u' y H' Q _ _ hy q => g_t3 (i := 5) (j := 6) (k := 7) hy q) (fun _ _ _ _ => rfl)
      (fun t x u' y H' hmt _ _ _ _ => bE_of fun s H0 C cl fp => e_t3 (e_add (vI 2) (vI 5)) (e_add (vI 3) (vI 6)) (e_mul (vI 4) (vI 7) (.inl (by
        have : t = t0 := by simpa using hmt
        subst this; exact ht0))))
  have e : coef (([t0] : Po).flatMap fun t => f1.map fun u => (t.1 + u.1, t.2.1 + u.2.1, t.2.2 * u.2.2)) = tmul t0 (coef f1) := by
    funext i j
    simp only [List.flatMap_cons, List.flatMap_nil, List.append_nil]
    rw [coef_term]; rfl
  rw [e] at hv'
  exact hv'
end
end Wf
namespace Wf
open PySem PySem.Spec PyProof.Rows L2 Wp
section
variable {X : Cx} {σ : L2.St} {H : Hp} {pos : Pos}
theorem pgs4 {i j k l : Nat} {x y z u : Str} {px py pz pu : Pos} (hN : X.N.Nodup) (h1 : X.N[i]? = some x := by rfl) (h2 : X.N[j]? = some y := by rfl) (h3 : X.N[k]? = some z := by rfl) (h4 : X.N[l]? = some u := by rfl)
    (l1 : Loc X.env.scope x := by first | exact Or.inl rfl | exact Or.inr rfl) (l2 : Loc X.env.scope y := by first | exact Or.inl rfl | exact Or.inr rfl) (l3 : Loc X.env.scope z := by first | exact Or.inl rfl | exact Or.inr rfl) (l4 : Loc X.env.scope u := by first | exact Or.inl rfl | exact Or.inr rfl)
    (f1 : X.fn x = true ∨ X.env.scope.names.lookup x = some .local := by first | exact .inl rfl | exact .inr rfl) (f2 : X.fn y = true ∨ X.env.scope.names.lookup y = some .local := by first | exact .inl rfl | exact .inr rfl) (f3 : X.fn z = true ∨ X.env.scope.names.lookup z = some .local := by first | exact .inl rfl | exact .inr rfl) (f4 : X.fn u = true ∨ X.env.scope.names.lookup u = some .local := by first | exact .inl rfl | exact .inr rfl)
    (c1 : (assignEach [.Name x px, .Name y py, .Name z pz, .Name u pu] X.env).map (·.2) = assign (.Name x px) X.env :: (assignEach [.Name y py, .Name z pz, .Name u pu] X.env).map (·.2) := by rfl)
    (c2 : (assignEach [.Name y py, .Name z pz, .Name u pu] X.env).map (·.2) = assign (.Name y py) X.env :: (assignEach [.Name z pz, .Name u pu] X.env).map (·.2) := by rfl) (c3 : (assignEach [.Name z pz, .Name u pu] X.env).map (·.2) = assign (.Name z pz) X.env :: (assignEach [.Name u pu] X.env).map (·.2) := by rfl)
    (c4 : (assignEach [.Name u pu] X.env).map (·.2) = assign (.Name u pu) X.env :: (assignEach [] X.env).map (·.2) := by rfl) :
    PGs X [.Name x px, .Name y py, .Name z pz, .Name u pu] (gCons (gName i) (gCons (gName j) (gCons (gName k) (gCons (gName l) gNil)))) :=
  pgs_cons (pg_name hN h1 l1 f1) (pgs_cons (pg_name hN h2 l2 f2) (pgs_cons (pg_name hN h3 l3 f3) (pgs_cons (pg_name hN h4 l4 f4) pgs_nil c4) c3) c2) c1
theorem e_X {K : PySem.W.Frag} (T : Txt X.K X.mg) (hg : Gl X "X" := by rfl) : EvP (wE X (.Name "X" pos)) σ H ((kT X.K (kT3 X.K)).is [(1, 0, 1)]).P := by
  obtain ⟨a, h1, h2⟩ := T.X
  exact e_glob (v := .ref a) h1 rfl (fun H' _ => h2 H') hg
theorem e_Y {K : PySem.W.Frag} (T : Txt X.K X.mg) (hg : Gl X "Y" := by rfl) : EvP (wE X (.Name "Y" pos)) σ H ((kT X.K (kT3 X.K)).is [(0, 1, 1)]).P := by
  obtain ⟨a, h1, h2⟩ := T.Y
  exact e_glob (v := .ref a) h1 rfl (fun H' _ => h2 H') hg
end
/-- times(X, f), times(Y, f): what is promised -/
theorem rtx {K : PySem.W.Frag} {φ : C} (h : Sm φ) : RTimes K [(kT K (kT3 K)).is [(1, 0, 1)], (rC K).is φ] ((rC K).is (mx φ)) := ⟨_, _, _, rfl, by decide, h, (tmul_x φ).symm, rfl⟩
theorem rty {K : PySem.W.Frag} {φ : C} (h : Sm φ) : RTimes K [(kT K (kT3 K)).is [(0, 1, 1)], (rC K).is φ] ((rC K).is (my φ)) := ⟨_, _, _, rfl, by decide, h, (tmul_y φ).symm, rfl⟩
theorem rpl {K : PySem.W.Frag} {φ ψ : C} (h : Sm φ) (h' : Sm ψ) : RPlus K [(rC K).is φ, (rC K).is ψ] ((rC K).is (add φ ψ)) := ⟨_, _, rfl, h, h', rfl⟩
theorem rmi {K : PySem.W.Frag} {φ ψ : C} (h : Sm φ) (h' : Sm ψ) : RMinus K [(rC K).is φ, (rC K).is ψ] ((rC K).is (sub φ ψ)) := ⟨_, _, rfl, h, h', rfl⟩
theorem rng {K : PySem.W.Frag} {φ : C} (h : Sm φ) : RNeg K [(rC K).is φ] ((rC K).is (neg φ)) := ⟨_, rfl, h, rfl⟩
theorem rcl {K : PySem.W.Frag} {φ : C} : True := trivial
/-- a number's parts have room, also behind one more turn -/
def NS (n : Nm) (b : Nat) : Prop := NB n b b ∧ b ≤ 100
theorem Sm.of {φ : C} {b : Nat} (h : Box φ b b) (hb : b ≤ 141) : Sm φ := ⟨b, b, h, Nat.le_trans (Nat.mul_le_mul hb hb) (by decide)⟩
theorem NS.sa {n : Nm} {b : Nat} (h : NS n b) : Sm n.a := .of h.1.a (by have := h.2; omega)
theorem NS.sb {n : Nm} {b : Nat} (h : NS n b) : Sm n.b := .of h.1.b (by have := h.2; omega)
theorem NS.sc {n : Nm} {b : Nat} (h : NS n b) : Sm n.c := .of h.1.c (by have := h.2; omega)
theorem NS.sd {n : Nm} {b : Nat} (h : NS n b) : Sm n.d := .of h.1.d (by have := h.2; omega)
def RTl (K : PySem.W.Frag) (r : Rep Nm) : List MP → MP → Prop := fun ms m => ∃ (n : Nm) (b : Nat), ms = [r.is n] ∧ NS n b ∧ m = r.is (tl n)
def RTr (K : PySem.W.Frag) (r : Rep Nm) : List MP → MP → Prop := fun ms m => ∃ (n : Nm) (b : Nat), ms = [r.is n] ∧ NS n b ∧ m = r.is (tr n)
def RGn (K : PySem.W.Frag) (r : Rep Nm) : List MP → MP → Prop := fun ms m => ∃ (n : Nm) (b : Nat), ms = [r.is n] ∧ NS n b ∧ m = r.is (gn n)
def RTn (K : PySem.W.Frag) (r : Rep Nm) : List MP → MP → Prop := fun ms m => ∃ (n : Nm) (b : Nat) (k : Int), ms = [r.is n, kI.is k] ∧ NB n b b ∧ b + k.natAbs ≤ 100 ∧ m = r.is (trn k n)
abbrev N31 : List Str := ["number", "a", "b", "c", "d", "first", "second", "third"]
theorem sc31 : FnScope N31 ["number"] (defScope (top 31)) := ⟨rfl, rfl, rfl, by decide +kernel, rfl, by decide +kernel, by decide +kernel⟩
abbrev N32 : List Str := ["number", "a", "b", "c", "d", "first", "second", "fourth"]
theorem sc32 : FnScope N32 ["number"] (defScope (top 32)) := ⟨rfl, rfl, rfl, by decide +kernel, rfl, by decide +kernel, by decide +kernel⟩
abbrev N33 : List Str := ["number", "k", "result", "count", "part"]
theorem sc33 : FnScope N33 ["number", "k"] (defScope (top 33)) := ⟨rfl, rfl, rfl, by decide +kernel, rfl, by decide +kernel, by decide +kernel⟩
abbrev N34 : List Str := ["number", "a", "b", "c", "d"]
theorem sc34 : FnScope N34 ["number"] (defScope (top 34)) := ⟨rfl, rfl, rfl, by decide +kernel, rfl, by decide +kernel, by decide +kernel⟩
theorem sc29 : FnScope [] [] (defScope (top 29)) := ⟨rfl, rfl, rfl, by decide +kernel, rfl, by decide +kernel, by decide +kernel⟩
section
variable {P : Program} {w : World} {K : PySem.W.Frag} {mg : Str → Option Value} {base : Heap} {f : Addr} {fd : FuncData}
abbrev CCol (P : Program) (w : World) (K : PySem.W.Frag) (mg : Str → Option Value) (base : Heap) := Cal P w K mg base 1 "collected" ["terms"] (spM (RCol K))
abbrev CPlus (P : Program) (w : World) (K : PySem.W.Frag) (mg : Str → Option Value) (base : Heap) := Cal P w K mg base 2 "plus" ["f", "g"] (spM (RPlus K))
abbrev CMinus (P : Program) (w : World) (K : PySem.W.Frag) (mg : Str → Option Value) (base : Heap) := Cal P w K mg base 2 "minus" ["f", "g"] (spM (RMinus K))
abbrev CTimes (P : Program) (w : World) (K : PySem.W.Frag) (mg : Str → Option Value) (base : Heap) := Cal P w K mg base 2 "times" ["f", "g"] (spM (RTimes K))
abbrev CNeg (P : Program) (w : World) (K : PySem.W.Frag) (mg : Str → Option Value) (base : Heap) := Cal P w K mg base 2 "negated" ["f"] (spM (RNeg K))
theorem ok_tl (F : Fun K "turned_left" "turned_left" (top 31) f fd) (T : Txt K mg) (hm : mg "turned_left" = some (.ref f)) (hb : Binds K fd ["number"] []) (Cp : CPlus P w K mg base) (Cm : CMinus P w K mg base) (Ct : CTimes P w K mg base) (Cn : CNeg P w K mg base) :
    Cal P w K mg base 3 "turned_left" ["number"] (spM (RTl K (rNm K))) := by
  refine Cal.pure F sc31 hm hb (fun ms m ⟨_, _, h, _⟩ => by rw [h]; rfl) (fun cdv A outer s H vs E ms m hr hv hR => ?_)
  obtain ⟨n, b, rfl, hn, rfl⟩ := hR
  obtain ⟨v, rfl, h0⟩ := pd1 hv
  have hb2 := hn.2
  refine s_unp (n := n) rfl (vX (r := rNm K) 0 h0) (pgs4 (i := 1) (j := 2) (k := 3) (l := 4) sc31.nd) (fun va vb vc vd H1 e1 qa qb qc qd => g4 ?_)
  refine s_set (i := 5) sc31.nd (e_call Cm hr (a_cons (e_call Ct hr (a_cons (e_X (K := K) T) (a_cons (vX (r := rC K) 3 qc) a_nil)) (rtx hn.sc)) (a_cons (vX (r := rC K) 2 qb) a_nil)) (rmi (.of (hn.1.c.mx.mono (Nat.le_refl _) (Nat.le_succ _)) (by omega)) hn.sb)) (fun v1 H2 e2 q1 => ?_)
  refine s_set (i := 6) sc31.nd (e_call Cp hr (a_cons (e_call Cp hr (a_cons (vX (r := rC K) 1 ((rC K).mono e2 qa)) (a_cons (e_call Ct hr (a_cons (e_Y (K := K) T) (a_cons (vX (r := rC K) 2 ((rC K).mono e2 qb)) a_nil)) (rty hn.sb)) a_nil)) (rpl hn.sa (.of (hn.1.b.my.mono (Nat.le_succ _) (Nat.le_refl _)) (by omega))))
    (a_cons (e_call Ct hr (a_cons (e_X (K := K) T) (a_cons (vX (r := rC K) 4 ((rC K).mono e2 qd)) a_nil)) (rtx hn.sd)) a_nil)) (rpl (.of ((hn.1.a.mono (Nat.le_succ _) (Nat.le_succ _)).add (hn.1.b.my.mono (Nat.le_succ _) (Nat.le_refl _))) (by omega)) (.of (hn.1.d.mx.mono (Nat.le_refl _) (Nat.le_succ _)) (by omega)))) (fun v2 H3 e3 q2 => ?_)
  refine s_set (i := 7) sc31.nd (e_call Cp hr (a_cons (e_call Ct hr (a_cons (e_Y (K := K) T) (a_cons (vX (r := rC K) 3 ((rC K).mono (e2.trans e3) qc)) a_nil)) (rty hn.sc)) (a_cons (vX (r := rC K) 4 ((rC K).mono (e2.trans e3) qd)) a_nil)) (rpl (.of (hn.1.c.my.mono (Nat.le_succ _) (Nat.le_refl _)) (by omega)) hn.sd)) (fun v3 H4 e4 q3 => ?_)
  refine s_ret (e_num (n := tl n) (a_cons (vX (r := rC K) 5 ((rC K).mono (e3.trans e4) q1)) (a_cons (vX (r := rC K) 6 ((rC K).mono e4 q2)) (a_cons (vX (r := rC K) 7 q3) (a_cons (e_call Cn hr (a_cons (vX (r := rC K) 3 ((rC K).mono ((e2.trans e3).trans e4) qc)) a_nil) (rng hn.sc)) a_nil))))) fun v' H5 e5 q => ⟨(((e1.trans e2).trans e3).trans e4).trans e5, q⟩
theorem ok_tr (F : Fun K "turned_right" "turned_right" (top 32) f fd) (T : Txt K mg) (hm : mg "turned_right" = some (.ref f)) (hb : Binds K fd ["number"] []) (Cp : CPlus P w K mg base) (Cm : CMinus P w K mg base) (Ct : CTimes P w K mg base) (Cn : CNeg P w K mg base) :
    Cal P w K mg base 3 "turned_right" ["number"] (spM (RTr K (rNm K))) := by
  refine Cal.pure F sc32 hm hb (fun ms m ⟨_, _, h, _⟩ => by rw [h]; rfl) (fun cdv A outer s H vs E ms m hr hv hR => ?_)
  obtain ⟨n, b, rfl, hn, rfl⟩ := hR
  obtain ⟨v, rfl, h0⟩ := pd1 hv
  have hb2 := hn.2
  refine s_unp (n := n) rfl (vX (r := rNm K) 0 h0) (pgs4 (i := 1) (j := 2) (k := 3) (l := 4) sc32.nd) (fun va vb vc vd H1 e1 qa qb qc qd => g4 ?_)
  refine s_set (i := 5) sc32.nd (e_call Cm hr (a_cons (e_call Cp hr (a_cons (e_call Ct hr (a_cons (e_Y (K := K) T) (a_cons (vX (r := rC K) 1 qa) a_nil)) (rty hn.sa)) (a_cons (vX (r := rC K) 2 qb) a_nil)) (rpl (.of (hn.1.a.my.mono (Nat.le_succ _) (Nat.le_refl _)) (by omega)) hn.sb))
    (a_cons (e_call Ct hr (a_cons (e_X (K := K) T) (a_cons (vX (r := rC K) 3 qc) a_nil)) (rtx hn.sc)) a_nil)) (rmi (.of ((hn.1.a.my.mono (Nat.le_succ _) (Nat.le_refl _)).add (hn.1.b.mono (Nat.le_succ _) (Nat.le_succ _))) (by omega)) (.of (hn.1.c.mx.mono (Nat.le_refl _) (Nat.le_succ _)) (by omega)))) (fun v1 H2 e2 q1 => ?_)
  refine s_set (i := 6) sc32.nd (e_call Cn hr (a_cons (e_call Cp hr (a_cons (vX (r := rC K) 1 ((rC K).mono e2 qa)) (a_cons (e_call Ct hr (a_cons (e_X (K := K) T) (a_cons (vX (r := rC K) 4 ((rC K).mono e2 qd)) a_nil)) (rtx hn.sd)) a_nil)) (rpl hn.sa (.of (hn.1.d.mx.mono (Nat.le_refl _) (Nat.le_succ _)) (by omega)))) a_nil) (rng (.of ((hn.1.a.mono (Nat.le_succ _) (Nat.le_succ _)).add (hn.1.d.mx.mono (Nat.le_refl _) (Nat.le_succ _))) (by omega)))) (fun v2 H3 e3 q2 => ?_)
  refine s_set (i := 7) sc32.nd (e_call Cp hr (a_cons (vX (r := rC K) 3 ((rC K).mono (e2.trans e3) qc)) (a_cons (e_call Ct hr (a_cons (e_Y (K := K) T) (a_cons (vX (r := rC K) 4 ((rC K).mono (e2.trans e3) qd)) a_nil)) (rty hn.sd)) a_nil)) (rpl hn.sc (.of (hn.1.d.my.mono (Nat.le_succ _) (Nat.le_refl _)) (by omega)))) (fun v3 H4 e4 q3 => ?_)
  refine s_ret (e_num (n := tr n) (a_cons (vX (r := rC K) 5 ((rC K).mono (e3.trans e4) q1)) (a_cons (vX (r := rC K) 6 ((rC K).mono e4 q2)) (a_cons (e_call Cn hr (a_cons (vX (r := rC K) 4 ((rC K).mono ((e2.trans e3).trans e4) qd)) a_nil) (rng hn.sd)) (a_cons (vX (r := rC K) 7 q3) a_nil))))) fun v' H5 e5 q => ⟨(((e1.trans e2).trans e3).trans e4).trans e5, q⟩
/-- collected of a canonical list -/
theorem e_colC {X : Cx} {σ : L2.St} {H : Hp} {k i : Nat} {φ : C} {v : V} {x : Str} {p pos apos : Pos} (C1 : Cal X.prog X.w X.K X.mg X.base 1 "collected" ["terms"] (spM (RCol X.K))) (hr : Room 1 X.A) (h : (rC X.K).R H v φ) (b : Sm φ) (hi : σ[i]? = some (some v)) (hN : X.N[i]? = some x := by rfl)
    (hv : Vis X.env.scope x := by first | exact Or.inl rfl | exact Or.inr (Or.inl rfl) | exact Or.inr (Or.inr rfl)) (hd : (x == ("__debug__" : Str)) = false := by decide) (hcd : (x == ("__classdict__" : Str)) = false := by decide) (hg : Gl X "collected" := by rfl)
    (he : starEach [.Name x apos] X.env = (false, eval (.Name x apos) X.env) :: starEach [] X.env := by rfl) (hpl : (backTo pos (starEach [] X.env)).any (·.1) = false := by rfl) : EvP (wE X (.Call (.Name "collected" p) [.Name x apos] [] pos)) σ H ((rC X.K).is φ).P := by
  obtain ⟨f, h1, h2, rfl, h4⟩ := b.len h
  exact e_call C1 hr (a_cons (m := (rP X.K).is f) (vX (r := rP X.K) i h1 hi hN hv hd hcd) a_nil he) ⟨_, rfl, by omega, rfl⟩ hg (by decide) he hpl
theorem ok_gone (F : Fun K "gone" "gone" (top 34) f fd) (hm : mg "gone" = some (.ref f)) (hb : Binds K fd ["number"] []) (C1 : CCol P w K mg base) (Cn : CNeg P w K mg base) : Cal P w K mg base 3 "gone" ["number"] (spM (RGn K (rNm K))) := by
  refine Cal.pure F sc34 hm hb (fun ms m ⟨_, _, h, _⟩ => by rw [h]; rfl) (fun cdv A outer s H vs E ms m hr hv hR => ?_)
  obtain ⟨n, b, rfl, hn, rfl⟩ := hR
  obtain ⟨v, rfl, h0⟩ := pd1 hv
  refine s_unp (n := n) rfl (vX (r := rNm K) 0 h0) (pgs4 (i := 1) (j := 2) (k := 3) (l := 4) sc34.nd) (fun va vb vc vd H1 e1 qa qb qc qd => g4 ?_)
  refine s_ret (e_num (n := gn n) (a_cons (e_call Cn hr (a_cons (vX (r := rC K) 3 qc) a_nil) (rng hn.sc)) (a_cons (e_call Cn hr (a_cons (vX (r := rC K) 4 qd) a_nil) (rng hn.sd)) (a_cons (e_colC (k := 0) (i := 1) C1 (hr.mono (by decide)) qa hn.sa rfl) (a_cons (e_colC (k := 0) (i := 2) C1 (hr.mono (by decide)) qb hn.sb rfl) a_nil))))) fun v' H5 e5 q => ⟨e1.trans e5, q⟩
def ROne (K : PySem.W.Frag) : List MP → MP → Prop := fun ms m => ms = [] ∧ m = (rNm K).is one
theorem coef_one : coef [(0, 0, 1)] = unit := by
  funext i j
  simp only [coef_cons, coef_nil, unit]
  by_cases h : i = 0 ∧ j = 0
  · rw [if_pos h, if_pos ⟨h.1.symm, h.2.symm⟩]; rfl
  · rw [if_neg h, if_neg (fun q => h ⟨q.1.symm, q.2.symm⟩)]; rfl
theorem canon_one : Canon [(0, 0, 1)] := ⟨List.pairwise_singleton _ _, by simp⟩
theorem e_nilC {X : Cx} {σ : L2.St} {H : Hp} {pos : Pos} : EvP (wE X (.List [] pos)) σ H ((rC X.K).is zero).P :=
  (EvN.evp (n_lst (r := kT3 X.K) (as := []) a_nil (by decide))).imp fun v H' _ h => ⟨_, h, Canon.nil, rfl⟩
end
end Wf
/-! D5: walks: Walk.__init__, __neg__, __add__, reduced; turned, number_of. -/
namespace Wf
open PySem PySem.Spec PyProof.Rows L2 Wp
/-! ### turned -/
theorem num_list {K : PySem.W.Frag} {H : Hp} {v : V} {n : Nm} (h : (rNm K).R H v n) : (kT K (rC K)).R H v [n.a, n.b, n.c, n.d] := by
  obtain ⟨p, a, b, c, d, h0, h1, h2, h3, h4, h5⟩ := h
  exact ⟨p, _, h0, h1, .cons h2 (.cons h3 (.cons h4 (.cons h5 .nil)))⟩
theorem num_of {K : PySem.W.Frag} {H : Hp} {v : V} {n : Nm} (h : (kT K (rC K)).R H v [n.a, n.b, n.c, n.d]) : (rNm K).R H v n := by
  obtain ⟨p, xs, h0, h1, h2⟩ := h
  cases h2 with | cons r1 h2 => cases h2 with | cons r2 h2 => cases h2 with | cons r3 h2 => cases h2 with | cons r4 h2 => cases h2; exact ⟨p, _, _, _, _, h0, h1, r1, r2, r3, r4⟩
abbrev CTl (P : Program) (w : World) (K : PySem.W.Frag) (mg : Str → Option Value) (base : Heap) := Cal P w K mg base 3 "turned_left" ["number"] (spM (RTl K (rNm K)))
abbrev CTr (P : Program) (w : World) (K : PySem.W.Frag) (mg : Str → Option Value) (base : Heap) := Cal P w K mg base 3 "turned_right" ["number"] (spM (RTr K (rNm K)))
abbrev CTn (P : Program) (w : World) (K : PySem.W.Frag) (mg : Str → Option Value) (base : Heap) := Cal P w K mg base 4 "turned" ["number", "k"] (spM (RTn K (rNm K)))
abbrev CGn (P : Program) (w : World) (K : PySem.W.Frag) (mg : Str → Option Value) (base : Heap) := Cal P w K mg base 3 "gone" ["number"] (spM (RGn K (rNm K)))
/-- i turns of trn -/
def trI (k : Int) (i : Nat) (n : Nm) : Nm := if 0 < k then tls i n else trs i n
theorem trI_box {k : Int} {n : Nm} {b : Nat} (h : NB n b b) (i : Nat) : NB (trI k i n) (b + i) (b + i) := by
  unfold trI; split
  · exact h.tls i
  · exact h.trs i
/-! ### the class Walk -/
def inWalk (j : Nat) : Stmt := inClass (top 36) j
def wsz (ts : List Int) : Int := (ts.map fun k => (k.natAbs : Int)).sum
def wFs (t : Addr) (ts : List Int) : List (Str × V) := putF "size" (.int (wsz ts)) (putF "goes" (.int ((ts.length : Int) - 1)) (putF "turns" (.ref t) []))
theorem n_sg : ¬ (("size" : Str) = "goes") := by decide +kernel
theorem n_st : ¬ (("size" : Str) = "turns") := by decide +kernel
theorem n_gt : ¬ (("goes" : Str) = "turns") := by decide +kernel
theorem wFs_t {t : Addr} {ts : List Int} : (wFs t ts).lookup ("turns" : Str) = some (.ref t) := by
  unfold wFs
  rw [lookup_putF, if_neg (fun z => n_st z.symm), lookup_putF, if_neg (fun z => n_gt z.symm), lookup_putF, if_pos rfl]
theorem wFs_g {t : Addr} {ts : List Int} : (wFs t ts).lookup ("goes" : Str) = some (.int ((ts.length : Int) - 1)) := by
  unfold wFs
  rw [lookup_putF, if_neg (fun z => n_sg z.symm), lookup_putF, if_pos rfl]
theorem wFs_s {t : Addr} {ts : List Int} : (wFs t ts).lookup ("size" : Str) = some (.int (wsz ts)) := by
  unfold wFs
  rw [lookup_putF, if_pos rfl]
theorem wFs_m {t : Addr} {ts : List Int} {m : Str} (h1 : ¬ m = "size") (h2 : ¬ m = "goes") (h3 : ¬ m = "turns") : (wFs t ts).lookup m = none := by
  unfold wFs
  rw [lookup_putF, if_neg h1, lookup_putF, if_neg h2, lookup_putF, if_neg h3]; rfl
theorem putF_len (f : Str) (v : V) (fs : List (Str × V)) : (putF f v fs).length ≤ fs.length + 1 := by
  induction fs with
  | nil => exact Nat.le_refl _
  | cons p fs ih =>
    obtain ⟨g, u⟩ := p
    unfold putF
    split
    · simp
    · simp only [List.length_cons]; omega
/-- a walk with these turns -/
def rW (K : PySem.W.Frag) (C : Addr) : Rep (List Int) := ⟨fun H v ts => ∃ p dx t, v = .ref p ∧ H p = some (.ins C dx (wFs t ts)) ∧ SqT K H t (ts.map V.int), fun e ⟨p, dx, t, h1, h2, h3⟩ => ⟨p, dx, t, h1, e _ _ h2, ex_sqt e h3⟩⟩
structure TxtW (K : PySem.W.Frag) (C : Addr) : Prop where
  cl : Cls K C
  nt : NoAttr K C "turns"
  ng : NoAttr K C "goes"
  ns : NoAttr K C "size"
  sf : PySem.W.selfFirst K C = true
def spWI (K : PySem.W.Frag) (C : Addr) : Sp := fun vs H Q _ => ∃ (x dx : Addr) (v : V) (ts : List Int), vs = [.ref x, v] ∧ H x = some (.ins C dx []) ∧ ((kL kI).R (hd H x) v ts ∨ (kT K kI).R (hd H x) v ts) ∧ ts.length ≤ 1000 ∧
  ∀ H' t, Ex (hd H x) H' → H' x = some (.ins C dx (wFs t ts)) → SqT K H' t (ts.map V.int) → Q .non H'
abbrev N360 : List Str := ["self", "turns", "k"]
theorem sc360 : FnScope N360 ["self", "turns"] (defScope (inWalk 0)) := ⟨rfl, rfl, rfl, by decide +kernel, rfl, by decide +kernel, by decide +kernel⟩
theorem kT_int {K : PySem.W.Frag} {H : Hp} {t : Addr} {ts : List Int} (h : SqT K H t (ts.map V.int)) : (kT K kI).R H (.ref t) ts := ⟨t, _, rfl, h, pd_int.mpr rfl⟩
theorem kT_int' {K : PySem.W.Frag} {H : Hp} {v : V} {ts : List Int} (h : (kT K kI).R H v ts) : ∃ t, v = .ref t ∧ SqT K H t (ts.map V.int) := by
  obtain ⟨t, xs, h1, h2, h3⟩ := h
  exact ⟨t, h1, by rw [← pd_int.mp h3]; exact h2⟩
section
variable {X : Cx} {σ : L2.St} {H : Hp} {e : Expr} {pos : Pos} {C : Addr} {ts : List Int}
theorem e_turns (W : TxtW X.K C) (h : EvP (wE X e) σ H ((rW X.K C).is ts).P) (hb : attributeBase e "turns" X.env (eval e X.env) = eval e X.env := by rfl) : EvP (wE X (.Attribute e "turns" pos)) σ H ((kT X.K kI).is ts).P :=
  e_fldR W.cl W.nt h (fun v H' ⟨p, dx, t, h1, h2, h3⟩ => ⟨p, dx, _, _, h1, h2, wFs_t, kT_int h3⟩) hb
theorem e_goes (W : TxtW X.K C) (h : EvP (wE X e) σ H ((rW X.K C).is ts).P) (hb : attributeBase e "goes" X.env (eval e X.env) = eval e X.env := by rfl) : EvP (wE X (.Attribute e "goes" pos)) σ H (kI.is ((ts.length : Int) - 1)).P :=
  e_fldR W.cl W.ng h (fun v H' ⟨p, dx, t, h1, h2, h3⟩ => ⟨p, dx, _, _, h1, h2, wFs_g, rfl⟩) hb
theorem e_size (W : TxtW X.K C) (h : EvP (wE X e) σ H ((rW X.K C).is ts).P) (hb : attributeBase e "size" X.env (eval e X.env) = eval e X.env := by rfl) : EvP (wE X (.Attribute e "size" pos)) σ H (kI.is (wsz ts)).P :=
  e_fldR W.cl W.ns h (fun v H' ⟨p, dx, t, h1, h2, h3⟩ => ⟨p, dx, _, _, h1, h2, wFs_s, rfl⟩) hb
end
section
variable {P : Program} {w : World} {K : PySem.W.Frag} {mg : Str → Option Value} {base : Heap} {f : Addr} {fd : FuncData} {C : Addr}
theorem ok_winit (F : Fun K "__init__" "Walk.__init__" (inWalk 0) f fd) (T : Txt K mg) (W : TxtW K C) (hm : mg "Walk" = some (.ref C)) (M : Mk K C f) (hb : Binds K fd ["self", "turns"] []) : Mak P w K mg base 1 "Walk" C ["self", "turns"] (spWI K C) := by
  refine ⟨f, fd, F.ok sc360 (fun vs H Q E ⟨_, _, _, _, h, _⟩ => by rw [h]; rfl) (fun cdv A outer s H vs Q E hr hs => ⟨_, pS, ?_⟩), M, hm, hb⟩
  obtain ⟨x, dx, v, ts, rfl, hx, hv, hl, k⟩ := hs
  refine s_fld (a := x) (q := ((kT K kI).is ts).P) W.cl W.nt ?_ (e_nm (i := 0) rfl) hx (by decide) (fun v1 H1 e1 q1 => ?_) (fun v H' H'' e h => (kT K kI).mono e h)
  · rcases hv with hv | hv
    · exact e_tupL T.tuple (vX (r := kL kI) 1 ((kL kI).mono ex_hd hv))
    · exact e_tupT T.tuple (vX (r := kT K kI) 1 ((kT K kI).mono ex_hd hv))
  obtain ⟨t, rfl, ht⟩ := kT_int' q1
  have x1 : H1 x = some (.ins C dx []) := e1 _ _ hx
  have nt1 : ∀ {H' : Hp} {fs}, H' x = some (.ins C dx fs) → (∀ ys, H' x ≠ some (.tup ys)) ∧ ∀ ob u, H' x ≠ some (.frz ob u) := fun h => ⟨fun ys z => (by rw [h] at z; cases z), fun ob u z => (by rw [h] at z; cases z)⟩
  have t2 : SqT K (upd H1 x (.ins C dx (putF "turns" (.ref t) []))) t (ts.map V.int) := sqt_upd ht (nt1 x1).1 (nt1 x1).2
  have ex2 : Ex (hd H x) (upd H1 x (.ins C dx (putF "turns" (.ref t) []))) := Evl.Ex.mut (ex_hd.trans e1) hd_same
  have lk : (putF "turns" (.ref t) [] : List (Str × V)).lookup ("turns" : Str) = some (.ref t) := by rw [lookup_putF, if_pos rfl]
  refine s_fld (a := x) (q := (kI.is ((ts.length : Int) - 1)).P) W.cl W.ng (e_sub (e_lenT (r := kI) (as := ts) T.len (e_fld W.cl W.nt (e_nm (i := 0) rfl) upd_same lk (fun H' e => kT_int (ex_sqt e t2)))) e_int) (e_nm (i := 0) rfl) upd_same (Nat.lt_of_le_of_lt (putF_len _ _ _) (by decide)) (fun v2 H2 e2 q2 => ?_) (fun v H' H'' e h => h)
  obtain rfl : v2 = .int ((ts.length : Int) - 1) := q2
  have x2 : H2 x = some (.ins C dx (putF "turns" (.ref t) [])) := e2 _ _ upd_same
  have t3 : SqT K (upd H2 x (.ins C dx (putF "goes" (.int ((ts.length : Int) - 1)) (putF "turns" (.ref t) [])))) t (ts.map V.int) := sqt_upd (ex_sqt e2 t2) (nt1 x2).1 (nt1 x2).2
  have ex3 : Ex (hd H x) (upd H2 x (.ins C dx (putF "goes" (.int ((ts.length : Int) - 1)) (putF "turns" (.ref t) [])))) := Evl.Ex.mut (ex2.trans e2) hd_same
  have lk2 : (putF "goes" (.int ((ts.length : Int) - 1)) (putF "turns" (.ref t) []) : List (Str × V)).lookup ("turns" : Str) = some (.ref t) := by rw [lookup_putF, if_neg (fun z => n_gt z.symm), lk]
  refine s_fld (a := x) (q := (kI.is (wsz ts)).P) W.cl W.ns (e_sum (ns := ts.map fun k => (k.natAbs : Int)) rfl T.sum (EvN.evp ?_)) (e_nm (i := 0) rfl) upd_same (Nat.lt_of_le_of_lt (putF_len _ _ _) (Nat.lt_of_le_of_lt (Nat.succ_le_succ (putF_len _ _ _)) (by decide))) (fun v3 H3 e3 q3 => ?_) (fun v H' H'' e h => h)
  · exact n_lc (own := [("k", 2)]) (r := kI) (as := ts) rfl sc360.nd (pi_tup pE) (blkOk_by (N := N360) (sc := defScope (inWalk 0)) (by decide +kernel)) (fun _ _ _ _ _ => pg_name (i := 2) sc360.nd rfl (.inl rfl))
      (src_tup (e_fld W.cl W.nt (e_nm (i := 0) rfl) upd_same lk2 (fun H' e => kT_int (ex_sqt e t3)))) (fun k => (k.natAbs : Int)) (fun y _ => [some (.ref x), some v, some y]) (by omega) (fun a y H' Q _ _ q => q) (fun _ _ => rfl)
      (fun a y H' _ _ hy => bE_of fun s H0 C cl fp => e_abs T.abs (e_var (i := 2) rfl (fun _ _ => hy)))
  obtain rfl : v3 = .int (wsz ts) := q3
  have x3 := e3 _ _ (upd_same (H := H2) (a := x) (o := .ins C dx (putF "goes" (.int ((ts.length : Int) - 1)) (putF "turns" (.ref t) []))))
  exact s_nil (k _ t (Evl.Ex.mut (ex3.trans e3) hd_same) upd_same (sqt_upd (ex_sqt e3 t3) (nt1 x3).1 (nt1 x3).2))
theorem ok_turned (F : Fun K "turned" "turned" (top 33) f fd) (T : Txt K mg) (hm : mg "turned" = some (.ref f)) (hb : Binds K fd ["number", "k"] []) (C1 : CCol P w K mg base) (Cl : CTl P w K mg base) (Cr : CTr P w K mg base) : CTn P w K mg base := by
  refine Cal.pure F sc33 hm hb (fun ms m ⟨_, _, _, h, _⟩ => by rw [h]; rfl) (fun cdv A outer s H vs E ms m hr hv hR => ?_)
  obtain ⟨n, b, k, rfl, hn, hbk, rfl⟩ := hR
  obtain ⟨v, u, rfl, h0, rfl⟩ := pd2 hv
  refine s_set (i := 2) sc33.nd (e_tupL (r := rC K) (as := [n.a, n.b, n.c, n.d]) T.tuple (EvN.evp (?_ : EvN _ _ _ (rC K) ([n.a, n.b, n.c, n.d].map id)))) (fun v1 H1 e1 q1 => ?_)
  · refine n_lc (own := [("part", 4)]) (r := rC K) (as := [n.a, n.b, n.c, n.d]) rfl sc33.nd (pi_tup pE) (blkOk_by (N := N33) (sc := defScope (top 33)) (by decide +kernel)) (fun _ _ _ _ _ => pg_name (i := 4) sc33.nd rfl (.inl rfl)) (src_tup (vX (r := kT K (rC K)) 0 (num_list h0))) id
      (fun x _ => [some v, some (.int k), none, none, some x]) (by simp) (fun φ x H' Q _ hx q => q) (fun _ _ => rfl) (fun φ x H' hm _ hx => bE_of fun s H0 C cl fp => ?_)
    have hsm : Sm φ := by
      have h100 : b ≤ 141 := by omega
      simp only [List.mem_cons, List.not_mem_nil, or_false] at hm
      rcases hm with rfl | rfl | rfl | rfl
      · exact .of hn.a h100
      · exact .of hn.b h100
      · exact .of hn.c h100
      · exact .of hn.d h100
    exact e_colC (k := 0) (i := 4) C1 (hr.mono (by decide)) hx hsm rfl
  refine s_forM rfl PassesOwn.never (pi_range1 rfl T.range pA) (pg_name (i := 3) sc33.nd rfl (.inl rfl)) (src_r1 (Hb := H1) (a_cons (e_abs T.abs (vI 1)) a_nil) (by omega) (by omega))
    (fun i σ' H' => ∃ vr vc, σ' = [some v, some (.int k), some vr, vc, none] ∧ Ex H1 H' ∧ (rNm K).R H' vr (trI k i n) ∧ i ≤ k.natAbs)
    (fun H2 e2 => ⟨v1, _, rfl, e2, (rNm K).mono e2 (by have z : trI k 0 n = n := (by unfold trI; split <;> rfl); rw [z]; exact num_of q1), Nat.zero_le _⟩) (fun i σ' H' ⟨_, _, _, e, _⟩ => e) ?_ ?_
  · rintro i a x σ' H' hi hx ⟨vr, vc, rfl, he, hq, hle⟩
    obtain ⟨hlt, rfl⟩ := iota_get hi
    have hlt' : i < k.natAbs := by omega
    obtain rfl : x = .int (0 + (i : Int)) := hx
    have hns : NS (trI k i n) (b + i) := ⟨trI_box hn i, by omega⟩
    refine s_if (t_gt (vI 1) e_int) (fun hd H2 e2 => ?_) (fun hd H2 e2 => ?_)
    · have hk : 0 < k := of_decide_eq_true hd
      refine s_set (i := 2) sc33.nd (e_call Cl hr (a_cons (vX (r := rNm K) 2 ((rNm K).mono e2 hq)) a_nil) ⟨_, _, rfl, hns, rfl⟩) (fun v2 H3 e3 q3 => s_nil ?_)
      refine s_nil ⟨v2, _, rfl, (he.trans e2).trans e3, ?_, hlt'⟩
      have : trI k (i + 1) n = tl (trI k i n) := by unfold trI; rw [if_pos hk, if_pos hk]; rfl
      rw [this]; exact q3
    · have hk : ¬ 0 < k := of_decide_eq_false hd
      refine s_set (i := 2) sc33.nd (e_call Cr hr (a_cons (vX (r := rNm K) 2 ((rNm K).mono e2 hq)) a_nil) ⟨_, _, rfl, hns, rfl⟩) (fun v2 H3 e3 q3 => s_nil ?_)
      refine s_nil ⟨v2, _, rfl, (he.trans e2).trans e3, ?_, hlt'⟩
      have : trI k (i + 1) n = tr (trI k i n) := by unfold trI; rw [if_neg hk, if_neg hk]; rfl
      rw [this]; exact q3
  · rintro σ' H' ⟨vr, vc, rfl, he, hq, _⟩
    refine s_ret (vX (r := rNm K) 2 hq) fun v' H2 e2 q => ⟨(e1.trans he).trans e2, ?_⟩
    have : trI k (iota 0 ((k.natAbs : Int).toNat)).length n = trn k n := by rw [iota_len]; rfl
    rw [this] at q; exact q
end
end Wf
/-! D6: Walk.__neg__, __add__, reduced; number_of; joined. -/
namespace Wf
open PySem PySem.Spec PyProof.Rows L2 Wp
section
variable {X : Cx} {σ : L2.St} {H : Hp} {e : Expr} {p pos : Pos} {C : Addr} {ts : List Int}
abbrev MWalk (P : Program) (w : World) (K : PySem.W.Frag) (mg : Str → Option Value) (base : Heap) (C : Addr) := Mak P w K mg base 1 "Walk" C ["self", "turns"] (spWI K C)
theorem mk_ex {H1 : Hp} {y dx : Addr} {C : Addr} (hy : H1 y = none) (hdx : H1 dx = none) : Ex H1 (hd (upd (upd H1 dx (.own y)) y (.ins C dx [])) y) := fun b o hb => by
  rw [hd_ne (ne_of_none hb hy), upd_ne (ne_of_none hb hy), upd_ne (ne_of_none hb hdx)]; exact hb
/-- Walk(e) -/
theorem e_walk (M : MWalk X.prog X.w X.K X.mg X.base C) (hr : Room 2 X.A) (h : EvP (wE X e) σ H ((kL kI).is ts).P ∨ EvP (wE X e) σ H ((kT X.K kI).is ts).P) (hl : ts.length ≤ 1000) (hg : Gl X "Walk" := by rfl)
    (he : starEach [e] X.env = (false, eval e X.env) :: starEach [] X.env := by rfl) (hpl : (backTo pos (starEach [] X.env)).any (·.1) = false := by rfl) : EvP (wE X (.Call (.Name "Walk" p) [e] [] pos)) σ H ((rW X.K C).is ts).P := by
  rcases h with h | h
  · refine e_make (r := rW X.K C) M hr (a_cons h a_nil he) (fun vs H1 y dx Q e1 hv hy hdx hne k => ?_) hg (by decide) he hpl
    obtain ⟨v, rfl, hv'⟩ := pd1 hv
    exact ⟨y, dx, v, ts, rfl, upd_same, .inl ((kL kI).mono (mk_ex hy hdx) hv'), hl, fun H' t e2 h1 h2 => ⟨rfl, k H' ((mk_ex hy hdx).trans e2) ⟨y, dx, t, rfl, h1, h2⟩⟩⟩
  · refine e_make (r := rW X.K C) M hr (a_cons h a_nil he) (fun vs H1 y dx Q e1 hv hy hdx hne k => ?_) hg (by decide) he hpl
    obtain ⟨v, rfl, hv'⟩ := pd1 hv
    exact ⟨y, dx, v, ts, rfl, upd_same, .inr ((kT X.K kI).mono (mk_ex hy hdx) hv'), hl, fun H' t e2 h1 h2 => ⟨rfl, k H' ((mk_ex hy hdx).trans e2) ⟨y, dx, t, rfl, h1, h2⟩⟩⟩
end
def RNegW (K : PySem.W.Frag) (C : Addr) : List MP → MP → Prop := fun ms m => ∃ u : List Int, ms = [(rW K C).is u] ∧ u.length ≤ 1000 ∧ m = (rW K C).is (backL u)
def RAddW (K : PySem.W.Frag) (C : Addr) : List MP → MP → Prop := fun ms m => ∃ u v : List Int, ms = [(rW K C).is u, (rW K C).is v] ∧ u ≠ [] ∧ v ≠ [] ∧ u.length + v.length ≤ 1000 ∧ m = (rW K C).is (joinL u v)
def RRedW (K : PySem.W.Frag) (C : Addr) : List MP → MP → Prop := fun ms m => ∃ u : List Int, ms = [(rW K C).is u] ∧ u.length ≤ 1000 ∧ m = (rW K C).is (redL u)
abbrev N365 : List Str := ["self", "other", "joint"]
abbrev N366 : List Str := ["self", "k"]
abbrev N369 : List Str := ["self", "kept", "k", "last"]
theorem sc365 : FnScope N365 ["self", "other"] (defScope (inWalk 5)) := ⟨rfl, rfl, rfl, by decide +kernel, rfl, by decide +kernel, by decide +kernel⟩
theorem sc366 : FnScope N366 ["self"] (defScope (inWalk 6)) := ⟨rfl, rfl, rfl, by decide +kernel, rfl, by decide +kernel, by decide +kernel⟩
theorem sc369 : FnScope N369 ["self"] (defScope (inWalk 9)) := ⟨rfl, rfl, rfl, by decide +kernel, rfl, by decide +kernel, by decide +kernel⟩
section
variable {P : Program} {w : World} {K : PySem.W.Frag} {mg : Str → Option Value} {base : Heap} {f : Addr} {fd : FuncData} {C : Addr}
theorem ok_wneg (F : Fun K "__neg__" "Walk.__neg__" (inWalk 6) f fd) (T : Txt K mg) (W : TxtW K C) (h1 : PySem.W.findIn K (.ref C) "__neg__" = some (some (.ref f))) (h2 : PySem.W.isFn K (.ref f) = true) (hb : Binds K fd ["self"] []) (M : MWalk P w K mg base C) :
    Own P w K mg base 3 C "__neg__" ["self"] (spM (RNegW K C)) := by
  refine Own.pure F sc366 h1 h2 hb (fun ms m ⟨_, h, _⟩ => by rw [h]; rfl) (fun cdv A outer s H vs E ms m hr hv hR => ?_)
  obtain ⟨u, rfl, hl, rfl⟩ := hR
  obtain ⟨v, rfl, h0⟩ := pd1 hv
  refine s_ret (e_walk (ts := backL u) M hr (.inl (EvN.evp ?_)) (by unfold backL; simpa using hl)) fun v' H2 e2 q => ⟨e2, q⟩
  show EvN _ _ _ kI (u.reverse.map fun k => -k)
  exact n_lc (own := [("k", 1)]) (r := kI) (as := u.reverse) rfl sc366.nd (RT.pi_revA (by rfl) T.reversed pE) (blkOk_by (N := N366) (sc := defScope (inWalk 6)) (by decide +kernel)) (fun _ _ _ _ _ => pg_name (i := 1) sc366.nd rfl (.inl rfl))
    (src_revT (e_turns W (vX (r := rW K C) 0 h0))) (fun k => -k) (fun y _ => [some v, some y]) (by rw [List.length_reverse]; omega) (fun a y H' Q _ _ q => q) (fun _ _ => rfl)
    (fun a y H' _ _ hy => bE_of fun s H0 C cl fp => e_neg (e_var (i := 1) rfl (fun _ _ => hy)))
theorem ok_wadd (F : Fun K "__add__" "Walk.__add__" (inWalk 5) f fd) (T : Txt K mg) (W : TxtW K C) (h1 : PySem.W.findIn K (.ref C) "__add__" = some (some (.ref f))) (h2 : PySem.W.isFn K (.ref f) = true) (hb : Binds K fd ["self", "other"] []) (M : MWalk P w K mg base C) :
    Own P w K mg base 3 C "__add__" ["self", "other"] (spM (RAddW K C)) := by
  refine Own.pure F sc365 h1 h2 hb (fun ms m ⟨_, _, h, _⟩ => by rw [h]; rfl) (fun cdv A outer s H vs E ms m hr hv hR => ?_)
  obtain ⟨u, v, rfl, hu, hv0, hl, rfl⟩ := hR
  obtain ⟨x, y, rfl, q1, q2⟩ := pd2 hv
  obtain ⟨ul, hul⟩ : ∃ a, u.getLast? = some a := ⟨u.getLast hu, List.getLast?_eq_some_getLast hu⟩
  obtain ⟨vh, hvh⟩ : ∃ a, v.head? = some a := ⟨v.head hv0, List.head?_eq_some_head hv0⟩
  have ej : u.getLastD 0 + v.headD 0 = ul + vh := by
    rw [List.getLastD_eq_getLast?, List.headD_eq_head?_getD, hul, hvh]; rfl
  refine s_set (i := 2) sc365.nd (e_add (e_ixT (e_turns W (vX (r := rW K C) 0 q1)) (e_neg e_int) (at_last hul)) (e_ixT (e_turns W (vX (r := rW K C) 1 q2)) e_int (at_head hvh))) (fun vj H1 e1 hj => ?_)
  obtain rfl : vj = .int (ul + vh) := hj
  refine s_ret (e_walk (ts := joinL u v) M hr (.inr ?_) (by unfold joinL; simp; omega)) fun v' H2 e2 q => ⟨e1.trans e2, q⟩
  unfold joinL
  rw [ej]
  refine e_catT (as := u.dropLast ++ [ul + vh]) (bs := v.tail) (e_catT (as := u.dropLast) (bs := [ul + vh]) ?_ ?_ (by simp; omega)) ?_ (by simp; omega)
  · rw [← cut_init hu]
    exact e_sliceT po_none (po_some pE) (e_turns W (vX (r := rW K C) 0 ((rW K C).mono e1 q1))) o_none (o_some (e_neg e_int))
  · refine (e_tup (a_cons (m := kI.is (ul + vh)) (vI 2) a_nil) (by simp)).imp fun v' H' _ ⟨p, vs, h1, h2, h3⟩ => ?_
    obtain ⟨z, rfl, rfl⟩ := pd1 h3
    exact ⟨p, _, h1, SqT.of h2, .cons rfl .nil⟩
  · rw [← cut_tail hv0]
    exact e_sliceT (po_some pE) po_none (e_turns W (vX (r := rW K C) 1 ((rW K C).mono e1 q2))) (o_some e_int) o_none
end
end Wf
/-! D7: Walk.reduced, number_of, joined. -/
namespace Wf
open PySem PySem.Spec PyProof.Rows L2 Wp
theorem n_nilI {X : Cx} {σ : L2.St} {H : Hp} {pos : Pos} : EvN (wE X (.List [] pos)) σ H kI ([] : List Int) := n_lst a_nil (by decide)
theorem kL_ints {H : Hp} {a : Addr} {ns : List Int} (h : H a = some (.lst (ns.map V.int))) : (kL kI).R H (.ref a) ns := ⟨a, _, rfl, h, pd_int.mpr rfl⟩
section
variable {P : Program} {w : World} {K : PySem.W.Frag} {mg : Str → Option Value} {base : Heap} {f : Addr} {fd : FuncData} {C : Addr}
theorem ok_wred (F : Fun K "reduced" "Walk.reduced" (inWalk 9) f fd) (T : Txt K mg) (W : TxtW K C) (h1 : PySem.W.findIn K (.ref C) "reduced" = some (some (.ref f))) (h2 : PySem.W.isFn K (.ref f) = true) (hb : Binds K fd ["self"] []) (M : MWalk P w K mg base C) :
    Own P w K mg base 3 C "reduced" ["self"] (spM (RRedW K C)) := by
  refine Own.pure F sc369 h1 h2 hb (fun ms m ⟨_, h, _⟩ => by rw [h]; rfl) (fun cdv A outer s H vs E ms m hr hv hR => ?_)
  obtain ⟨ts, rfl, hl, rfl⟩ := hR
  obtain ⟨x, rfl, h0⟩ := pd1 hv
  obtain ⟨p, dx, t, rfl, hp, ht⟩ := id h0
  refine s_setN (i := 1) sc369.nd n_nilI (fun a xs H1 e1 ha hxs => ?_)
  cases hxs
  refine s_forM rfl PassesOwn.never (pi_tup pE) (pg_name (i := 2) sc369.nd rfl (.inl rfl)) (srcM_tup (r := kI) (as := ts) (Hb := H) (v := .ref t) (e_fld W.cl W.nt (e_nm (i := 0) rfl) ((e1.trans (ex_new ha)) _ _ hp) wFs_t (fun _ _ => rfl)) (kT_int ht) (e1.trans (ex_new ha)))
    (fun i σ' H' => ∃ vk vl, σ' = [some (.ref p), some (.ref a), vk, vl] ∧ Ex H H' ∧ H' a = some (.lst ((redS (ts.take i)).reverse.map V.int)) ∧ i ≤ ts.length)
    (fun H2 e2 => ⟨_, _, rfl, (e1.trans (ex_new ha)).trans e2, e2 _ _ upd_same, Nat.zero_le _⟩) (fun i σ' H' ⟨_, _, _, e, _⟩ => e) ?_ ?_
  · rintro i k y σ' H' hi hy ⟨vk, vl, rfl, he, hd, hle⟩
    obtain rfl : y = .int k := hy
    have hlt : i < ts.length := (List.getElem?_eq_some_iff.mp hi).1
    have ht2 : ts.take (i + 1) = ts.take i ++ [k] := by rw [List.take_add_one, hi]; rfl
    have hred : redS (ts.take (i + 1)) = stp (redS (ts.take i)) k := by rw [ht2]; simp [redS, List.foldl_append]
    have hlen : (redS (ts.take i)).length ≤ 1000 := by have := redS_len (ts.take i); rw [List.length_take] at this; omega
    have hHa : H a = none := Evl.fresh_back e1 ha
    generalize redS (ts.take i) = st at hd hred hlen
    refine s_app (q := fun v _ => v = .int k) hd (e_nm (i := 1) rfl) (e_nm (i := 2) rfl) (by simp; omega) (fun v H2 e2 hv => ?_)
    subst hv
    have hk2 : (st.reverse.map V.int ++ [V.int k]) = ((k :: st).reverse.map V.int) := by simp
    rw [hk2]
    have ex2 : Ex H (upd H2 a (.lst ((k :: st).reverse.map V.int))) := Evl.Ex.mut (he.trans e2) hHa
    generalize hH3 : upd H2 a (.lst ((k :: st).reverse.map V.int)) = H3
    have h3a : H3 a = some (.lst ((k :: st).reverse.map V.int)) := by rw [← hH3]; exact upd_same
    rw [hH3] at ex2
    rcases st with _ | ⟨s0, _ | ⟨s1, r⟩⟩
    · refine s_when (t_and (t_gt (e_lenL (r := kI) T.len (vX (r := kL kI) (v := .ref a) 1 (kL_ints h3a))) e_int) (d := false) (fun h => absurd h (by simp))) (fun h => absurd h (by simp)) (fun _ H4 e4 => ?_)
      refine s_nil ⟨_, _, rfl, ex2.trans e4, ?_, hlt⟩
      rw [hred]; exact e4 _ _ h3a
    · refine s_when (t_and (t_gt (e_lenL (r := kI) T.len (vX (r := kL kI) (v := .ref a) 1 (kL_ints h3a))) e_int) (d := false) (fun h => absurd h (by simp))) (fun h => absurd h (by simp)) (fun _ H4 e4 => ?_)
      refine s_nil ⟨_, _, rfl, ex2.trans e4, ?_, hlt⟩
      rw [hred]
      have : stp [s0] k = [k, s0] := by unfold stp; split <;> simp_all
      rw [this]; exact e4 _ _ h3a
    · have hat : atI ((k :: s0 :: s1 :: r).reverse) (-2) = some s0 := by
        unfold atI ixN
        rw [if_neg (by omega), if_pos (by simp; omega)]
        simp only [List.length_reverse, List.length_cons]
        show (k :: s0 :: s1 :: r).reverse[_]? = some s0
        rw [List.getElem?_reverse (by simp; omega)]
        simp only [List.length_cons]
        rw [show r.length + 1 + 1 + 1 - 1 - (-2 + ((r.length + 1 + 1 + 1 : Nat) : Int)).toNat = 1 by omega]
        rfl
      refine s_when (t_and (t_gt (e_lenL (r := kI) T.len (vX (r := kL kI) (v := .ref a) 1 (kL_ints h3a))) e_int) (d := decide (s0 = 0)) (fun _ => t_eqI (e_ixL (vX (r := kL kI) (v := .ref a) 1 (kL_ints h3a)) (e_neg e_int) hat) e_int)) (fun h H4 e4 => ?_) (fun h H4 e4 => ?_)
      · have h00 : s0 = 0 := by simp at h; exact h.2
        subst h00
        have l4 : H4 a = some (.lst ((r.reverse.map V.int ++ [V.int s1, V.int 0]) ++ [V.int k])) := by rw [e4 _ _ h3a]; simp
        refine s_setW (i := 3) sc369.nd (w_pop (y := .int k) l4 (by simp) (e_nm (i := 1) rfl) fun H5 e5 => ?_)
        rw [List.dropLast_concat]
        have l5 : upd H5 a (.lst (r.reverse.map V.int ++ [V.int s1, V.int 0])) a = some (.lst ((r.reverse.map V.int ++ [V.int s1]) ++ [V.int 0])) := by rw [upd_same]; simp
        refine s_exprW (w_pop (y := .int 0) l5 (by simp) (e_nm (i := 1) rfl) fun H6 e6 => ?_)
        rw [List.dropLast_concat]
        have l6 : upd H6 a (.lst (r.reverse.map V.int ++ [V.int s1])) a = some (.lst (r.reverse.map V.int ++ [V.int s1])) := upd_same
        refine s_augL (p := a) (n := -1) (a := s1) (b := k) (j := r.length) ip_add l6 (e_nm (i := 1) rfl) (e_neg e_int) (by unfold ixN; rw [if_neg (by omega), if_pos (by simp; omega)]; simp; omega) (by simp) (vI 3) fun H7 e7 => ?_
        refine s_nil (s_nil ⟨_, _, rfl, ?_, ?_, hlt⟩)
        · refine Evl.Ex.mut (Evl.Ex.trans ?_ e7) hHa
          refine Evl.Ex.mut (Evl.Ex.trans ?_ e6) hHa
          exact Evl.Ex.mut ((ex2.trans e4).trans e5) hHa
        · rw [upd_same, hred]
          have : stp (0 :: s1 :: r) k = (s1 + k) :: r := rfl
          rw [this]
          congr 2
          rw [List.set_append_right _ _ (by simp)]
          simp
      · have h00 : s0 ≠ 0 := by
          intro z; subst z; simp at h; omega
        refine s_nil ⟨_, _, rfl, ex2.trans e4, ?_, hlt⟩
        rw [hred]
        have : stp (s0 :: s1 :: r) k = k :: s0 :: s1 :: r := by
          unfold stp; split
          · rename_i heq; injection heq with h1 _; exact absurd h1 h00
          · rfl
        rw [this]; exact e4 _ _ h3a
  · rintro σ' H' ⟨vk, vl, rfl, he, hd, _⟩
    rw [List.take_length] at hd
    refine s_ret (e_walk (ts := redL ts) M hr (.inl (vX (r := kL kI) (v := .ref a) 1 (kL_ints hd))) (Nat.le_trans (redL_len ts) hl)) fun v' H2 e2 q => ⟨he.trans e2, q⟩
end
/-! ### own operators by promises over data -/
section
variable {X : Cx} {σ : L2.St} {H : Hp} {D : Ends} {rest : List Stmt} {a b e o : Expr} {es : List Expr} {pos apos p : Pos} {C : Addr} {k : Nat} {ps : List Str} {R : List MP → MP → Prop} {m0 m1 m : MP}
/-- of what m says is an instance of the class at C -/
def IsIns (C : Addr) (n : Str) (m : MP) : Prop := ∀ v H, m.P v H → ∃ a dx fs, v = .ref a ∧ H a = some (.ins C dx fs) ∧ fs.lookup n = none
theorem e_unO (O : Own X.prog X.w X.K X.mg X.base k C "__neg__" ps (spM R)) (hr : Room k X.A) (ha : EvP (wE X a) σ H m0.P) (i0 : IsIns C "" m0) (h : R [m0] m) : EvP (wE X (.UnaryOp .USub a pos)) σ H m.P :=
  .of (pe_un (un_own O hr) pE) fun H1 e1 Q q => ha H1 e1 _ fun v H2 e2 hv => by
    obtain ⟨x, dx, fs, h1, h2, _⟩ := i0 v H2 hv
    exact ⟨x, dx, fs, h1, h2, [m0], m, .cons hv .nil, h, fun v' H' e3 hp => q v' H' (e2.trans e3) hp⟩
theorem e_addO (O : Own X.prog X.w X.K X.mg X.base k C "__add__" ps (spM R)) (hr : Room k X.A) (hc : PySem.W.selfFirst X.K C = true) (ha : EvP (wE X a) σ H m0.P) (hb : EvP (wE X b) σ H m1.P) (i0 : IsIns C "" m0) (i1 : IsIns C "" m1) (h : R [m0, m1] m) : EvP (wE X (.BinOp a .Add b pos)) σ H m.P :=
  .of (pe_op (bin_own O hr hc) pE pE) fun H1 e1 Q q => ha H1 e1 _ fun v H2 e2 hv => hb H2 (e1.trans e2) _ fun u H3 e3 hu => by
    obtain ⟨x, dx, fs, h1, h2, _⟩ := i0 v H3 (m0.mono e3 hv)
    obtain ⟨y, dy, gs, h3, h4, _⟩ := i1 u H3 hu
    exact ⟨x, dx, fs, y, dy, gs, h1, h2, h3, h4, [m0, m1], m, .cons (m0.mono e3 hv) (.cons hu .nil), h, fun v' H' e4 hp => q v' H' ((e2.trans e3).trans e4) hp⟩
theorem e_meth0 {n : Str} (O : Own X.prog X.w X.K X.mg X.base k C n ps (spM R)) (hr : Room k X.A) (c : Cls X.K C) (ha : EvP (wE X o) σ H m0.P) (i0 : IsIns C n m0) (h : R [m0] m) {pl : Sem Bool} (ht : eval (.Call (.Attribute o n apos) [] [] pos) X.env = (do
      let ov ← eval o X.env
      standAt apos.atName
      let (f, first) ← holding [ov] (getMethod ov n pl)
      callWith pos f first (backTo pos (starEach [] X.env)) (backToKw pos (keywordEach [] X.env))) := by rfl) :
    EvP (wE X (.Call (.Attribute o n apos) [] [] pos)) σ H m.P := by
  obtain ⟨f, fd, F, M, hb⟩ := O.meth
  exact .of (pe_meth0 pE c M F hr hb .nil pass0 ht) fun H1 e1 Q q => ha H1 e1 _ fun v H2 e2 hv => by
    obtain ⟨x, dx, fs, h1, h2, h3⟩ := i0 v H2 hv
    exact ⟨x, dx, fs, h1, h2, h3, [m0], m, .cons hv .nil, h, fun v' H' e3 hp => q v' H' (e2.trans e3) hp⟩
theorem rW_ins {K : PySem.W.Frag} {ts : List Int} {n : Str} (h1 : ¬ n = "size") (h2 : ¬ n = "goes") (h3 : ¬ n = "turns") : IsIns C n ((rW K C).is ts) := fun v H ⟨p, dx, t, q1, q2, _⟩ => ⟨p, dx, _, q1, q2, wFs_m h1 h2 h3⟩
/-- for i, x in enumerate(a tuple) -/
theorem s_forE {α : Type} {r : Rep α} {as : List α} {x y : Str} {px py tpos p : Pos} {kk i j : Nat} {body : List Stmt} (hc : X.calm = true) (hp : PassesOwn (model X.prog X.w) X.A X.env X.xe) (hN : X.N.Nodup) (hm : X.mg "enumerate" = none) (he : EvP (wE X e) σ H ((kT X.K r).is as).P)
    (Pv : Nat → L2.St → Hp → Prop) (h0 : ∀ H2, Ex H H2 → Pv 0 σ H2) (hx : ∀ i σ' H' H'', Pv i σ' H' → Ex H' H'' → Pv i σ' H'')
    (hs : ∀ n a v σ' H', as[n]? = some a → r.R H' v a → Pv n σ' H' → ∀ Hb, Ex Hb H' → wS X body { nx := fun σ3 H3 => Ex Hb H3 ∧ Pv (n + 1) σ3 H3, rt := D.rt, ct := fun σ3 H3 => Ex Hb H3 ∧ Pv (n + 1) σ3 H3, bk := wS X rest D } ((σ'.set i (some (.int (n : Nat)))).set j (some v)) H') (hd : ∀ σ' H', Pv as.length σ' H' → wS X rest D σ' H')
    (hg : Gl X "enumerate" := by rfl) (h1 : X.N[i]? = some x := by rfl) (h2 : X.N[j]? = some y := by rfl) (l1 : Loc X.env.scope x := by first | exact Or.inl rfl | exact Or.inr rfl) (l2 : Loc X.env.scope y := by first | exact Or.inl rfl | exact Or.inr rfl)
    (f1 : X.fn x = true ∨ X.env.scope.names.lookup x = some .local := by first | exact .inl rfl | exact .inr rfl) (f2 : X.fn y = true ∨ X.env.scope.names.lookup y = some .local := by first | exact .inl rfl | exact .inr rfl)
    (c1 : (assignEach [.Name x px, .Name y py] X.env).map (·.2) = assign (.Name x px) X.env :: (assignEach [.Name y py] X.env).map (·.2) := by rfl) (c2 : (assignEach [.Name y py] X.env).map (·.2) = assign (.Name y py) X.env :: (assignEach [] X.env).map (·.2) := by rfl)
    (hn : (assignEach [.Name x px, .Name y py] X.env).length = 2 := by rfl) (hst : (assignEach [.Name x px, .Name y py] X.env).findIdx? (·.1) = none := by rfl)
    (hse : starEach [e] X.env = (false, eval e X.env) :: starEach [] X.env := by rfl) (hs1 : starEach [e] X.env = [(false, eval e X.env)] := by rfl)
    (hf : ∀ z, foldedSetIterable (.Call (.Name "enumerate" p) [e] [] apos) X.env z = pure z := by intro _; rfl) :
    wS X (.For (.Tuple [.Name x px, .Name y py] kk tpos) (.Call (.Name "enumerate" p) [e] [] apos) body [] pos :: rest) D σ H :=
  wS.cons (ps_for hp hc (pi_enumT hg hm (pa_cons pE pa_nil hse) hs1) (pg_tup hc (pgs_cons (pg_name hN h1 l1 f1) (pgs_cons (pg_name hN h2 l2 f2) pgs_nil c2) c1) hn hst) pS hf) (he H ex_refl _ fun v H2 e2 ⟨q, xs, ev, hq, hxs⟩ => ⟨q, xs, by rw [ev], hq, by
    have hw := walk_enumT (K := X.K) (a := q) (xs := xs)
    refine for_it (D := { D with nx := wS X rest D }) hw (fun n σ' H' => Ex H2 H' ∧ Pv n σ' H') ⟨ex_refl, h0 H2 e2⟩ (fun n σ' H' _ p => ex_sqt p.1 hq) (fun n z σ' H1 H' hlt p y => ?_) fun σ' H' p => hd σ' H' (by rw [← pd_len hxs]; exact p.2)
    obtain ⟨T, u, w, rfl, hT, rfl, hu, hw⟩ := y
    cases hu
    obtain ⟨a, ha, hr⟩ := pd_get hxs hw
    have eT : Ex H1 (upd H1 T (.tup [.int (n : Nat), w])) := ex_new hT
    exact ⟨T, _, rfl, SqT.of upd_same, rfl, _, _, rfl, _, _, rfl, rfl, hs n a w σ' _ ha (r.mono (p.1.trans eT) hr) (hx _ _ _ _ p.2 eT) H2 (p.1.trans eT)⟩⟩)
end
/-! ### number_of, joined -/
def RNumOf (K : PySem.W.Frag) (C : Addr) : List MP → MP → Prop := fun ms m => ∃ ts : List Int, ms = [(rW K C).is ts] ∧ ts ≠ [] ∧ tot ts ≤ 90 ∧ m = (rNm K).is (numL ts)
def RJoin (K : PySem.W.Frag) (C : Addr) : List MP → MP → Prop := fun ms m => ∃ u v : List Int, ms = [(rW K C).is u, (rW K C).is v] ∧ u ≠ [] ∧ v ≠ [] ∧ u.length + v.length ≤ 1000 ∧ m = (rW K C).is (redL (joinL (backL u) v))
abbrev N37 : List Str := ["walk", "number", "place", "k"]
theorem sc37 : FnScope N37 ["walk"] (defScope (top 37)) := ⟨rfl, rfl, rfl, by decide +kernel, rfl, by decide +kernel, by decide +kernel⟩
theorem sc43 : FnScope ["first", "second"] ["first", "second"] (defScope (top 43)) := ⟨rfl, rfl, rfl, by decide +kernel, rfl, by decide +kernel, by decide +kernel⟩
/-- the number behind the first i turns (before the first: of no walk) -/
def numI (ts : List Int) (i : Nat) : Nm := numL (ts.take i)
section
variable {P : Program} {w : World} {K : PySem.W.Frag} {mg : Str → Option Value} {base : Heap} {f : Addr} {fd : FuncData} {C : Addr}
theorem ok_numof (F : Fun K "number_of" "number_of" (top 37) f fd) (T : Txt K mg) (W : TxtW K C) (hm : mg "number_of" = some (.ref f)) (hb : Binds K fd ["walk"] []) (C1 : Cal P w K mg base 1 "one" [] (spM (ROne K))) (Ct : CTn P w K mg base) (Cg : CGn P w K mg base) :
    Cal P w K mg base 5 "number_of" ["walk"] (spM (RNumOf K C)) := by
  refine Cal.pure F sc37 hm hb (fun ms m ⟨_, h, _⟩ => by rw [h]; rfl) (fun cdv A outer s H vs E ms m hr hv hR => ?_)
  obtain ⟨ts, rfl, hne, htt, rfl⟩ := hR
  obtain ⟨v, rfl, h0⟩ := pd1 hv
  refine s_set (i := 1) sc37.nd (e_call0 C1 (hr.mono (by decide)) ⟨rfl, rfl⟩) (fun v1 H1 e1 q1 => ?_)
  refine s_forE (i := 2) (j := 3) (r := kI) (as := ts) rfl PassesOwn.never sc37.nd T.enumerate (e_turns W (vX (r := rW K C) 0 ((rW K C).mono e1 h0)))
    (fun i σ' H' => ∃ vn a b, σ' = [some v, some vn, a, b] ∧ Ex H H' ∧ (rNm K).R H' vn (numI ts i)) (fun H2 e2 => ⟨v1, _, _, rfl, e1.trans e2, (rNm K).mono e2 q1⟩) (fun i σ' H' H'' ⟨vn, a, b, h1, h2, h3⟩ e => ⟨vn, a, b, h1, h2.trans e, (rNm K).mono e h3⟩) ?_ ?_
  · rintro i k y σ' H' hi hy ⟨vn, a, b, rfl, he, hq⟩ Hb eb
    obtain rfl : y = .int k := hy
    have hlt : i < ts.length := (List.getElem?_eq_some_iff.mp hi).1
    have ht2 : ts.take (i + 1) = ts.take i ++ [k] := by rw [List.take_add_one, hi]; rfl
    have tt1 := tot_take ts i
    have tt2 := tot_take ts (i + 1)
    rw [ht2, tot_append, tot_cons, tot_nil] at tt2
    rcases Nat.eq_zero_or_pos i with hz | hpos
    · subst hz
      refine s_when (t_gt (vI 2) e_int) (fun h => absurd h (by decide)) (fun _ H2 e2 => ?_)
      refine s_set (i := 1) sc37.nd (e_call Ct hr (a_cons (vX (r := rNm K) 1 ((rNm K).mono e2 hq)) (a_cons (vI 3) a_nil)) ⟨_, 1, k, rfl, NB.one (by omega) (by omega), by omega, rfl⟩) (fun v2 H3 e3 q3 => ?_)
      refine s_nil ⟨(eb.trans e2).trans e3, v2, _, _, rfl, (he.trans e2).trans e3, ?_⟩
      have : numI ts (0 + 1) = trn k (numI ts 0) := by unfold numI; rw [ht2]; rfl
      rw [this]; exact q3
    · have hne2 : ts.take i ≠ [] := by
        intro z; have := congrArg List.length z; rw [List.length_take, List.length_nil] at this; omega
      have bx : NB (numI ts i) (1 + tot (ts.take i)) (1 + tot (ts.take i)) := numL_box hne2
      refine s_when (t_gt (vI 2) e_int) (fun _ H2 e2 => ?_) (fun h => absurd (show (0 : Int) < (i : Int) by omega) (of_decide_eq_false h))
      refine s_set (i := 1) sc37.nd (e_call Cg (hr.mono (by decide)) (a_cons (vX (r := rNm K) 1 ((rNm K).mono e2 hq)) a_nil) ⟨_, _, rfl, ⟨bx, by omega⟩, rfl⟩) (fun v2 H3 e3 q3 => s_nil ?_)
      refine s_set (i := 1) sc37.nd (e_call Ct hr (a_cons (vX (r := rNm K) 1 q3) (a_cons (vI 3) a_nil)) ⟨_, _, k, rfl, bx.gn, by omega, rfl⟩) (fun v3 H4 e4 q4 => ?_)
      refine s_nil ⟨((eb.trans e2).trans e3).trans e4, v3, _, _, rfl, ((he.trans e2).trans e3).trans e4, ?_⟩
      have : numI ts (i + 1) = trn k (gn (numI ts i)) := by unfold numI; rw [ht2]; exact numL_snoc hne2 k
      rw [this]; exact q4
  · rintro σ' H' ⟨vn, a, b, rfl, he, hq⟩
    refine s_ret (vX (r := rNm K) 1 hq) fun v' H2 e2 q => ⟨he.trans e2, ?_⟩
    have : numI ts ts.length = numL ts := by unfold numI; rw [List.take_length]
    rw [this] at q; exact q
theorem ok_joined (F : Fun K "joined" "joined" (top 43) f fd) (W : TxtW K C) (hm : mg "joined" = some (.ref f)) (hb : Binds K fd ["first", "second"] []) (On : Own P w K mg base 3 C "__neg__" ["self"] (spM (RNegW K C))) (Oa : Own P w K mg base 3 C "__add__" ["self", "other"] (spM (RAddW K C)))
    (Ord : Own P w K mg base 3 C "reduced" ["self"] (spM (RRedW K C))) : Cal P w K mg base 4 "joined" ["first", "second"] (spM (RJoin K C)) := by
  refine Cal.pure F sc43 hm hb (fun ms m ⟨_, _, h, _⟩ => by rw [h]; rfl) (fun cdv A outer s H vs E ms m hr hv hR => ?_)
  obtain ⟨u, v, rfl, hu, hv0, hl, rfl⟩ := hR
  obtain ⟨x, y, rfl, q1, q2⟩ := pd2 hv
  have hlb : (backL u).length = u.length := by unfold backL; simp
  have hnb : backL u ≠ [] := by intro z; rw [z] at hlb; exact hu (List.length_eq_zero_iff.mp hlb.symm)
  have hlj : (joinL (backL u) v).length ≤ 1000 := by unfold joinL; have := List.length_pos_iff.mpr hv0; simp [hlb]; omega
  exact s_ret (e_meth0 Ord hr W.cl (e_addO Oa hr W.sf (e_unO On hr (vX (r := rW K C) 0 q1) (rW_ins (by decide +kernel) (by decide +kernel) (by decide +kernel)) ⟨u, rfl, by omega, rfl⟩) (vX (r := rW K C) 1 q2) (rW_ins (by decide +kernel) (by decide +kernel) (by decide +kernel)) (rW_ins (by decide +kernel) (by decide +kernel) (by decide +kernel)) ⟨_, _, rfl, hnb, hv0, by omega, rfl⟩)
    (rW_ins (by decide +kernel) (by decide +kernel) (by decide +kernel)) ⟨_, rfl, hlj, rfl⟩) fun v' H2 e2 q => ⟨e2, q⟩
end
end Wf
/-! D8: step. -/
namespace Wf
open PySem PySem.Spec PyProof.Rows L2 Wp
def RStep : List MP → MP → Prop := fun ms m => ∃ k : Int, ms = [kI.is k] ∧ 0 ≤ k ∧ k ≤ 60 ∧ m = (kL kI).is (stepL k.toNat)
abbrev N20 : List Str := ["k", "older", "newer", "count", "following", "at"]
theorem sc20 : FnScope N20 ["k"] (defScope (top 20)) := ⟨rfl, rfl, rfl, by decide +kernel, rfl, by decide +kernel, by decide +kernel⟩
theorem ixN_nat {n i : Nat} (h : i < n) : ixN n (i : Int) = some i := by
  unfold ixN; rw [if_pos (by omega), if_pos (by omega)]; rfl
section
variable {P : Program} {w : World} {K : PySem.W.Frag} {mg : Str → Option Value} {base : Heap} {f : Addr} {fd : FuncData} {C : Addr}
theorem ok_step (F : Fun K "step" "step" (top 20) f fd) (T : Txt K mg) (hm : mg "step" = some (.ref f)) (hb : Binds K fd ["k"] []) : Cal P w K mg base 1 "step" ["k"] (spM RStep) := by
  refine Cal.pure F sc20 hm hb (fun ms m ⟨_, h, _⟩ => by rw [h]; rfl) (fun cdv A outer s H vs E ms m hr hv hR => ?_)
  obtain ⟨k, rfl, hk0, hk, rfl⟩ := hR
  obtain ⟨v, rfl, rfl⟩ := pd1 hv
  refine s_setN (i := 1) sc20.nd n_nilI (fun ao xs H1 e1 ha hxs => ?_)
  cases hxs
  refine s_setN (i := 2) (r := kI) (as := [1]) sc20.nd (n_lst (a_cons e_int a_nil) (by decide)) (fun an xs H2 e2 hn hxs => ?_)
  obtain rfl := pd_int.mp hxs
  have exA : Ex H (upd H2 an (.lst ([(1 : Int)].map V.int))) := ((e1.trans (ex_new ha)).trans e2).trans (ex_new hn)
  have hao : upd H2 an (.lst ([(1 : Int)].map V.int)) ao = some (.lst (([] : List Int).map V.int)) := (ex_new hn) _ _ (e2 _ _ upd_same)
  refine s_when (t_eqI (vI 0) e_int) (fun h H3 e3 => ?_) (fun h H3 e3 => ?_)
  · have hk' : k = 0 := of_decide_eq_true h
    subst hk'
    exact s_ret (vX (r := kL kI) (a := ([] : List Int)) 1 (kL_ints (e3 _ _ hao))) fun v' H4 e4 q => ⟨(exA.trans e3).trans e4, q⟩
  have hk' : k ≠ 0 := of_decide_eq_false h
  refine s_forM rfl PassesOwn.never (pi_range1 (by rfl) T.range pA) (pg_name (i := 3) sc20.nd rfl (.inl rfl)) (src_r1 (Hb := H) (a_cons (e_sub (vI 0) e_int) a_nil) (by omega) (by omega))
    (fun i σ' H' => ∃ (ao an : Addr) (vc vf va : Option V), σ' = [some (.int k), some (.ref ao), some (.ref an), vc, vf, va] ∧ Ex H H' ∧ H' ao = some (.lst ((sIter i).1.map V.int)) ∧ H' an = some (.lst ((sIter i).2.map V.int)))
    (fun H4 e4 => ⟨ao, an, _, _, _, rfl, (exA.trans e3).trans e4, e4 _ _ (e3 _ _ hao), e4 _ _ (e3 _ _ upd_same)⟩) (fun i σ' H' ⟨_, _, _, _, _, _, e, _⟩ => e) ?_ ?_
  · rintro i a x σ' H' hi hx ⟨ao, an, vc, vf, va, rfl, he, hO, hN⟩
    obtain ⟨hlt, rfl⟩ := iota_get hi
    obtain ⟨l1, l2⟩ := sIter_len i
    have hlt' : i < 60 := by omega
    refine s_setN (i := 4) (r := kI) (as := [0] ++ (sIter i).2) sc20.nd (n_cat (EvN.evp (n_lst (r := kI) (as := [0]) (a_cons e_int a_nil) (by decide))) (vX (r := kL kI) (v := .ref an) 2 (kL_ints hN)) (by simp; omega)) (fun af xs H4 e4 hf hxs => ?_)
    obtain rfl := pd_int.mp hxs
    have hHf : H af = none := Evl.fresh_back (he.trans e4) hf
    have haf : ao ≠ af := ne_of_none (e4 _ _ hO) hf
    have hnf : an ≠ af := ne_of_none (e4 _ _ hN) hf
    refine s_forM rfl PassesOwn.never (pi_range1 (by rfl) T.range pA) (pg_name (i := 5) sc20.nd rfl (.inl rfl)) (src_r1 (Hb := H) (n := ((sIter i).1.length : Int)) (a_cons (e_lenL (r := kI) T.len (vX (r := kL kI) (v := .ref ao) 1 (kL_ints ((ex_new hf) _ _ (e4 _ _ hO))))) a_nil) (by omega) (by omega))
      (fun j σ' H' => ∃ va, σ' = [some (.int k), some (.ref ao), some (.ref an), x, some (.ref af), va] ∧ Ex H H' ∧ H' ao = some (.lst ((sIter i).1.map V.int)) ∧ H' an = some (.lst ((sIter i).2.map V.int)) ∧ H' af = some (.lst ((subL (0 :: (sIter i).2) ((sIter i).1.take j)).map V.int)))
      (fun H5 e5 => ⟨_, rfl, ((he.trans e4).trans (ex_new hf)).trans e5, e5 _ _ ((ex_new hf) _ _ (e4 _ _ hO)), e5 _ _ ((ex_new hf) _ _ (e4 _ _ hN)), by rw [e5 _ _ upd_same]; simp [subL]⟩) (fun j σ' H' ⟨_, _, e, _⟩ => e) ?_ ?_
    · rintro j a x2 σ' H' hj hx2 ⟨va, rfl, he2, hO2, hN2, hF2⟩
      obtain ⟨hjt, rfl⟩ := iota_get hj
      obtain rfl : x2 = .int (0 + (j : Int)) := hx2
      have hj1 : j < (sIter i).1.length := by omega
      obtain ⟨y, hy⟩ : ∃ y, (sIter i).1[j]? = some y := ⟨_, List.getElem?_eq_getElem hj1⟩
      obtain ⟨z, hz⟩ : ∃ z, (0 :: (sIter i).2)[j]? = some z := ⟨_, List.getElem?_eq_getElem (by rw [List.length_cons]; omega)⟩
      obtain ⟨s1, s2⟩ := subL_next hz hy
      have e0 : (0 : Int) + (j : Int) = (j : Int) := by omega
      refine s_augL (p := af) (n := (j : Int)) (a := z) (b := y) (j := j) ip_sub hF2 (e_nm (i := 4) rfl) (e_var (i := 5) (v := .int (0 + (j : Int))) rfl (fun _ _ => by rw [e0]; rfl)) (ixN_nat (by rw [List.length_map, subL_len, List.length_cons]; omega)) (by rw [List.getElem?_map, s1]; rfl)
        (e_ixL (i := (j : Int)) (vX (r := kL kI) (v := .ref ao) 1 (kL_ints hO2)) (e_var (i := 5) (v := .int (0 + (j : Int))) rfl (fun _ _ => by rw [e0]; rfl)) (atI_nat hy)) fun H6 e6 => ?_
      refine s_nil ⟨_, rfl, Evl.Ex.mut (he2.trans e6) hHf, by rw [upd_ne haf]; exact e6 _ _ hO2, by rw [upd_ne hnf]; exact e6 _ _ hN2, ?_⟩
      rw [upd_same, ← s2, List.map_set]
    · rintro σ' H' ⟨va, rfl, he2, hO2, hN2, hF2⟩
      have e1 : (iota 0 ((((sIter i).1.length : Nat) : Int).toNat)).length = (sIter i).1.length := by rw [iota_len]; omega
      rw [e1, List.take_length] at hF2
      refine s_set (i := 1) sc20.nd (e_nm (i := 2) rfl) (fun v1 H5 e5 q1 => ?_)
      subst q1
      refine s_set (i := 2) sc20.nd (e_nm (i := 4) rfl) (fun v2 H6 e6 q2 => ?_)
      subst q2
      exact s_nil ⟨an, af, _, _, _, rfl, (he2.trans e5).trans e6, e6 _ _ (e5 _ _ hN2), e6 _ _ (e5 _ _ hF2)⟩
  · rintro σ' H' ⟨ao, an, vc, vf, va, rfl, he, hO, hN⟩
    refine s_ret (vX (r := kL kI) (v := .ref an) 2 (kL_ints hN)) fun v' H4 e4 q => ⟨he.trans e4, ?_⟩
    have : (sIter (iota 0 ((k - 1).toNat)).length).2 = stepL k.toNat := by
      rw [iota_len]; unfold stepL; rw [if_neg (by omega)]; congr 2; omega
    rw [this] at q; exact q
end
end Wf
/-! D9: rows as dicts: rows_of, terms_of. -/
namespace Wf
open PySem PySem.Spec PyProof.Rows L2 Wp
/-- the dict of one row holds g -/
structure RowOk (kvs : List (Key × V)) (g : Int → Int) (n : Nat) : Prop where
  shape : ∀ p ∈ kvs, ∃ j c, p = (Sum.inl j, V.int c) ∧ 0 ≤ j ∧ j < n
  val : ∀ j, (valV kvs (.inl j)).getD (.int 0) = V.int (g j)
  nd : (kvs.map (·.1)).Nodup
theorem RowOk.nil {n : Nat} : RowOk [] (fun _ => 0) n := ⟨by simp, fun j => rfl, .nil⟩
theorem inl_iff {i j : Int} : (Sum.inl i : Key) = Sum.inl j ↔ i = j := ⟨fun h => Sum.inl.inj h, fun h => by rw [h]⟩
theorem RowOk.put {kvs : List (Key × V)} {g : Int → Int} {n : Nat} (h : RowOk kvs g n) {j : Int} (c : Int) (h0 : 0 ≤ j) (hn : j < n) : RowOk (putK kvs (.inl j) (.int c)) (fun b => if b = j then c else g b) n := by
  refine ⟨fun p hp => ?_, fun b => ?_, ?_⟩
  · unfold putK at hp
    split at hp
    · obtain ⟨q, hq, rfl⟩ := List.mem_map.mp hp
      split
      · rename_i e; exact ⟨j, c, by rw [e], h0, hn⟩
      · exact h.shape q hq
    · rcases List.mem_append.mp hp with hp | hp
      · exact h.shape p hp
      · exact ⟨j, c, by simpa using hp, h0, hn⟩
  · rw [valV_put]
    by_cases e : b = j
    · rw [if_pos (inl_iff.mpr e), if_pos e]; rfl
    · rw [if_neg (fun z => e (inl_iff.mp z)), if_neg e]; exact h.val b
  · cases e : valV kvs (.inl j) with
    | none =>
      rw [putK_new _ e, List.map_append, List.nodup_append]
      refine ⟨h.nd, by simp, fun a ha b hb => ?_⟩
      have : b = .inl j := by simpa using hb
      subst this
      rintro rfl
      exact valV_not e ha
    | some v =>
      have ha : (kvs.any fun kv => decide (kv.1 = Sum.inl j)) = true := by rw [valV_any, e]; rfl
      unfold putK
      rw [if_pos ha, List.map_map]
      have : ((fun x : Key × V => x.1) ∘ fun kv => if kv.1 = Sum.inl j then (kv.1, V.int c) else kv) = fun x => x.1 := by
        funext x; simp only [Function.comp]; split <;> rfl
      rw [this]; exact h.nd
theorem RowOk.ext {kvs : List (Key × V)} {g g' : Int → Int} {n : Nat} (h : RowOk kvs g n) (e : ∀ j, g j = g' j) : RowOk kvs g' n := by
  have : g = g' := funext e
  rw [← this]; exact h
def keyI : Key → Int
  | .inl j => j
  | .inr _ => 0
def rowKeys (kvs : List (Key × V)) : List Int := kvs.map fun p => keyI p.1
def rowVal (kvs : List (Key × V)) (j : Int) : Int := match valV kvs (.inl j) with
  | some (.int c) => c
  | _ => 0
theorem RowOk.rv {kvs : List (Key × V)} {g : Int → Int} {n : Nat} (h : RowOk kvs g n) (j : Int) : rowVal kvs j = g j := by
  have := h.val j
  unfold rowVal
  cases e : valV kvs (.inl j) with
  | none => rw [e] at this; injection this
  | some v => rw [e] at this; rw [show v = V.int (g j) from this]
theorem RowOk.keys {kvs : List (Key × V)} {g : Int → Int} {n : Nat} (h : RowOk kvs g n) : (rowKeys kvs).Nodup ∧ (∀ j ∈ rowKeys kvs, 0 ≤ j ∧ j < n ∧ valV kvs (.inl j) = some (.int (g j))) ∧ ∀ j, g j ≠ 0 → j ∈ rowKeys kvs := by
  refine ⟨?_, fun j hj => ?_, fun j hg => ?_⟩
  · have nd := h.nd
    unfold rowKeys
    rw [List.nodup_iff_pairwise_ne, List.pairwise_map] at nd ⊢
    refine nd.imp_of_mem fun {p q} hp hq ne e => ?_
    obtain ⟨i, c, rfl, _⟩ := h.shape p hp
    obtain ⟨i', c', rfl, _⟩ := h.shape q hq
    exact ne (inl_iff.mpr e)
  · obtain ⟨p, hp, rfl⟩ := List.mem_map.mp hj
    obtain ⟨i, c, rfl, h0, hn⟩ := h.shape p hp
    refine ⟨h0, hn, ?_⟩
    show valV kvs (.inl i) = some (.int (g i))
    have v := h.val i
    cases e : valV kvs (.inl i) with
    | none => exact absurd (List.mem_map.mpr ⟨_, hp, rfl⟩) (valV_not e)
    | some x => rw [e] at v; exact congrArg some v
  · have v := h.val j
    cases e : valV kvs (.inl j) with
    | none => rw [e] at v; injection v with v; exact absurd v.symm hg
    | some x =>
      obtain ⟨p, hp, e2⟩ := List.mem_map.mp (valV_in e)
      exact List.mem_map.mpr ⟨p, hp, by rw [e2]; rfl⟩
theorem RowOk.len {kvs : List (Key × V)} {g : Int → Int} {n : Nat} (h : RowOk kvs g n) : kvs.length ≤ n := by
  have h1 : ((rowKeys kvs).map Int.toNat).Nodup := by
    have := h.keys.1
    rw [List.nodup_iff_pairwise_ne, List.pairwise_map]
    rw [List.nodup_iff_pairwise_ne] at this
    refine this.imp_of_mem fun {a b} ha hb ne e => ?_
    have := h.keys.2.1 a ha
    have := h.keys.2.1 b hb
    omega
  have := nodup_len (n := n) h1 fun x hx => by
    obtain ⟨j, hj, rfl⟩ := List.mem_map.mp hx
    have := h.keys.2.1 j hj
    omega
  simpa [rowKeys] using this
theorem coef_keys (i : Int) (F : Int → Int) : ∀ (ks : List Int), ks.Nodup → ∀ a b, coef (ks.map fun j => (i, j, F j)) a b = if a = i ∧ b ∈ ks then F b else 0
  | [], _, a, b => by simp [coef]
  | k :: ks, hn, a, b => by
    rw [List.map_cons, coef_cons, coef_keys i F ks (List.nodup_cons.mp hn).2]
    have nk := (List.nodup_cons.mp hn).1
    by_cases ha : a = i
    · subst ha
      by_cases hb : b = k
      · subst hb; simp [nk]
      · simp [hb, Ne.symm hb]
    · simp [ha, Ne.symm ha]
theorem RowOk.coef {kvs : List (Key × V)} {g : Int → Int} {n : Nat} (h : RowOk kvs g n) (i a b : Int) : coef ((rowKeys kvs).map fun j => (i, j, rowVal kvs j)) a b = if a = i then g b else 0 := by
  rw [coef_keys i _ _ h.keys.1]
  by_cases ha : a = i
  · by_cases hb : b ∈ rowKeys kvs
    · rw [if_pos ⟨ha, hb⟩, if_pos ha, h.rv]
    · rw [if_neg (fun z => hb z.2), if_pos ha]
      by_cases z : g b = 0
      · exact z.symm
      · exact absurd (h.keys.2.2 b z) hb
  · rw [if_neg (fun z => ha z.1), if_neg ha]
/-- the function that rows hold -/
def rowsC (gs : List (Int → Int)) : C := fun i j => if 0 ≤ i then (match gs[i.toNat]? with | some g => g j | none => 0) else 0
def rowsTerms (o : Nat) : List (List (Key × V)) → Po
  | [] => []
  | kvs :: r => ((rowKeys kvs).map fun j => ((o : Int), j, rowVal kvs j)) ++ rowsTerms (o + 1) r
theorem rowsTerms_coef {n : Nat} : ∀ {kvss : List (List (Key × V))} {gs : List (Int → Int)} (o : Nat), Paired (fun kvs g => RowOk kvs g n) kvss gs → ∀ a b, coef (rowsTerms o kvss) a b = rowsC gs (a - o) b
  | _, _, o, .nil, a, b => by simp [rowsTerms, coef, rowsC]
  | _, _, o, .cons (a := kvs) (b := g) (l₁ := r) (l₂ := gs) h t, a, b => by
    simp only [rowsTerms]
    rw [coef_append, h.coef, rowsTerms_coef (o + 1) t]
    unfold rowsC
    by_cases e : a = (o : Int)
    · subst e
      have : ¬ (0 : Int) ≤ (o : Int) - ((o + 1 : Nat) : Int) := by omega
      rw [if_pos rfl, if_neg this]; simp
    · rw [if_neg e]
      by_cases p : 0 ≤ a - (o : Int)
      · have p2 : 0 ≤ a - ((o + 1 : Nat) : Int) := by omega
        rw [if_pos p, if_pos p2, show (a - (o : Int)).toNat = (a - ((o + 1 : Nat) : Int)).toNat + 1 by omega]
        simp
      · have p2 : ¬ 0 ≤ a - ((o + 1 : Nat) : Int) := by omega
        rw [if_neg p, if_neg p2]; rfl
theorem rowsTerms_len {n : Nat} : ∀ {kvss : List (List (Key × V))} {gs : List (Int → Int)} (o : Nat), Paired (fun kvs g => RowOk kvs g n) kvss gs → (rowsTerms o kvss).length ≤ kvss.length * n
  | _, _, o, .nil => by simp [rowsTerms]
  | _, _, o, .cons (l₁ := r) (l₂ := gs) h t => by
    have := rowsTerms_len (o + 1) t
    have := h.len
    simp only [rowsTerms, List.length_append, List.length_map, rowKeys, List.length_cons, Nat.succ_mul]
    omega
theorem rowsTerms_flat : ∀ (kvss : List (List (Key × V))) (o : Nat), rowsTerms o kvss = (kvss.zipIdx o).flatMap fun a => (rowKeys a.1).map fun j => ((a.2 : Int), j, rowVal a.1 j)
  | [], o => rfl
  | kvs :: r, o => by simp only [rowsTerms, List.zipIdx_cons, List.flatMap_cons, rowsTerms_flat r (o + 1)]
theorem rowsC_box {n : Nat} {kvss : List (List (Key × V))} {gs : List (Int → Int)} (h : Paired (fun kvs g => RowOk kvs g n) kvss gs) : Box (rowsC gs) gs.length n := fun i j q => by
  unfold rowsC at q
  split at q
  · rename_i hi
    cases e : gs[i.toNat]? with
    | none => rw [e] at q; simp at q
    | some g =>
      rw [e] at q
      have := (List.getElem?_eq_some_iff.mp e).1
      obtain ⟨kvs, _, hr⟩ := pd_get' h e
      have := hr.keys.2.1 j (hr.keys.2.2 j q)
      omega
  · simp at q
/-- one row's dict, a list of rows -/
def rRow (n : Nat) : Rep (Int → Int) := ⟨fun H v g => ∃ d kvs, v = .ref d ∧ H d = some (.dK kvs) ∧ RowOk kvs g n, fun e ⟨d, kvs, h1, h2, h3⟩ => ⟨d, kvs, h1, e _ _ h2, h3⟩⟩
end Wf
/-! D10: terms_of. -/
namespace Wf
open PySem PySem.Spec PyProof.Rows L2 Wp
theorem EvN.use {α : Type} {te : TE} {σ : L2.St} {H : Hp} {r : Rep α} {as : List α} {Q : VK} (h : EvN te σ H r as) (k : ∀ p xs H2, Ex H H2 → H2 p = none → Paired (r.R H2) xs as → Q (.ref p) (upd H2 p (.lst xs))) : te σ H Q := h H ex_refl Q k
abbrev RowD := Addr × List (Key × V)
/-- H with the dicts of l as they were in H0 -/
def thaw (H0 H : Hp) (l : List RowD) : Hp := fun b => if b ∈ l.map (·.1) then H0 b else H b
theorem thaw_in {H0 H : Hp} {l : List RowD} {b : Addr} (h : b ∈ l.map (·.1)) : thaw H0 H l b = H0 b := by unfold thaw; rw [if_pos h]
theorem thaw_out {H0 H : Hp} {l : List RowD} {b : Addr} (h : b ∉ l.map (·.1)) : thaw H0 H l b = H b := by unfold thaw; rw [if_neg h]
/-- an expression while the dicts of l are locked -/
theorem lockAll {X : Cx} {e : Expr} {σ : L2.St} : ∀ (l : List RowD) (H : Hp) (Q : VK), (∀ p ∈ l, H p.1 = some (.dK p.2)) →
    (∀ Hf, (∀ b, b ∉ l.map (·.1) → Hf b = H b) → (∀ p ∈ l, ∃ od, Hf p.1 = some (.frz od (.dK p.2))) → wE X e σ Hf fun v H' => (∀ p ∈ l, H' p.1 = Hf p.1) ∧ Q v (thaw H H' l)) → wE X e σ H Q
  | [], H, Q, _, w => (w H (fun _ _ => rfl) (by simp)).mono fun v H' q => by
    have : thaw H H' [] = H' := by funext b; exact thaw_out (by simp)
    rw [this] at q; exact q.2
  | p :: l, H, Q, hl, w => by
    by_cases hin : p.1 ∈ l.map (·.1)
    · refine lockAll l H Q (fun q hq => hl q (by simp [hq])) fun Hf h1 h2 => ?_
      obtain ⟨q, hq, e⟩ := List.mem_map.mp hin
      have e2 : q.2 = p.2 := by
        have a := hl q (by simp [hq])
        have b := hl p (by simp)
        rw [e, b] at a
        injection a with a; injection a with a; exact a.symm
      have mem : ∀ b, b ∈ (p :: l).map (·.1) ↔ b ∈ l.map (·.1) := fun b => by
        rw [List.map_cons, List.mem_cons]
        exact ⟨fun h => h.elim (fun z => z ▸ hin) id, Or.inr⟩
      refine (w Hf (fun b hb => h1 b fun z => hb ((mem b).mpr z)) fun r hr => ?_).mono fun v H' z => ⟨fun r hr => z.1 r (by simp [hr]), ?_⟩
      · rcases List.mem_cons.mp hr with rfl | hr
        · obtain ⟨od, h⟩ := h2 q hq
          exact ⟨od, by rw [← e, h, e2]⟩
        · exact h2 r hr
      · have : thaw H H' (p :: l) = thaw H H' l := by
          funext b
          by_cases hb : b ∈ l.map (·.1)
          · rw [thaw_in hb, thaw_in ((mem b).mpr hb)]
          · rw [thaw_out hb, thaw_out fun z => hb ((mem b).mp z)]
        rw [← this]; exact z.2
    · refine wE.of (pe_lock pE) ⟨p.1, .dK p.2, hl p (by simp), trivial, fun od => ?_⟩
      refine lockAll l (upd H p.1 (.frz od (.dK p.2))) _ (fun q hq => ?_) fun Hf h1 h2 => ?_
      · rw [upd_ne (fun z => hin (List.mem_map.mpr ⟨q, hq, z⟩))]; exact hl q (by simp [hq])
      · have hp : Hf p.1 = some (.frz od (.dK p.2)) := by rw [h1 _ hin, upd_same]
        refine (w Hf (fun b hb => ?_) fun r hr => ?_).mono fun v H' z => ⟨fun r hr => z.1 r (by simp [hr]), ?_, ?_⟩
        · rw [List.map_cons, List.mem_cons, not_or] at hb
          rw [h1 b hb.2, upd_ne hb.1]
        · rcases List.mem_cons.mp hr with rfl | hr
          · exact ⟨od, hp⟩
          · exact h2 r hr
        · rw [thaw_out hin, z.1 p (by simp), hp]
        · have : upd (thaw (upd H p.1 (.frz od (.dK p.2))) H' l) p.1 (.dK p.2) = thaw H H' (p :: l) := by
            funext b
            by_cases hb : b = p.1
            · subst hb; rw [upd_same, thaw_in (by simp)]; exact (hl p (by simp)).symm
            · rw [upd_ne hb]
              by_cases hb2 : b ∈ l.map (·.1)
              · rw [thaw_in hb2, thaw_in (by simp only [List.map_cons, List.mem_cons]; exact .inr hb2), upd_ne hb]
              · rw [thaw_out hb2, thaw_out (by simp only [List.map_cons, List.mem_cons, not_or]; exact ⟨hb, hb2⟩)]
          rw [this]; exact z.2
/-- a locked row -/
def rRowF : Rep RowD := ⟨fun H v a => v = .ref a.1 ∧ ∃ od, H a.1 = some (.frz od (.dK a.2)), fun e ⟨h1, od, h2⟩ => ⟨h1, od, e _ _ h2⟩⟩
/-- (number, row) as a pair just made -/
def rIx {α : Type} (r : Rep α) : Rep (α × Nat) := ⟨fun H v a => ∃ T y, v = .ref T ∧ H T = some (.tup [.int (a.2 : Int), y]) ∧ r.R H y a.1, fun e ⟨T, y, h1, h2, h3⟩ => ⟨T, y, h1, e _ _ h2, r.mono e h3⟩⟩
section
variable {α : Type} {X : Cx} {σ : L2.St} {H Hb : Hp} {e : Expr} {ta : TA}
theorem srcE_enum {r : Rep α} {as : List α} (h : EvA ta σ H [(kL r).is as]) : SrcE (iEnum X.K ta) σ H (rIx r) (as.zipIdx) := fun H1 e1 R k => h H1 e1 _ fun vs H2 e2 hv => by
  obtain ⟨v, rfl, p, xs, rfl, hp, hxs⟩ := pd1 hv
  have hw := walk_enum (K := X.K) (a := p) (xs := xs)
  have hl : (as.zipIdx).length = xs.length := by rw [List.length_zipIdx, pd_len hxs]
  refine ⟨p, xs, rfl, SqL.of hp, k _ H2 _ _ e2 (by rw [hl]; exact hw) (fun H' e3 => SqL.of (e3 _ _ hp)) fun i H x H' y => ?_⟩
  obtain ⟨T, u, z, rfl, hT, rfl, hu, hz⟩ := y
  cases hu
  obtain ⟨a, ha, hr⟩ := pd_get hxs hz
  refine ⟨(a, i), by rw [List.getElem?_zipIdx, ha]; simp, fun Hd D o eq hn he => ?_⟩
  have hTD : T ≠ D := fun z => by subst z; rw [eq, upd_same] at hT; cases hT
  have hdT : Hd T = none := by rw [eq, upd_ne hTD] at hT; exact hT
  refine ⟨upd Hd T (.tup [.int (i : Int), z]), ?_, by rw [upd_ne hTD.symm]; exact hn, ex_new hdT, T, z, rfl, upd_same, r.mono (he.trans (ex_new hdT)) hr⟩
  rw [eq]
  funext b
  by_cases hb : b = T
  · subst hb; rw [upd_same, upd_ne hTD, upd_same]
  · rw [upd_ne hb]
    by_cases hb2 : b = D
    · subst hb2; rw [upd_same, upd_same]
    · rw [upd_ne hb2, upd_ne hb2, upd_ne hb]
theorem g_ix {K : PySem.W.Frag} {r : Rep α} {i j : Nat} {a : α × Nat} {x w : V} {σ : L2.St} {H : Hp} {Q : L2.St → Hp → Prop} (h : (rIx r).R H x a) (hw : ∀ y, r.R H y a.1 → y = w) (q : Q ((σ.set i (some (.int (a.2 : Int)))).set j (some w)) H) : gTup K 2 (gCons (gName i) (gCons (gName j) gNil)) x σ H Q := by
  obtain ⟨p, y, rfl, hs, hy⟩ := h
  exact ⟨p, _, rfl, SqT.of hs, rfl, _, _, rfl, _, _, rfl, rfl, by rw [hw y hy]; exact q⟩
theorem walk_keysY {d : Addr} {o : Obj} {kvs : List (Key × V)} (hk : ∀ p ∈ kvs, ∃ j c, p = (Sum.inl j, V.int c)) : Walk (Itk d o kvs) (rowKeys kvs).length (fun H => H d = some (.frz o (.dK kvs))) (YAt ((rowKeys kvs).map V.int)) := by
  have : (rowKeys kvs).length = kvs.length := by simp [rowKeys]
  rw [this]
  refine walk_keys.mono (fun _ h => h) fun i H x H' hi _ ⟨e, k, v, hk1, hx⟩ => ⟨e, ?_⟩
  obtain ⟨j, c, hp⟩ := hk _ (List.mem_of_getElem? hk1)
  injection hp with h1 h2
  subst h1
  rw [hx, List.getElem?_map, rowKeys, List.getElem?_map, hk1]; rfl
theorem srcM_keys {i : Nat} {q : RowD} {od : Obj} (hi : σ[i]? = some (some (.ref q.1))) (hr : Hb q.1 = some (.frz od (.dK q.2))) (e : Ex Hb H) (hk : ∀ p ∈ q.2, ∃ j c, p = (Sum.inl j, V.int c)) : SrcM (iKeys (tVar i)) σ H Hb kI (rowKeys q.2) := fun R k =>
  ⟨.ref q.1, hi, q.1, od, rfl, .inl ⟨q.2, e _ _ hr, k _ H _ _ ex_refl (pd_int.mpr rfl) (walk_keysY hk) fun H' e4 => e4 _ _ hr⟩⟩
/-- row[j], the row locked -/
theorem e_ixF {d x : Expr} {pos : Pos} {q : RowD} {j c : Int} (hu : X.A.units + 1 < cLine) (hd : EvP (wE X d) σ H (rRowF.is q).P) (hx : EvP (wE X x) σ H (kI.is j).P) (hv : valV q.2 (.inl j) = some (.int c)) (hs : NoSl x := by exact fun _ _ => rfl) : EvP (wE X (.Subscript d x pos)) σ H (kI.is c).P :=
  .of (pe_dget hu pE pE hs) fun H1 e1 Q k => hd H1 e1 _ fun v H2 e2 ⟨hv1, od, hq⟩ => hx H2 (e1.trans e2) _ fun u H3 e3 hu => by
    obtain rfl : u = .int j := hu
    exact ⟨q.1, .int c, hv1, .inl ⟨q.2, .inl j, .inr ⟨od, e3 _ _ hq⟩, rfl, hv.symm⟩, k _ _ (e2.trans e3) rfl⟩
end
def RTerms (K : PySem.W.Frag) : List MP → MP → Prop := fun ms m => ∃ (gs : List (Int → Int)) (n : Nat), ms = [(kL (rRow n)).is gs] ∧ gs.length ≤ 100 ∧ n ≤ 100 ∧ m = (rC K).is (rowsC gs)
abbrev N22 : List Str := ["rows", "i", "row", "j"]
abbrev O22 : List (Str × Nat) := [("i", 1), ("row", 2), ("j", 3)]
theorem sc22 : FnScope N22 ["rows"] (defScope (top 22)) := ⟨rfl, rfl, rfl, by decide +kernel, rfl, by decide +kernel, by decide +kernel⟩
theorem pd_rows {n : Nat} {H : Hp} : ∀ {xs : List V} {gs : List (Int → Int)}, Paired ((rRow n).R H) xs gs → ∃ l : List RowD, xs = l.map (fun p => V.ref p.1) ∧ (∀ p ∈ l, H p.1 = some (.dK p.2)) ∧ Paired (fun kvs g => RowOk kvs g n) (l.map (·.2)) gs
  | _, _, .nil => ⟨[], rfl, by simp, .nil⟩
  | _, _, .cons (l₁ := r) h t => by
    obtain ⟨d, kvs, rfl, h2, h3⟩ := h
    obtain ⟨l, rfl, q2, q3⟩ := pd_rows t
    exact ⟨(d, kvs) :: l, rfl, fun p hp => by rcases List.mem_cons.mp hp with rfl | hp; exact h2; exact q2 p hp, .cons h3 q3⟩
theorem pd_fr {H : Hp} : ∀ {l : List RowD}, (∀ p ∈ l, ∃ od, H p.1 = some (.frz od (.dK p.2))) → Paired (rRowF.R H) (l.map fun p => V.ref p.1) l
  | [], _ => .nil
  | p :: l, h => by
    obtain ⟨od, e⟩ := h p (by simp)
    exact .cons ⟨rfl, od, e⟩ (pd_fr fun q hq => h q (by simp [hq]))
theorem flat_rows (l : List RowD) : rowsTerms 0 (l.map (·.2)) = l.zipIdx.flatMap fun a => (rowKeys a.1.2).map fun j => ((a.2 : Int), j, rowVal a.1.2 j) := by
  rw [rowsTerms_flat, List.zipIdx_map, List.flatMap_map]; rfl
theorem thaw_ex {H0 Hf H' : Hp} {l : List RowD} (h1 : ∀ b, b ∉ l.map (·.1) → Hf b = H0 b) (e : Ex Hf H') : Ex H0 (thaw H0 H' l) := fun b o h => by
  by_cases hb : b ∈ l.map (·.1)
  · rw [thaw_in hb]; exact h
  · rw [thaw_out hb]; exact e b o (by rw [h1 b hb]; exact h)
section
variable {P : Program} {w : World} {K : PySem.W.Frag} {mg : Str → Option Value} {base : Heap} {f : Addr} {fd : FuncData}
theorem ok_terms_of (F : Fun K "terms_of" "terms_of" (top 22) f fd) (T : Txt K mg) (hm : mg "terms_of" = some (.ref f)) (hb : Binds K fd ["rows"] []) (C1 : CCol P w K mg base) : Cal P w K mg base 2 "terms_of" ["rows"] (spM (RTerms K)) := by
  refine Cal.pure F sc22 hm hb (fun ms m ⟨_, _, h, _⟩ => by rw [h]; rfl) (fun cdv A outer s H vs E ms m hr hv hR => ?_)
  obtain ⟨gs, n, rfl, hg, hn, rfl⟩ := hR
  obtain ⟨v, rfl, p, xs, rfl, hp, hxs⟩ := pd1 hv
  obtain ⟨l, rfl, hl, hrows⟩ := pd_rows hxs
  have hll : l.length ≤ 100 := by have := pd_len hxs; rw [List.length_map] at this; omega
  have hlen : (rowsTerms 0 (l.map (·.2))).length ≤ 100000 := by
    have := rowsTerms_len 0 hrows
    rw [List.length_map] at this
    have := Nat.mul_le_mul hll hn
    omega
  refine s_ret (e_call C1 hr (a_cons (m := (rP K).is (rowsTerms 0 (l.map (·.2)))) ?_ a_nil) ⟨_, rfl, hlen, rfl⟩) fun v' H2 e2 hv' => ⟨e2, ?_⟩
  · intro H1 e1 Q k
    refine lockAll l H1 Q (fun q hq => e1 _ _ (hl q hq)) fun Hf h1 h2 => ?_
    have hpl : p ∉ l.map (·.1) := fun z => by
      obtain ⟨q, hq, e⟩ := List.mem_map.mp z
      have := hl q hq
      rw [e, hp] at this; cases this
    have hpf : Hf p = some (.lst (l.map fun p => V.ref p.1)) := by rw [h1 p hpl]; exact e1 _ _ hp
    refine EvN.use (r := kT3 K) (as := rowsTerms 0 (l.map (·.2))) ?_ fun a ys H2 e2 hn hx => ?_
    · rw [flat_rows]
      have hro : ∀ q ∈ l, ∃ g, RowOk q.2 g n := fun q hq => by
        obtain ⟨i, hi⟩ := List.getElem?_of_mem hq
        obtain ⟨g, _, hr⟩ := pd_get hrows (i := i) (x := q.2) (by rw [List.getElem?_map, hi]; rfl)
        exact ⟨g, hr⟩
      have hkv : ∀ q ∈ l, ∀ p ∈ q.2, ∃ j c, p = (Sum.inl j, V.int c) := fun q hq p hp => by
        obtain ⟨g, hr⟩ := hro q hq
        obtain ⟨j, c, h, _⟩ := hr.shape p hp
        exact ⟨j, c, h⟩
      have hmem : ∀ a ∈ l.zipIdx, a.1 ∈ l := fun a ha => List.fst_mem_of_mem_zipIdx ha
      refine n_lc2 (g := gTup K 2 (gCons (gName 1) (gCons (gName 2) gNil))) (g1 := gName 3) (own := O22) (r := rIx rRowF) (r1 := kI) (rd := kT3 K) (as := l.zipIdx) (vs1 := [3]) rfl sc22.nd (pi_enum (by rfl) T.enumerate pA) (blkOk_by (N := N22) (sc := defScope (top 22)) (by decide +kernel)) (by decide)
        ?_ (fun _ _ _ _ _ => pi_keys (pv 2)) ?_
        (srcE_enum (a_cons (m := (kL rRowF).is l) (e_var (i := 0) rfl (fun H' e => ⟨p, _, rfl, e _ _ hpf, pd_mono (pd_fr h2) fun _ _ z => rRowF.mono e z⟩)) a_nil))
        (fun a => rowKeys a.1.2) (fun a j => ((a.2 : Int), j, rowVal a.1.2 j)) (fun x a => [some (.ref p), some (.int (a.2 : Int)), some (.ref a.1.1), none]) (fun x a y _ => [some (.ref p), some (.int (a.2 : Int)), some (.ref a.1.1), some y]) 100 ?_ ?_
        ?_ ?_ ?_ ?_ ?_ ?_
      · exact fun _ _ _ _ _ => pg_tup rfl (pgs_cons (pg_name (i := 1) sc22.nd rfl (.inl rfl)) (pgs_cons (pg_name (i := 2) sc22.nd rfl (.inl rfl)) pgs_nil))
      · exact fun _ _ _ _ _ => pg_name (i := 3) sc22.nd rfl (.inl rfl)
      · rw [List.length_zipIdx]; omega
      · intro a ha
        obtain ⟨g, hr⟩ := hro _ (hmem a ha)
        have := hr.len
        show (rowKeys a.1.2).length ≤ 100
        unfold rowKeys; rw [List.length_map]; omega
      · intro a x H' Q ha hr q
        exact g_ix (i := 1) (j := 2) hr (fun y z => z.1) q
      · intro x a; rfl
      · intro a x Hd H' ha e hr e'
        obtain ⟨od, ho⟩ := h2 _ (hmem a ha)
        exact srcM_keys rfl (e _ _ ho) e' (hkv _ (hmem a ha))
      · intro a x b y H' Q ha hb hr q
        exact q
      · intro x a y b; rfl
      · intro a x b y H' ha hb e hr' hb1
        obtain ⟨od, ho⟩ := h2 _ (hmem a ha)
        obtain ⟨g, hrk⟩ := hro _ (hmem a ha)
        obtain rfl : y = .int b := hb1
        exact bE_of fun _ _ _ _ _ => e_t3 (e_v (i := 1) (m := kI.is (a.2 : Int)) rfl rfl) (e_v (i := 3) (m := kI.is b) rfl rfl) (e_ixF (q := a.1) (hu_of hr) (vX (r := rRowF) 2 ⟨rfl, od, e _ _ ho⟩) (e_v (i := 3) (m := kI.is b) rfl rfl) (by rw [hrk.rv]; exact (hrk.keys.2.1 b hb).2.2))
    · refine ⟨fun q hq => ?_, k _ _ ?_ ?_⟩
      · obtain ⟨od, ho⟩ := h2 q hq
        rw [((ex_new hn) _ _ (e2 _ _ ho)), ho]
      · exact thaw_ex h1 (e2.trans (ex_new hn))
      · have hal : a ∉ l.map (·.1) := fun z => by
          obtain ⟨q, hq, e⟩ := List.mem_map.mp z
          obtain ⟨od, ho⟩ := h2 q hq
          rw [e] at ho
          rw [e2 _ _ ho] at hn; cases hn
        refine ⟨a, ys, rfl, ?_, pd_mono hx fun v t ⟨b, hb, hs⟩ => ⟨b, hb, ?_⟩⟩
        · rw [thaw_out hal, upd_same]
        · have key : ∀ o, (∀ od kvs, o ≠ .frz od (.dK kvs)) → H2 b = some o → thaw H1 (upd H2 a (.lst ys)) l b = some o := fun o no ho => by
            have hbl : b ∉ l.map (·.1) := fun z => by
              obtain ⟨q, hq, e⟩ := List.mem_map.mp z
              obtain ⟨od, h⟩ := h2 q hq
              rw [e] at h
              have := e2 _ _ h
              rw [ho] at this
              exact no od q.2 (Option.some.inj this)
            rw [thaw_out hbl, upd_ne (fun z => by rw [z, hn] at ho; cases ho)]; exact ho
          rcases hs with (h | ⟨ob, h⟩) | h
          · exact .inl (.inl (key _ (fun _ _ z => by cases z) h))
          · exact .inl (.inr ⟨ob, key _ (fun _ _ z => by cases z) h⟩)
          · exact .inr h
  · have : coef (rowsTerms 0 (l.map (·.2))) = rowsC gs := by
      funext i j
      rw [rowsTerms_coef 0 hrows]; simp
    rw [← this]; exact hv'
end
end Wf
/-! D11: rows_of. -/
namespace Wf
open PySem PySem.Spec PyProof.Rows L2 Wp
/-- rows as dicts of their own, made since H0 -/
structure Rws (H0 H : Hp) (p : Addr) (ds : List Addr) (gs : List (Int → Int)) (n : Nat) : Prop where
  ex : Ex H0 H
  np : H0 p = none
  nd : ∀ d ∈ ds, H0 d = none
  lst : H p = some (.lst (ds.map V.ref))
  rows : Paired (fun d g => ∃ kvs, H d = some (.dK kvs) ∧ RowOk kvs g n) ds gs
  dis : ds.Nodup
theorem Rws.mono {H0 H H' : Hp} {p : Addr} {ds : List Addr} {gs : List (Int → Int)} {n : Nat} (h : Rws H0 H p ds gs n) (e : Ex H H') : Rws H0 H' p ds gs n :=
  ⟨h.ex.trans e, h.np, h.nd, e _ _ h.lst, pd_mono h.rows fun d g ⟨kvs, h1, h2⟩ => ⟨kvs, e _ _ h1, h2⟩, h.dis⟩
theorem pd_ne {α β : Type} {F G : α → β → Prop} {d : α} : ∀ {ds : List α} {gs : List β}, Paired F ds gs → (∀ b ∈ ds, b ≠ d) → (∀ b g, b ∈ ds → b ≠ d → F b g → G b g) → Paired G ds gs
  | _, _, .nil, _, _ => .nil
  | _, _, .cons r t, h1, h2 => .cons (h2 _ _ (by simp) (h1 _ (by simp)) r) (pd_ne t (fun b hb => h1 b (by simp [hb])) fun b g hb => h2 b g (by simp [hb]))
theorem pd_set {α β : Type} {F G : α → β → Prop} {d : α} {g' : β} : ∀ {ds : List α} {gs : List β} {i : Nat}, Paired F ds gs → ds[i]? = some d → ds.Nodup → (∀ b g, b ∈ ds → b ≠ d → F b g → G b g) → G d g' → Paired G ds (gs.set i g')
  | _, _, i, .nil, h, _, _, _ => by simp at h
  | _, _, 0, .cons (a := x) r t, h, nd, m, hd => by
    have e : x = d := by simpa using h
    subst e
    have nd' := List.nodup_cons.mp nd
    exact .cons hd (pd_ne (d := x) t (fun b hb z => nd'.1 (by rw [← z]; exact hb)) fun b g hb => m b g (by simp [hb]))
  | _, _, i + 1, .cons (a := x) r t, h, nd, m, hd => by
    have nd' := List.nodup_cons.mp nd
    have h' := (List.getElem?_cons_succ ..).symm.trans h
    refine .cons (m _ _ (by simp) (fun z => nd'.1 (z ▸ List.mem_of_getElem? h')) r) (pd_set t h' nd'.2 (fun b g hb => m b g (by simp [hb])) hd)
theorem Rws.put {H0 H : Hp} {p d : Addr} {ds : List Addr} {gs : List (Int → Int)} {n i : Nat} {kvs' : List (Key × V)} {g' : Int → Int} (h : Rws H0 H p ds gs n) (hd : ds[i]? = some d) (hr : RowOk kvs' g' n) : Rws H0 (upd H d (.dK kvs')) p ds (gs.set i g') n := by
  have hm := List.mem_of_getElem? hd
  refine ⟨Evl.Ex.mut h.ex (h.nd d hm), h.np, h.nd, ?_, ?_, h.dis⟩
  · obtain ⟨g, _, kvs, e, _⟩ := pd_get h.rows hd
    rw [upd_ne (fun z => by rw [← z, h.lst] at e; cases e)]; exact h.lst
  · exact pd_set h.rows hd h.dis (fun b g _ ne ⟨kvs, h1, h2⟩ => ⟨kvs, by rw [upd_ne ne]; exact h1, h2⟩) ⟨kvs', upd_same, hr⟩
def gsOf (h : Nat) (φ : C) : List (Int → Int) := (List.range h).map fun (i : Nat) => φ (i : Int)
theorem gsOf_len {h : Nat} {φ : C} : (gsOf h φ).length = h := by simp [gsOf]
theorem gsOf_get {h i : Nat} {φ : C} (hi : i < h) : (gsOf h φ)[i]? = some (φ (i : Int)) := by simp [gsOf, hi]
theorem gsOf_set {h i : Nat} {φ ψ : C} {g : Int → Int} (hi : i < h) (h1 : ψ (i : Int) = g) (h2 : ∀ a : Nat, a < h → a ≠ i → ψ (a : Int) = φ (a : Int)) : (gsOf h φ).set i g = gsOf h ψ := by
  apply List.ext_getElem?
  intro k
  by_cases hk : k < h
  · rw [gsOf_get hk]
    by_cases e : i = k
    · subst e; rw [List.getElem?_set_self (by rw [gsOf_len]; exact hi), h1]
    · rw [List.getElem?_set_ne e, gsOf_get hk, h2 k hk (Ne.symm e)]
  · rw [List.getElem?_eq_none (by rw [List.length_set, gsOf_len]; omega), List.getElem?_eq_none (by rw [gsOf_len]; omega)]
theorem gsOf_congr {h : Nat} {φ ψ : C} (h2 : ∀ a : Nat, a < h → ψ (a : Int) = φ (a : Int)) : gsOf h φ = gsOf h ψ := by
  unfold gsOf
  apply List.map_congr_left
  intro a ha
  rw [h2 a (List.mem_range.mp ha)]
theorem rowsC_of {h : Nat} {φ : C} (hz : ∀ i j, i < 0 ∨ (h : Int) ≤ i → φ i j = 0) : rowsC (gsOf h φ) = φ := by
  funext i j
  unfold rowsC
  by_cases h0 : 0 ≤ i
  · rw [if_pos h0]
    by_cases hi : i.toNat < h
    · rw [gsOf_get hi, show ((i.toNat : Nat) : Int) = i by omega]
    · rw [List.getElem?_eq_none (by rw [gsOf_len]; omega)]; exact (hz i j (.inr (by omega))).symm
  · rw [if_neg h0]; exact (hz i j (.inl (by omega))).symm
theorem Rws.get {H0 H : Hp} {p : Addr} {ds : List Addr} {h n i : Nat} {φ : C} (r : Rws H0 H p ds (gsOf h φ) n) (hi : i < h) : ∃ d kvs, ds[i]? = some d ∧ H d = some (.dK kvs) ∧ RowOk kvs (φ (i : Int)) n := by
  obtain ⟨d, hd, kvs, h1, h2⟩ := pd_get' r.rows (gsOf_get hi)
  exact ⟨d, kvs, hd, h1, h2⟩
theorem Rws.len {H0 H : Hp} {p : Addr} {ds : List Addr} {h n : Nat} {φ : C} (r : Rws H0 H p ds (gsOf h φ) n) : ds.length = h := (pd_len r.rows).trans gsOf_len
section
variable {X : Cx} {σ : L2.St} {H : Hp} {D : Ends} {rest : List Stmt} {tg iter : Expr} {pos : Pos} {scope : Scope} {own : List (Str × Nat)} {wi : TI} {g : TG} {as : List Int}
/-- y = [{} for tg in iter] -/
theorem s_newRows {i : Nat} {y : Str} {py pd pos' : Pos} (n : Nat) (hc : X.calm = true) (hN : X.N.Nodup) (hi : PI X tg iter wi) (ok : BlkOk X.N X.env.scope scope own)
    (hgP : ∀ (s : Shared) (H : Hp) (C : Addr) (cl : List (Str × Addr)) (fp : List Addr), PG (X.blk s H scope (compEnvC scope cl C X.env) fp) tg g) (src : SrcM wi σ H H kI as) (sl : V → L2.St) (hlen : as.length ≤ 1000000)
    (hg : ∀ x H' (Q : L2.St → Hp → Prop), Q (sl x) H' → g x (wipe σ (own.map (·.2))) H' Q) (hw : ∀ x, wipe (sl x) (own.map (·.2)) = wipe σ (own.map (·.2)))
    (h : ∀ a ds H', Rws H H' a ds (gsOf as.length zero) n → wS X rest D (σ.set i (some (.ref a))) H')
    (hs : ∀ x, foldedSetIterable iter X.env x = pure x := by intro _; rfl) (hy : X.N[i]? = some y := by rfl) (hyl : X.env.scope.names.lookup y = some .local := by rfl)
    (hsw : swapsWith (.ListComp (.Dict [] [] pd) [⟨tg, iter, [], 0⟩] scope pos) (some (.Name y py)) pos'.line X.env = pure true := by exact sw_true rfl rfl rfl (by decide +kernel)) :
    wS X (.Assign [.Name y py] (.ListComp (.Dict [] [] pd) [⟨tg, iter, [], 0⟩] scope pos) pos' :: rest) D σ H := by
  refine wS.cons (ps_setLc hc hN hy hyl hsw hi ok hgP (fun _ _ _ _ _ => pts_nil) (fun _ _ _ _ _ => pe_dnewK) hs) ?_
  refine src _ fun J H2 xs G e2 hxs hwk hG D hD => ?_
  refine lc_it hwk (fun i H' => ∃ Hd ds, H' = upd Hd D (.lst (ds.map V.ref)) ∧ Hd D = none ∧ Ex H2 Hd ∧ ds.length = i ∧ ds.Nodup ∧ ∀ d ∈ ds, H d = none ∧ Hd d = some (.dK [])) ⟨H2, [], rfl, hD, ex_refl, rfl, .nil, by simp⟩ ?_ ?_ ?_
  · rintro i H' hi ⟨Hd, ds, rfl, hn, he2, hp⟩
    exact hG _ (e2.trans (he2.trans (ex_new hn)))
  · rintro i x H' H'' hi ⟨Hd, ds, rfl, hn, he2, hl, hnd, hp⟩ ⟨rfl, hy⟩
    refine hg x _ _ ⟨hw x, ?_⟩
    unfold tYes
    dsimp only
    rw [if_pos rfl]
    intro p hp0
    have hpD : p ≠ D := fun z => by subst z; rw [upd_same] at hp0; cases hp0
    have hpn : Hd p = none := by rw [upd_ne hpD] at hp0; exact hp0
    refine ⟨ds.map V.ref, by rw [upd_ne hpD.symm, upd_same], by rw [List.length_map, sizeLine_eq]; omega, upd Hd p (.dK []), ds ++ [p], ?_, by rw [upd_ne hpD.symm]; exact hn, he2.trans (ex_new hpn), by simp [hl], ?_, ?_⟩
    · rw [List.map_append]
      funext b
      by_cases hb : b = D
      · subst hb; rw [upd_same, upd_same]; rfl
      · rw [upd_ne hb, upd_ne hb]
        by_cases hb2 : b = p
        · subst hb2; rw [upd_same, upd_same]
        · rw [upd_ne hb2, upd_ne hb2, upd_ne hb]
    · rw [List.nodup_append]
      refine ⟨hnd, by simp, fun a ha b hb z => ?_⟩
      have hb : b = p := by simpa using hb
      subst hb
      subst z
      have := (hp a ha).2
      rw [hpn] at this; cases this
    · intro d hd
      rcases List.mem_append.mp hd with hd | hd
      · exact ⟨(hp d hd).1, (ex_new hpn) _ _ (hp d hd).2⟩
      · have hd : d = p := by simpa using hd
        subst hd
        exact ⟨Evl.fresh_back (e2.trans he2) hpn, upd_same⟩
  · rintro H' ⟨Hd, ds, rfl, hn, he2, hl, hnd, hp⟩
    refine h D ds _ ⟨(e2.trans he2).trans (ex_new hn), Evl.fresh_back e2 hD, fun d hd => (hp d hd).1, upd_same, ?_, hnd⟩
    have : gsOf as.length zero = ds.map fun _ => fun _ => (0 : Int) := by
      unfold gsOf
      rw [← hl]
      apply List.ext_getElem?
      intro k
      by_cases hk : k < ds.length
      · simp [hk]; funext j; rfl
      · simp [hk]
    rw [this]
    refine pd_self (f := fun _ => fun _ => (0 : Int)) fun d hd => ⟨[], ?_, RowOk.nil⟩
    have := (hp d hd).2
    exact (ex_new hn) _ _ this
theorem e_maxDf {a d : Expr} {p pos kp : Pos} {ns : List Int} {dv : Int} (hc : X.calm = true) (hm : X.mg "max" = none) (ha : EvP (wE X a) σ H ((kL kI).is ns).P) (hd : EvP (wE X d) σ H (kI.is dv).P) (hg : Gl X "max" := by rfl)
    (h1 : starEach [a] X.env = (false, eval a X.env) :: starEach [] X.env := by rfl)
    (he : backTo pos (starEach [a] X.env) = (false, eval a X.env) :: backTo pos (starEach [] X.env) := by rfl) (hpl : (backTo pos (starEach [a] X.env)).any (·.1) = false := by rfl)
    (hall : (backToKw pos (keywordEach [⟨some "default", d, kp⟩] X.env)).all (·.1.isSome) = true := by rfl) (hnone : (backToKw pos (keywordEach [⟨some "default", d, kp⟩] X.env)).any (·.1.isNone) = false := by rfl) (hks : (backToKw pos (keywordEach [⟨some "default", d, kp⟩] X.env)).filterMap (·.1) = [Str.ofString "default"] := by rfl) :
    EvP (wE X (.Call (.Name "max" p) [a] [⟨some "default", d, kp⟩] pos)) σ H fun v _ => ∃ m : Int, v = .int m ∧ ((ns = [] ∧ m = dv) ∨ (m ∈ ns ∧ ∀ y ∈ ns, y ≤ m)) :=
  .of (pe_callBK (cr_maxDf hc) hg hm (by decide +kernel) (pa_cons pE pa_nil h1) (pk_cons pE pk_nil) (by decide) (by decide) he hpl hall hnone hks) fun H1 e1 Q k => ha H1 e1 _ fun v H2 e2 ⟨q, xs, hv, hx, hp⟩ => hd H2 (e1.trans e2) _ fun u H3 e3 hu => by
    subst hv
    refine ⟨q, ns, dv, rfl, by rw [show u = V.int dv from hu], SqL.of (by rw [e3 _ _ hx, pd_int.mp hp]), fun z => k _ _ (e2.trans e3) ⟨dv, rfl, .inl ⟨z, rfl⟩⟩, fun z m h1 h2 => k _ _ (e2.trans e3) ⟨m, rfl, .inr ⟨h1, h2⟩⟩⟩
/-- d[x] = value, an int key -/
theorem s_dputK {d x value : Expr} {pos' : Pos} {q : Addr} {kvs : List (Key × V)} {j : Int} {qv : V → Hp → Prop} (hu : X.A.units + 1 < cLine) (hd : EvP (wE X d) σ H fun v _ => v = .ref q) (hq : H q = some (.dK kvs)) (hx : EvP (wE X x) σ H (kI.is j).P) (hv : EvP (wE X value) σ H qv) (hl : kvs.length ≤ 1000000)
    (k : ∀ v H1 H2, Ex H H1 → qv v H1 → Ex H1 H2 → wS X rest D σ (upd H2 q (.dK (putK kvs (.inl j) v)))) (hs : swapsWith value (some (.Subscript d x pos')) pos.line X.env = pure false := by rfl) :
    wS X (.Assign [.Subscript d x pos'] value pos :: rest) D σ H :=
  wS.cons (ps_dput hu pE pE pE hs) (hv H ex_refl _ fun z H1 e1 hz => hd H1 e1 _ fun v H2 e2 hv => hx H2 (e1.trans e2) _ fun u H3 e3 hu => by
    obtain rfl : u = .int j := hu
    exact ⟨q, _, hv, DPut.k (k := .inl j) (e3 _ _ (e2 _ _ (e1 _ _ hq))) (by rw [sizeLine_eq]; omega), k z H1 H3 e1 hz (e2.trans e3)⟩)
end
end Wf
/-! D12: rows_of, the def. -/
namespace Wf
open PySem PySem.Spec PyProof.Rows L2 Wp
/-- rows_of(f): dicts of its own -/
def spRows (K : PySem.W.Frag) : Sp := fun vs H Q _ => ∃ v φ m n, vs = [v] ∧ (rC K).R H v φ ∧ Box φ m n ∧ m ≤ 100 ∧ n ≤ 100 ∧
  ∀ p ds h H', h ≤ m → (∀ i j, (h : Int) ≤ i → φ i j = 0) → Rws H H' p ds (gsOf h φ) n → Q (.ref p) H'
abbrev N21 : List Str := ["f", "top", "rows", "i", "j", "c"]
theorem sc21 : FnScope N21 ["f"] (defScope (top 21)) := ⟨rfl, rfl, rfl, by decide +kernel, rfl, by decide +kernel, by decide +kernel⟩
/-- addresses as they are -/
def kA : Rep Addr := ⟨fun _ v a => v = .ref a, fun _ h => h⟩
theorem pd_refs {H : Hp} : ∀ {ds : List Addr}, Paired (kA.R H) (ds.map V.ref) ds
  | [] => .nil
  | _ :: _ => .cons rfl pd_refs
theorem canon_get {f : Po} (h : Canon f) {t : Tm} {k : Nat} (ht : f[k]? = some t) : coef (f.take k) t.1 t.2.1 = 0 ∧ coef f t.1 t.2.1 = t.2.2 := by
  have hs := h.srt
  have e : f = f.take k ++ t :: f.drop (k + 1) := by
    have hk := (List.getElem?_eq_some_iff.mp ht)
    obtain ⟨hk, rfl⟩ := hk
    rw [List.getElem_cons_drop, List.take_append_drop]
  rw [e] at hs
  obtain ⟨h1, h2, h3⟩ := List.pairwise_append.mp hs
  have z1 : coef (f.take k) t.1 t.2.1 = 0 := by
    by_cases q : coef (f.take k) t.1 t.2.1 = 0
    · exact q
    · obtain ⟨u, hu, a, b⟩ := coef_mem_ne q
      have := h3 u hu t (by simp)
      unfold TLt at this; omega
  refine ⟨z1, ?_⟩
  have z2 : coef (f.drop (k + 1)) t.1 t.2.1 = 0 := coef_lt fun u hu => (List.pairwise_cons.mp h2).1 u hu
  have := coef_append (f.take k) (t :: f.drop (k + 1)) t.1 t.2.1
  rw [← e, z1, coef_cons, if_pos ⟨rfl, rfl⟩, z2] at this
  omega
theorem canon_box {f : Po} (h : Canon f) {m n : Nat} (b : Box (coef f) m n) {t : Tm} (ht : t ∈ f) : 0 ≤ t.1 ∧ t.1 < m ∧ 0 ≤ t.2.1 ∧ t.2.1 < n := by
  obtain ⟨k, hk⟩ := List.getElem?_of_mem ht
  have := (canon_get h hk).2
  exact b _ _ (by rw [this]; exact h.nz t ht)
section
variable {P : Program} {w : World} {K : PySem.W.Frag} {mg : Str → Option Value} {base : Heap} {f : Addr} {fd : FuncData}
theorem ok_rows_of (F : Fun K "rows_of" "rows_of" (top 21) f fd) (T : Txt K mg) (hm : mg "rows_of" = some (.ref f)) (hb : Binds K fd ["f"] []) : Cal P w K mg base 1 "rows_of" ["f"] (spRows K) := by
  refine Cal.mk' F sc21 hm hb (fun vs H Q E ⟨_, _, _, _, h, _⟩ => by rw [h]; rfl) (fun cdv A outer s H vs Q E hr hsp => ?_)
  obtain ⟨v, φ, m, n, rfl, h0, hbox, hm100, hn100, hQ⟩ := hsp
  obtain ⟨fl, hf, hcan, rfl⟩ := id h0
  have hlen : fl.length ≤ 10000 := by
    have := hcan.len hbox
    have h2 := Nat.mul_le_mul hm100 hn100
    omega
  have hkb := fun {t} ht => canon_box hcan hbox (t := t) ht
  refine s_set (i := 1) sc21.nd (e_maxDf rfl T.max (EvN.evp (r := kI) (n_lc (own := [("i", 3), ("j", 4), ("c", 5)]) (r := kT3 K) (as := fl) rfl sc21.nd (pi_list pE) (blkOk_by (N := N21) (sc := defScope (top 21)) (by decide +kernel))
      (fun _ _ _ _ _ => pg_tup rfl (pgs_cons (pg_name (i := 3) sc21.nd rfl (.inl rfl)) (pgs_cons (pg_name (i := 4) sc21.nd rfl (.inl rfl)) (pgs_cons (pg_name (i := 5) sc21.nd rfl (.inl rfl)) pgs_nil))))
      (src_list (e_v (i := 0) (m := (kL (kT3 K)).is fl) rfl hf)) (fun t => t.1) (fun _ t => [some v, none, none, some (.int t.1), some (.int t.2.1), some (.int t.2.2)]) (by omega)
      (fun t x H' Q _ hx q => g_t3 (i := 3) (j := 4) (k := 5) hx q) (fun _ _ => rfl)
      (fun t x H2 hkm e2 hx => bE_of fun s H0 C cl fp => e_v (i := 3) (m := kI.is t.1) rfl rfl))) (e_neg e_int)) (fun v1 H1 e1 ⟨tp, hv1, htp⟩ => ?_)
  subst hv1
  have htop : -1 ≤ tp ∧ tp + 1 ≤ m ∧ ∀ t ∈ fl, t.1 ≤ tp := by
    rcases htp with ⟨h1, h2⟩ | ⟨h1, h2⟩
    · have : fl = [] := by simpa using h1
      subst this
      exact ⟨by omega, by omega, by simp⟩
    · obtain ⟨t, ht, rfl⟩ := List.mem_map.mp h1
      have := hkb ht
      exact ⟨by omega, by omega, fun u hu => h2 _ (List.mem_map.mpr ⟨u, hu, rfl⟩)⟩
  obtain ⟨ht1, ht2, ht3⟩ := htop
  refine s_newRows (i := 2) (n := n) (own := [("i", 3)]) rfl sc21.nd (pi_range1 (by rfl) T.range pA) (blkOk_by (N := N21) (sc := defScope (top 21)) (by decide +kernel)) (fun _ _ _ _ _ => pg_name (i := 3) sc21.nd rfl (.inl rfl)) (src_r1 (Hb := H1) (a_cons (e_add (vI 1) e_int) a_nil) (by omega) (by omega))
    (fun x => [some v, some (.int tp), none, some x, none, none]) (by rw [iota_len]; omega) (fun x H' Q q => q) (fun x => rfl) fun rw_ ds H2 hR => ?_
  rw [iota_len] at hR
  generalize hh : (tp + 1).toNat = h at hR
  have hz : ∀ i j, (h : Int) ≤ i → coef fl i j = 0 := fun i j hi => by
    by_cases q : coef fl i j = 0
    · exact q
    · obtain ⟨t, ht, h1, h2⟩ := coef_mem_ne q
      have := ht3 t ht
      omega
  have hR0 : Rws H H2 rw_ ds (gsOf h zero) n := ⟨e1.trans hR.ex, Evl.fresh_back e1 hR.np, fun d hd => Evl.fresh_back e1 (hR.nd d hd), hR.lst, hR.rows, hR.dis⟩
  refine s_forM rfl PassesOwn.never (pi_list pE) (pg_tup rfl (pgs_cons (pg_name (i := 3) sc21.nd rfl (.inl rfl)) (pgs_cons (pg_name (i := 4) sc21.nd rfl (.inl rfl)) (pgs_cons (pg_name (i := 5) sc21.nd rfl (.inl rfl)) pgs_nil))))
    (srcM_list (r := kT3 K) (Hb := H) (v := v) (e_nm (i := 0) rfl) hf hR0.ex)
    (fun k σ' H' => ∃ a b c, σ' = [some v, some (.int tp), some (.ref rw_), a, b, c] ∧ Rws H H' rw_ ds (gsOf h (coef (fl.take k))) n)
    (fun H3 e3 => ⟨_, _, _, rfl, hR0.mono e3⟩) (fun k σ' H' ⟨_, _, _, _, e⟩ => e.ex) ?_ ?_
  · rintro k t x σ' H' ht hx ⟨a, b, c, rfl, hRk⟩
    refine g_t3 ((kT3 K).mono hRk.ex hx) ?_
    have htm := List.mem_of_getElem? ht
    obtain ⟨b1, b2, b3, b4⟩ := hkb htm
    have ht3' := ht3 t htm
    have hih : t.1.toNat < h := by omega
    obtain ⟨d, kvs, hd, hkv, hok⟩ := hRk.get hih
    refine s_dputK (q := d) (kvs := kvs) (j := t.2.1) (qv := fun v _ => v = .int t.2.2) (hu_of hr) ?_ hkv (e_v (i := 4) (m := kI.is t.2.1) rfl rfl) (e_v (i := 5) (m := kI.is t.2.2) rfl rfl) (by have := hok.len; omega) fun v' H3 H4 e3 hv' e4 => ?_
    · refine (e_ixL (r := kA) (as := ds) (i := ((t.1.toNat : Nat) : Int)) (a0 := d) (e_var (i := 2) rfl fun H' e => ⟨rw_, _, rfl, e _ _ hRk.lst, ?_⟩) (e_var (i := 3) rfl fun _ _ => ?_) (atI_nat hd))
      · exact pd_refs
      · show V.int t.1 = V.int _; congr 1; omega
    · subst hv'
      refine s_nil ⟨_, _, _, rfl, ?_⟩
      have z := (hRk.mono (e3.trans e4)).put hd (hok.put t.2.2 b3 b4)
      rw [gsOf_set (ψ := coef (fl.take (k + 1))) hih] at z
      · exact z
      · funext b
        have e : ((t.1.toNat : Nat) : Int) = t.1 := by omega
        rw [e, List.take_add_one, ht, coef_append]
        show coef (fl.take k) t.1 b + coef [t] t.1 b = _
        rw [coef_cons, coef_nil]
        by_cases hb : b = t.2.1
        · subst hb; rw [if_pos ⟨rfl, rfl⟩, if_pos rfl, (canon_get hcan ht).1]; omega
        · rw [if_neg (fun q => hb q.2.symm), if_neg hb]; omega
      · intro a ha hne
        funext b
        rw [List.take_add_one, ht, coef_append]
        show coef (fl.take k) a b + coef [t] a b = _
        rw [coef_cons, coef_nil, if_neg (by omega)]; omega
  · rintro σ' H' ⟨a, b, c, rfl, hRk⟩
    rw [List.take_length] at hRk
    refine s_ret (e_nm (i := 2) rfl) fun v' H4 e4 q => ?_
    subst q
    exact hQ rw_ ds h H4 (by omega) hz (hRk.mono e4)
end
end Wf
/-! D13: rules for dicts, reversed ranges, locked loops. -/
namespace Wf
open PySem PySem.Spec PyProof.Rows L2 Wp
section
variable {X : Cx} {σ : L2.St} {H Hb : Hp} {D : Ends} {rest body : List Stmt} {pos : Pos} {te ta tb : TE}
theorem revI (lo : Int) (n i : Nat) (hi : i < n) : ((iota lo n).reverse.map V.int)[i]? = some (.int (lo + ((n - 1 - i : Nat) : Int))) := by
  rw [List.getElem?_map, List.getElem?_reverse (by rw [iota_len]; exact hi), iota_len]
  unfold iota
  rw [List.getElem?_map, List.getElem?_range (by omega)]; rfl
theorem walk_revI {lo : Int} {n : Nat} : Walk (Itc (lo + (n : Int) - 1) (-1) n) (iota lo n).reverse.length (fun _ => True) (YAt ((iota lo n).reverse.map V.int)) := by
  rw [List.length_reverse, iota_len]
  refine walk_rangeC.mono (fun _ _ => trivial) fun i H x H' hi _ y => ?_
  obtain ⟨e, e2⟩ := y
  refine ⟨e, ?_⟩
  rw [revI lo n i hi, e2]
  congr 2
  omega
theorem srcM_rev1 {n : Int} (h : EvP te σ H (kI.is n).P) (hn : 0 ≤ n ∧ n ≤ 2 ^ 60) : SrcM (iRevR (tRg1 te)) σ H Hb kI (iota 0 n.toNat).reverse := fun R k => h H ex_refl _ fun v H2 e2 hv => by
  refine ⟨n, hv, by omega, by omega, by omega, by omega, ?_⟩
  have e : (n - 0).toNat = n.toNat := by omega
  rw [e]
  exact k _ H2 _ _ e2 (pd_int.mpr rfl) walk_revI fun _ _ => trivial
theorem srcM_rev2 {a b : Int} (h : EvP ta σ H (kI.is a).P) (h' : EvP tb σ H (kI.is b).P) (hn : -(2 ^ 60) ≤ a ∧ a ≤ 2 ^ 60 ∧ -(2 ^ 60) ≤ b ∧ b ≤ 2 ^ 60) : SrcM (iRevR (tRg2 ta tb)) σ H Hb kI (iota a (b - a).toNat).reverse := fun R k => h H ex_refl _ fun v H2 e2 hv => h' H2 e2 _ fun u H3 e3 hu => by
  refine ⟨a, b, hv, hu, by omega, by omega, by omega, by omega, ?_⟩
  exact k _ H3 _ _ (e2.trans e3) (pd_int.mpr rfl) walk_revI fun _ _ => trivial
theorem rev_get {lo : Int} {n i : Nat} {a : Int} (h : (iota lo n).reverse[i]? = some a) : i < n ∧ a = lo + ((n - 1 - i : Nat) : Int) := by
  have hi := (List.getElem?_eq_some_iff.mp h).1
  rw [List.length_reverse, iota_len] at hi
  rw [List.getElem?_reverse (by rw [iota_len]; exact hi), iota_len] at h
  obtain ⟨h1, h2⟩ := iota_get h
  exact ⟨hi, h2⟩
/-- dict(d): a copy -/
theorem w_dict {a : Expr} {p : Pos} {q : Addr} {kvs : List (Key × V)} {Q : VK} (hm : X.mg "dict" = none) (ha : EvP (wE X a) σ H fun v _ => v = .ref q) (hq : H q = some (.dK kvs)) (k : ∀ l H', Ex H H' → H' l = none → Q (.ref l) (upd H' l (.dK kvs))) (hg : Gl X "dict" := by rfl)
    (h1 : starEach [a] X.env = (false, eval a X.env) :: starEach [] X.env := by rfl) (hpl : (backTo pos (starEach [] X.env)).any (·.1) = false := by rfl) : wE X (.Call (.Name "dict" p) [a] [] pos) σ H Q :=
  wE.of (pe_callTy call_dictD hg hm boot_dict (pa_cons pE pa_nil h1) (by decide) (by decide) h1 hpl) (ha H ex_refl _ fun v H2 e2 hv => ⟨q, kvs, by rw [hv], .inl (e2 _ _ hq), fun l hl => k l H2 e2 hl⟩)
/-- d.get(x, 0), int keys -/
theorem e_dgetK {d x f : Expr} {apos cpos : Pos} {q : Addr} {kvs : List (Key × V)} {j c : Int} (hu : X.A.units + 1 < cLine) (hd : EvP (wE X d) σ H fun v _ => v = .ref q) (hq : H q = some (.dK kvs)) (hv : (valV kvs (.inl j)).getD (.int 0) = .int c) (hx : EvP (wE X x) σ H (kI.is j).P) (hf : EvP (wE X f) σ H (kI.is 0).P)
    (m : M2 X d "get" apos x f cpos := by exact ⟨rfl, rfl, rfl, rfl⟩) :
    EvP (wE X (.Call (.Attribute d "get" apos) [x, f] [] cpos)) σ H (kI.is c).P :=
  .of (pe_dget2 hu pE pE pE m) fun H1 e1 Q k => hd H1 e1 _ fun v H2 e2 hv1 => ⟨q, hv1, .inl ⟨kvs, .inl (e2 _ _ (e1 _ _ hq))⟩, hx H2 (e1.trans e2) _ fun u H3 e3 hu => hf H3 ((e1.trans e2).trans e3) _ fun z H4 e4 hz => by
    obtain rfl : u = .int j := hu
    exact ⟨valV kvs (.inl j), DGet.k (k := .inl j) (e4 _ _ (e3 _ _ (e2 _ _ (e1 _ _ hq)))), k _ _ ((e2.trans e3).trans e4) (by rw [show z = V.int 0 from hz]; exact hv)⟩⟩
/-- for j in d: the dict locked -/
theorem s_forKeys {tg : Expr} {x : Str} {ipos : Pos} {g : TG} {iN : Nat} {q : Addr} {kvs : List (Key × V)} (hc : X.calm = true) (hp : PassesOwn (model X.prog X.w) X.A X.env X.xe) (hpv : PE X (.Name x ipos) (tVar iN)) (hg : PG X tg g) (hq : H q = some (.dK kvs)) (hi : σ[iN]? = some (some (.ref q))) (hk : ∀ p ∈ kvs, ∃ j c, p = (Sum.inl j, V.int c))
    (Pv : Nat → L2.St → Hp → Prop) (h0 : Pv 0 σ H)
    (hs : ∀ od i j σ' H', (rowKeys kvs)[i]? = some j → H' q = some (.frz od (.dK kvs)) → Pv i σ' (upd H' q (.dK kvs)) → g (.int j) σ' H' fun σ2 H2 =>
      wS X body { nx := fun σ3 H3 => H3 q = some (.frz od (.dK kvs)) ∧ Pv (i + 1) σ3 (upd H3 q (.dK kvs)), ct := fun σ3 H3 => H3 q = some (.frz od (.dK kvs)) ∧ Pv (i + 1) σ3 (upd H3 q (.dK kvs)), rt := fun v H3 => H3 q = some (.frz od (.dK kvs)) ∧ D.rt v (upd H3 q (.dK kvs)), bk := fun σ3 H3 => H3 q = some (.frz od (.dK kvs)) ∧ wS X rest D σ3 (upd H3 q (.dK kvs)) } σ2 H2)
    (hd : ∀ σ' H', Pv (rowKeys kvs).length σ' H' → wS X rest D σ' H')
    (hf : ∀ y, foldedSetIterable (.Name x ipos) X.env y = pure y := by intro _; rfl) : wS X (.For tg (.Name x ipos) body [] pos :: rest) D σ H :=
  wS.cons (ps_lock (ps_for hp hc (pi_keys hpv) hg pS hf)) ⟨q, .dK kvs, hq, trivial, fun od => ⟨.ref q, hi, q, od, rfl, .inl ⟨kvs, upd_same, for_it (walk_keysY hk) (fun i σ' H' => H' q = some (.frz od (.dK kvs)) ∧ Pv i σ' (upd H' q (.dK kvs))) ⟨upd_same, by
      have : upd (upd H q (.frz od (.dK kvs))) q (.dK kvs) = H := by rw [upd_upd]; funext b; by_cases hb : b = q; · subst hb; rw [upd_same, hq]
                                                                     · rw [upd_ne hb]
      rw [this]; exact h0⟩ (fun i σ' H' _ p => p.1) (fun i y σ' H1 H' hi p yl => by
      obtain ⟨e, yl⟩ := yl
      subst e
      rw [List.getElem?_map] at yl
      cases hj : (rowKeys kvs)[i]? with
      | none => rw [hj] at yl; cases yl
      | some j =>
        rw [hj] at yl
        obtain rfl : V.int j = y := Option.some.inj yl
        exact hs od i j σ' _ hj p.1 p.2) fun σ' H' p => ⟨p.1, hd _ _ p.2⟩⟩⟩⟩
end
end Wf
/-! D14: divided_in_x. -/
namespace Wf
open PySem PySem.Spec PyProof.Rows L2 Wp
/-- what stands while rows are lowered -/
structure Dv (H H' : Hp) (rw_ : Addr) (ds : List Addr) (L : Nat) (ψ : C) (n : Nat) (dv : Addr) (p : Nat) (qu : Addr) (Lq : Nat) : Prop where
  R : Rws H H' rw_ ds (gsOf L ψ) n
  D : H' dv = some (.lst ((stepL p).map V.int))
  nq : H qu = none
  qq : qu ≠ rw_ ∧ qu ≠ dv
  Q : ∃ xs, H' qu = some (.lst xs) ∧ xs.length = Lq ∧ ∀ x ∈ xs, ∃ d kvs g, x = .ref d ∧ d ∉ ds ∧ H' d = some (.dK kvs) ∧ RowOk kvs g n
section
variable {H H' H2 : Hp} {rw_ dv qu d : Addr} {ds : List Addr} {L n p Lq i : Nat} {ψ ψ' : C} {kvs : List (Key × V)} {g : Int → Int}
theorem Dv.mono (h : Dv H H' rw_ ds L ψ n dv p qu Lq) (e : Ex H' H2) : Dv H H2 rw_ ds L ψ n dv p qu Lq :=
  ⟨h.R.mono e, e _ _ h.D, h.nq, h.qq, by obtain ⟨xs, h1, h2, h3⟩ := h.Q; exact ⟨xs, e _ _ h1, h2, fun x hx => by obtain ⟨d, kvs, g, a, b, c, f⟩ := h3 x hx; exact ⟨d, kvs, g, a, b, e _ _ c, f⟩⟩⟩
theorem Dv.there (h : Dv H H' rw_ ds L ψ n dv p qu Lq) (hd : d ∈ ds) : ∃ kvs, H' d = some (.dK kvs) := by
  obtain ⟨i, hi⟩ := List.getElem?_of_mem hd
  obtain ⟨g, _, kvs, e, _⟩ := pd_get h.R.rows hi
  exact ⟨kvs, e⟩
theorem Dv.put (h : Dv H H' rw_ ds L ψ n dv p qu Lq) (hd : ds[i]? = some d) (hi : i < L) (hr : RowOk kvs g n) (h1 : ψ' (i : Int) = g) (h2 : ∀ a : Nat, a < L → a ≠ i → ψ' (a : Int) = ψ (a : Int)) : Dv H (upd H' d (.dK kvs)) rw_ ds L ψ' n dv p qu Lq := by
  obtain ⟨k0, e0⟩ := h.there (List.mem_of_getElem? hd)
  have z := h.R.put hd hr
  rw [gsOf_set hi h1 h2] at z
  refine ⟨z, ?_, h.nq, h.qq, ?_⟩
  · rw [upd_ne (fun z => by rw [← z, h.D] at e0; cases e0)]; exact h.D
  · obtain ⟨xs, q1, q2, q3⟩ := h.Q
    refine ⟨xs, ?_, q2, fun x hx => ?_⟩
    · rw [upd_ne (fun z => by rw [← z, q1] at e0; cases e0)]; exact q1
    · obtain ⟨d', kvs', g', a, b, c, f⟩ := q3 x hx
      exact ⟨d', kvs', g', a, b, by
        have hne : d' ≠ d := fun z => b (by rw [z]; exact List.mem_of_getElem? hd)
        rw [upd_ne hne]; exact c, f⟩
theorem Dv.same (h : Dv H H' rw_ ds L ψ n dv p qu Lq) (h2 : ∀ a : Nat, a < L → ψ' (a : Int) = ψ (a : Int)) : Dv H H' rw_ ds L ψ' n dv p qu Lq :=
  ⟨by rw [← gsOf_congr h2]; exact h.R, h.D, h.nq, h.qq, h.Q⟩
theorem mem_set {α : Type} {a x : α} : ∀ {xs : List α} {i : Nat}, x ∈ xs.set i a → x = a ∨ x ∈ xs
  | [], _, h => by simp at h
  | y :: ys, 0, h => by
    rcases List.mem_cons.mp h with h | h
    · exact .inl h
    · exact .inr (by simp [h])
  | y :: ys, i + 1, h => by
    rcases List.mem_cons.mp h with h | h
    · exact .inr (by simp [h])
    · rcases mem_set h with h | h
      · exact .inl h
      · exact .inr (by simp [h])
theorem Dv.setq {xs : List V} {ld : Addr} (h : Dv H H' rw_ ds L ψ n dv p qu Lq) (hq : H' qu = some (.lst xs)) (hl : ld ∉ ds) (hk : H' ld = some (.dK kvs)) (hr : RowOk kvs g n) : Dv H (upd H' qu (.lst (xs.set i (.ref ld)))) rw_ ds L ψ n dv p qu Lq := by
  have nd : ∀ {d : Addr} {kvs : List (Key × V)}, H' d = some (.dK kvs) → d ≠ qu := fun e z => by rw [z, hq] at e; cases e
  refine ⟨⟨Evl.Ex.mut h.R.ex h.nq, h.R.np, h.R.nd, ?_, pd_mono h.R.rows fun d g ⟨kvs, e, r⟩ => ⟨kvs, by rw [upd_ne (nd e)]; exact e, r⟩, h.R.dis⟩, ?_, h.nq, h.qq, ?_⟩
  · rw [upd_ne h.qq.1.symm]; exact h.R.lst
  · rw [upd_ne h.qq.2.symm]; exact h.D
  · obtain ⟨xs', q1, q2, q3⟩ := h.Q
    rw [hq] at q1
    injection q1 with q1; injection q1 with q1
    subst q1
    refine ⟨_, upd_same, by rw [List.length_set]; exact q2, fun x hx => ?_⟩
    rcases mem_set hx with rfl | hx
    · exact ⟨ld, kvs, g, rfl, hl, by rw [upd_ne (nd hk)]; exact hk, hr⟩
    · obtain ⟨d', kvs', g', a, b, c, f⟩ := q3 x hx
      exact ⟨d', kvs', g', a, b, by rw [upd_ne (nd c)]; exact c, f⟩
end
/-- the rows so far: m powers of the divisor taken -/
def lowM (p at_ m : Nat) (φ : C) : C := fun i j => φ i j - if (at_ : Int) ≤ i ∧ i < at_ + m then Sc p (i - at_).toNat * φ ((at_ : Int) + p - 1) j else 0
theorem lowM_zero (p at_ : Nat) (φ : C) : lowM p at_ 0 φ = φ := by
  funext i j; unfold lowM; rw [if_neg (by omega)]; omega
theorem lowM_all (p at_ : Nat) (φ : C) : lowM p at_ p φ = lowS p (at_ + p - 1) φ := by
  funext i j
  unfold lowM lowS
  by_cases h0 : p = 0
  · subst h0; rw [if_neg (by omega), if_neg (by omega)]
  · have e : ((at_ + p - 1 : Nat) : Int) = (at_ : Int) + p - 1 := by omega
    rw [e]
    by_cases h : (at_ : Int) ≤ i ∧ i < at_ + p
    · rw [if_pos h, if_pos (by omega)]
      congr 3
      omega
    · rw [if_neg h, if_neg (by omega)]
theorem lowM_other {p at_ m a : Nat} {φ : C} (h : a ≠ at_ + m) : lowM p at_ (m + 1) φ (a : Int) = lowM p at_ m φ (a : Int) := by
  funext j
  unfold lowM
  by_cases q : (at_ : Int) ≤ a ∧ (a : Int) < at_ + m
  · rw [if_pos q, if_pos (by omega)]
  · rw [if_neg q, if_neg (by omega)]
theorem lowM_this {p at_ m : Nat} {φ : C} (j : Int) : lowM p at_ m φ ((at_ + m : Nat) : Int) j = φ ((at_ + m : Nat) : Int) j ∧ lowM p at_ (m + 1) φ ((at_ + m : Nat) : Int) j = φ ((at_ + m : Nat) : Int) j - Sc p m * φ ((at_ : Int) + p - 1) j := by
  unfold lowM
  refine ⟨by rw [if_neg (by omega)]; omega, ?_⟩
  rw [if_pos (by omega)]
  congr 3
  omega
/-- half a row taken: the first k keys -/
def lowK (p at_ m : Nat) (ks : List Int) (k : Nat) (φ : C) : C := fun i j => if i = ((at_ + m : Nat) : Int) then φ i j - (if j ∈ ks.take k then Sc p m * φ ((at_ : Int) + p - 1) j else 0) else lowM p at_ m φ i j
theorem lowK_zero {p at_ m : Nat} {ks : List Int} {φ : C} : lowK p at_ m ks 0 φ = lowM p at_ m φ := by
  funext i j
  unfold lowK
  by_cases h : i = ((at_ + m : Nat) : Int)
  · subst h; rw [if_pos rfl, (lowM_this j).1]; simp
  · rw [if_neg h]
theorem lowK_all {p at_ m : Nat} {ks : List Int} {φ : C} (hk : ∀ j, φ ((at_ : Int) + p - 1) j ≠ 0 → j ∈ ks) (a : Nat) : lowM p at_ (m + 1) φ (a : Int) = lowK p at_ m ks ks.length φ (a : Int) := by
  by_cases h : a = at_ + m
  · subst h
    funext j
    unfold lowK
    rw [if_pos rfl, (lowM_this j).2, List.take_length]
    by_cases q : j ∈ ks
    · rw [if_pos q]
    · rw [if_neg q]
      by_cases z : φ ((at_ : Int) + p - 1) j = 0
      · rw [z]; simp
      · exact absurd (hk j z) q
  · rw [lowM_other h]
    funext j
    unfold lowK
    rw [if_neg (by omega)]
/-- first or rest: the answer of divided_in_x -/
def rDiv (K : PySem.W.Frag) : Rep C := ⟨fun H v ψ => ∃ t a b ψ', v = .ref t ∧ SqT K H t [a, b] ∧ (rC K).R H a ψ' ∧ Sm ψ' ∧ (rC K).R H b ψ, fun e ⟨t, a, b, ψ', h1, h2, h3, h4, h5⟩ => ⟨t, a, b, ψ', h1, ex_sqt e h2, (rC K).mono e h3, h4, (rC K).mono e h5⟩⟩
def RDiv (K : PySem.W.Frag) : List MP → MP → Prop := fun ms m => ∃ (φ : C) (p : Int) (a b : Nat), ms = [(rC K).is φ, kI.is p] ∧ 1 ≤ p ∧ Box φ a b ∧ a ≤ 60 ∧ b ≤ 100 ∧ m = (rDiv K).is (lowX p.toNat a φ)
abbrev N24 : List Str := ["f", "p", "rows", "divisor", "quotient", "at", "lead", "m", "row", "j", "i"]
theorem sc24 : FnScope N24 ["f", "p"] (defScope (top 24)) := ⟨rfl, rfl, rfl, by decide +kernel, rfl, by decide +kernel, by decide +kernel⟩
abbrev CRows (P : Program) (w : World) (K : PySem.W.Frag) (mg : Str → Option Value) (base : Heap) := Cal P w K mg base 1 "rows_of" ["f"] (spRows K)
abbrev CTerms (P : Program) (w : World) (K : PySem.W.Frag) (mg : Str → Option Value) (base : Heap) := Cal P w K mg base 2 "terms_of" ["rows"] (spM (RTerms K))
abbrev CStep (P : Program) (w : World) (K : PySem.W.Frag) (mg : Str → Option Value) (base : Heap) := Cal P w K mg base 1 "step" ["k"] (spM RStep)
theorem e_t2R {X : Cx} {σ : L2.St} {H : Hp} {x y : Expr} {x1 : Nat} {pos : Pos} {α β : Type} {r : Rep α} {r' : Rep β} {a : α} {b : β} (hx : EvP (wE X x) σ H (r.is a).P) (hy : EvP (wE X y) σ H (r'.is b).P) (h1 : starEach [x, y] X.env = (false, eval x X.env) :: starEach [y] X.env := by rfl) (h2 : starEach [y] X.env = (false, eval y X.env) :: starEach [] X.env := by rfl) :
    EvP (wE X (.Tuple [x, y] x1 pos)) σ H fun v H' => ∃ t u w, v = .ref t ∧ SqT X.K H' t [u, w] ∧ r.R H' u a ∧ r'.R H' w b :=
  (e_tup (a_cons hx (a_cons hy a_nil h2) h1) (by simp)).imp fun v H' _ ⟨p, vs, e, hp, q⟩ => by
    cases q with | cons r1 q => cases q with | cons r2 q => cases q; exact ⟨p, _, _, e, SqT.of hp, r1, r2⟩
end Wf
/-! D15: divided_in_x, the def. -/
namespace Wf
open PySem PySem.Spec PyProof.Rows L2 Wp
theorem EvP.use {te : TE} {σ : L2.St} {H : Hp} {p : V → Hp → Prop} {Q : VK} (h : EvP te σ H p) (k : ∀ v H2, Ex H H2 → p v H2 → Q v H2) : te σ H Q := h H ex_refl Q k
theorem Rws.trim {H0 H : Hp} {p : Addr} {ds : List Addr} {gs : List (Int → Int)} {n : Nat} (h : Rws H0 H p ds gs n) : (kL (rRow n)).R H (.ref p) gs := by
  refine ⟨p, _, rfl, h.lst, ?_⟩
  have : ∀ {ds : List Addr} {gs : List (Int → Int)}, Paired (fun d g => ∃ kvs, H d = some (.dK kvs) ∧ RowOk kvs g n) ds gs → Paired ((rRow n).R H) (ds.map V.ref) gs := by
    intro ds gs q
    induction q with
    | nil => exact .nil
    | cons r t ih => obtain ⟨kvs, h1, h2⟩ := r; exact .cons ⟨_, kvs, rfl, h1, h2⟩ ih
  exact this h.rows
theorem kv_of {H : Hp} {n : Nat} {xs : List V} {gs : List (Int → Int)} (h : Paired ((rRow n).R H) xs gs) : ∃ kvss, Paired (fun kvs g => RowOk kvs g n) kvss gs := by
  induction h with
  | nil => exact ⟨[], .nil⟩
  | cons r t ih => obtain ⟨l, hl⟩ := ih; obtain ⟨d, kvs, _, _, hk⟩ := r; exact ⟨kvs :: l, .cons hk hl⟩
theorem quo_rows {H : Hp} {n : Nat} {ds : List Addr} : ∀ {xs : List V}, (∀ x ∈ xs, ∃ d kvs g, x = .ref d ∧ d ∉ ds ∧ H d = some (.dK kvs) ∧ RowOk kvs g n) → ∃ gs, gs.length = xs.length ∧ Paired ((rRow n).R H) xs gs
  | [], _ => ⟨[], rfl, .nil⟩
  | x :: xs, h => by
    obtain ⟨d, kvs, g, h1, _, h3, h4⟩ := h x (by simp)
    obtain ⟨gs, l, p⟩ := quo_rows (xs := xs) fun y hy => h y (by simp [hy])
    exact ⟨g :: gs, by simp [l], .cons ⟨d, kvs, h1, h3, h4⟩ p⟩
section
variable {P : Program} {w : World} {K : PySem.W.Frag} {mg : Str → Option Value} {base : Heap} {f : Addr} {fd : FuncData}
theorem ok_div (F : Fun K "divided_in_x" "divided_in_x" (top 24) f fd) (T : Txt K mg) (hm : mg "divided_in_x" = some (.ref f)) (hb : Binds K fd ["f", "p"] []) (C1 : CCol P w K mg base) (Cr : CRows P w K mg base) (Ct : CTerms P w K mg base) (Cs : CStep P w K mg base) : Cal P w K mg base 3 "divided_in_x" ["f", "p"] (spM (RDiv K)) := by
  refine Cal.pure F sc24 hm hb (fun ms m ⟨_, _, _, _, h, _⟩ => by rw [h]; rfl) (fun cdv A outer s H vs E ms m hr hv hR => ?_)
  obtain ⟨φ, p, a, n, rfl, hp1, hbox, ha60, hn100, rfl⟩ := hR
  obtain ⟨vf, vp, rfl, h0, hvp⟩ := pd2 hv
  obtain rfl : vp = .int p := hvp
  have hSm : Sm φ := ⟨a, n, hbox, Nat.le_trans (Nat.mul_le_mul ha60 hn100) (by decide)⟩
  -- rows = rows_of(f)
  refine s_setW (i := 2) sc24.nd (w_call Cr (hr.mono (by decide)) (wA.of (pa_cons pE pa_nil) ?_))
  refine EvP.use (e_nm (i := 0) (v := vf) rfl) fun v1 H1 e1 hv1 => ?_
  subst v1
  refine ⟨_, φ, a, n, rfl, (rC K).mono e1 h0, hbox, Nat.le_trans ha60 (by decide), hn100, fun rw_ ds L H2 hLa hz hR => ?_⟩
  have hR0 : Rws H H2 rw_ ds (gsOf L φ) n := ⟨e1.trans hR.ex, Evl.fresh_back e1 hR.np, fun d hd => Evl.fresh_back e1 (hR.nd d hd), hR.lst, hR.rows, hR.dis⟩
  have hlow : lowX p.toNat a φ = lowX p.toNat L φ := lowX_any hz hLa
  have hlenL : ∀ {H3 : Hp}, Rws H H3 rw_ ds (gsOf L φ) n → (kL kA).R H3 (.ref rw_) ds := fun r => ⟨rw_, _, rfl, r.lst, pd_refs⟩
  have hdl : ds.length = L := hR0.len
  refine s_when (t_lt (e_lenL (r := kA) (as := ds) T.len (vX (r := kL kA) 2 (hlenL hR0))) (vI 1)) (fun h H3 e3 => ?_) (fun h H3 e3 => ?_)
  · -- too low
    have hlt : (ds.length : Int) < p := of_decide_eq_true h
    refine s_ret (e_t2R (r := rC K) (r' := rC K) e_nilC (e_colC (k := 0) (i := 0) C1 (hr.mono (by decide)) ((rC K).mono (hR0.ex.trans e3) h0) hSm rfl)) fun v' H4 e4 ⟨t, u, w', h1, h2, h3, h4⟩ => ⟨(hR0.ex.trans e3).trans e4, t, u, w', zero, h1, h2, h3, ⟨0, 0, fun i j q => absurd rfl q, by decide⟩, ?_⟩
    rw [hlow, lowX_done (by omega)]; exact h4
  have hge : p ≤ (L : Int) := by have := of_decide_eq_false h; omega
  obtain ⟨q, rfl⟩ : ∃ q : Nat, p = (q : Int) := ⟨p.toNat, by omega⟩
  have hqL : q ≤ L := by omega
  have hq60 : q ≤ 60 := by omega
  have hq1 : 1 ≤ q := by omega
  rw [show ((q : Int)).toNat = q by omega] at hlow ⊢
  -- divisor = step(p)
  refine s_set (i := 3) sc24.nd (e_call Cs (hr.mono (by decide)) (a_cons (vI 1) a_nil) ⟨_, rfl, by omega, by omega, rfl⟩) (fun v3 H4 e4 hv3 => ?_)
  obtain ⟨dv, xs, rfl, hdv, hxs⟩ := hv3
  obtain rfl := pd_int.mp hxs
  rw [show ((q : Int)).toNat = q by omega] at hdv
  have hR4 := hR0.mono (e3.trans e4)
  -- quotient = [{} ..]
  refine s_newRows (i := 4) (n := n) (own := [("i", 10)]) rfl sc24.nd (pi_range1 (by rfl) T.range pA) (blkOk_by (N := N24) (sc := defScope (top 24)) (by decide +kernel)) (fun _ _ _ _ _ => pg_name (i := 10) sc24.nd rfl (.inl rfl))
    (src_r1 (Hb := H4) (n := (L : Int) - q + 1) (a_cons (e_add (e_sub (EvP.imp (e_lenL (r := kA) (as := ds) T.len (vX (r := kL kA) (v := .ref rw_) 2 (hlenL hR4))) fun v _ _ h => by rw [hdl] at h; exact h) (vI 1)) e_int) a_nil) (by omega) (by omega))
    (fun x => [some vf, some (.int q), some (.ref rw_), some (.ref dv), none, none, none, none, none, none, some x]) (by rw [iota_len]; omega) (fun x H' Q q => q) (fun x => rfl) fun qu qs H5 hQ => ?_
  rw [iota_len] at hQ
  generalize hLq : ((L : Int) - q + 1).toNat = Lq at hQ
  have hLq' : Lq = L - q + 1 := by omega
  have hql : qs.length = Lq := hQ.len
  have h5 : Dv H H5 rw_ ds L φ n dv q qu Lq := by
    refine ⟨hR4.mono hQ.ex, hQ.ex _ _ hdv, Evl.fresh_back hR4.ex hQ.np, ⟨fun z => ?_, fun z => ?_⟩, qs.map V.ref, hQ.lst, by rw [List.length_map, hql], fun x hx => ?_⟩
    · have := hQ.np; rw [z, hR4.lst] at this; cases this
    · have := hQ.np; rw [z, hdv] at this; cases this
    · obtain ⟨d, hd, rfl⟩ := List.mem_map.mp hx
      obtain ⟨i, hi⟩ := List.getElem?_of_mem hd
      obtain ⟨g, _, kvs, h1, h2⟩ := pd_get hQ.rows hi
      refine ⟨d, kvs, g, rfl, fun hds => ?_, h1, h2⟩
      have := hQ.nd d hd
      obtain ⟨i2, hi2⟩ := List.getElem?_of_mem hds
      obtain ⟨g2, _, k2, h12, _⟩ := pd_get hR4.rows hi2
      rw [this] at h12; cases h12
  -- for at in reversed(range(len(quotient)))
  refine s_forM rfl PassesOwn.never (pi_revR (by rfl) T.reversed (prg_1 (by rfl) T.range pE)) (pg_name (i := 5) sc24.nd rfl (.inl rfl)) (srcM_rev1 (Hb := H) (n := (Lq : Int)) (EvP.imp (e_lenL (r := kA) (as := qs) T.len (vX (r := kL kA) (v := .ref qu) 4 ⟨qu, _, rfl, hQ.lst, pd_refs⟩)) fun v _ _ h => by rw [hql] at h; exact h) (by omega))
    (fun k σ' H' => ∃ (ψ : C) (s5 s6 s7 s8 s9 s10 : Option V), σ' = [some vf, some (.int q), some (.ref rw_), some (.ref dv), some (.ref qu), s5, s6, s7, s8, s9, s10] ∧ Dv H H' rw_ ds L ψ n dv q qu Lq ∧ lowX q (L - k) ψ = lowX q L φ ∧ Box ψ L n)
    (fun H6 e6 => ⟨φ, _, _, _, _, _, _, rfl, h5.mono e6, rfl, fun i j z => ?_⟩) (fun k σ' H' ⟨_, _, _, _, _, _, _, _, h, _⟩ => h.R.ex) ?_ ?_
  · have b := hbox i j z
    refine ⟨b.1, ?_, b.2.2⟩
    by_cases c : (L : Int) ≤ i
    · exact absurd (hz i j c) z
    · omega
  · rintro k av x σ' H' hk hx ⟨ψ, s5, s6, s7, s8, s9, s10, rfl, hD, hlo, hbx⟩
    obtain ⟨hkl, rfl⟩ := rev_get hk
    obtain rfl : x = .int (0 + (((Lq : Int).toNat - 1 - k : Nat) : Int)) := hx
    have hkl : k < Lq := by omega
    generalize hat : (Lq : Int).toNat - 1 - k = at_ at *
    have hat' : at_ + q = L - k := by omega
    have hhi : at_ + q - 1 < L := by omega
    obtain ⟨dh, kvl, hdh, hkv, hokl⟩ := hD.R.get hhi
    have hgl : ∀ j, ψ ((at_ : Int) + q - 1) j = ψ ((at_ + q - 1 : Nat) : Int) j := fun j => by congr 1; omega
    -- lead = dict(rows[at + p - 1])
    refine s_setW (i := 6) sc24.nd (w_dict (q := dh) (kvs := kvl) T.dict (e_ixL (r := kA) (as := ds) (i := ((at_ + q - 1 : Nat) : Int)) (a0 := dh) (e_var (i := 2) rfl fun H' e => ⟨rw_, _, rfl, e _ _ hD.R.lst, pd_refs⟩) (EvP.imp (e_sub (e_add (vI 5) (vI 1)) e_int) fun v _ _ h => ?_) (atI_nat hdh)) hkv fun ld H6 e6 hld => ?_)
    · rw [show v = V.int _ from h]; show V.int _ = V.int _; congr 1; omega
    have hD6 := (hD.mono (e6.trans (ex_new hld)) : Dv H (upd H6 ld (.dK kvl)) rw_ ds L ψ n dv q qu Lq)
    have hldk : (upd H6 ld (.dK kvl)) ld = some (.dK kvl) := upd_same
    have hldn : ld ∉ ds := fun hds => by
      obtain ⟨k2, e2⟩ := hD.there hds
      rw [e6 _ _ e2] at hld; cases hld
    generalize upd H6 ld (.dK kvl) = H7 at hD6 hldk
    -- quotient[at] = lead
    obtain ⟨xs, hxq, hxl, hxd⟩ := id hD6.Q
    refine s_setIx (p := qu) (xs := xs) (n := (at_ : Int)) (j := at_) (q := fun v _ => v = .ref ld) hxq (e_nm (i := 6) rfl) (e_nm (i := 4) rfl) (e_var (i := 5) rfl fun _ _ => by show V.int _ = V.int _; congr 1; omega) (ixN_nat (by omega)) (fun v H' H'' _ h => h) fun v' H8 e8 hv8 => ?_
    subst hv8
    have hD8 := (hD6.mono e8).setq (i := at_) (e8 _ _ hxq) hldn (e8 _ _ hldk) hokl
    have hld8 : (upd H8 qu (.lst (xs.set at_ (.ref ld)))) ld = some (.dK kvl) := by
      rw [upd_ne (fun z => by have := e8 _ _ hldk; rw [z, e8 _ _ hxq] at this; cases this)]
      exact e8 _ _ hldk
    generalize upd H8 qu (.lst (xs.set at_ (.ref ld))) = H9 at hD8 hld8
    -- for m in range(p)
    refine s_forM rfl PassesOwn.never (pi_range1 (by rfl) T.range pA) (pg_name (i := 7) sc24.nd rfl (.inl rfl)) (src_r1 (Hb := H) (n := (q : Int)) (a_cons (vI 1) a_nil) (by omega) (by omega))
      (fun m σ' H' => ∃ (s7 s8 s9 : Option V), σ' = [some vf, some (.int q), some (.ref rw_), some (.ref dv), some (.ref qu), some (.int (0 + (at_ : Int))), some (.ref ld), s7, s8, s9, s10] ∧ Dv H H' rw_ ds L (lowM q at_ m ψ) n dv q qu Lq ∧ H' ld = some (.dK kvl))
      (fun H10 e10 => ⟨_, _, _, rfl, by rw [lowM_zero]; exact hD8.mono e10, e10 _ _ hld8⟩) (fun k σ' H' ⟨_, _, _, _, h, _⟩ => h.R.ex) ?_ ?_
    · rintro m mv x σ' H' hmv hx ⟨s7, s8, s9, rfl, hDm, hldm⟩
      obtain ⟨hmq, rfl⟩ := iota_get hmv
      obtain rfl : x = .int (0 + (m : Int)) := hx
      have hmq : m < q := by omega
      have em : (0 : Int) + (m : Int) = (m : Int) := by omega
      have hsc : (stepL q)[m]? = some (Sc q m) := by
        have : m < (stepL q).length := by rw [stepL_len]; exact hmq
        unfold Sc
        rw [List.getD_eq_getElem?_getD, List.getElem?_eq_getElem this]; rfl
      refine s_when (t_neI (e_ixL (r := kI) (i := (m : Int)) (a0 := Sc q m) (vX (r := kL kI) (v := .ref dv) 3 (kL_ints hDm.D)) (e_var (i := 7) (v := .int (0 + (m : Int))) rfl (fun _ _ => by rw [em]; rfl)) (atI_nat hsc)) e_int) (fun h H10 e10 => ?_) (fun h H10 e10 => ?_)
      · -- row = rows[at + m]
        have hD10 := hDm.mono e10
        have hld10 := e10 _ _ hldm
        have hrow : at_ + m < L := by omega
        obtain ⟨d, kvr, hd, hkr, hokr⟩ := hD10.R.get hrow
        refine s_set (i := 8) sc24.nd (e_ixL (r := kA) (as := ds) (i := ((at_ + m : Nat) : Int)) (a0 := d) (e_var (i := 2) rfl fun H' e => ⟨rw_, _, rfl, e _ _ hD10.R.lst, pd_refs⟩) (EvP.imp (e_add (vI 5) (vI 7)) fun v _ _ h => ?_) (atI_nat hd)) (fun v8 H11 e11 hv8 => ?_)
        · rw [show v = V.int _ from h]; show V.int _ = V.int _; congr 1; omega
        obtain rfl : v8 = .ref d := hv8
        have hD11 := hD10.mono e11
        have hld11 := e11 _ _ hld10
        have hdld : d ≠ ld := fun z => hldn (by rw [← z]; exact List.mem_of_getElem? hd)
        -- for j in lead
        refine s_forKeys (iN := 6) (q := ld) (kvs := kvl) rfl PassesOwn.never (pv 6) (pg_name (i := 9) sc24.nd rfl (.inl rfl)) hld11 rfl (fun z hz => by obtain ⟨j, c, h, _⟩ := hokl.shape z hz; exact ⟨j, c, h⟩)
          (fun i σ' U => ∃ s9, σ' = [some vf, some (.int q), some (.ref rw_), some (.ref dv), some (.ref qu), some (.int (0 + (at_ : Int))), some (.ref ld), some (.int (0 + (m : Int))), some (.ref d), s9, s10] ∧ Dv H U rw_ ds L (lowK q at_ m (rowKeys kvl) i ψ) n dv q qu Lq ∧ U ld = some (.dK kvl))
          ⟨_, rfl, by rw [lowK_zero]; exact hD11, hld11⟩ ?_ ?_
        · rintro od i j σ' H' hj hfz ⟨s9, rfl, hDi, hldi⟩
          have hjm := List.mem_of_getElem? hj
          obtain ⟨hj0, hjn, hjv⟩ := hokl.keys.2.1 j hjm
          obtain ⟨d', kvi, hd', hki, hoki⟩ := hDi.R.get hrow
          obtain rfl : d' = d := by rw [hd] at hd'; exact (Option.some.inj hd').symm
          have hki' : H' d' = some (.dK kvi) := by rw [upd_ne hdld] at hki; exact hki
          have hdv' : H' dv = some (.lst ((stepL q).map V.int)) := by
            have := hDi.D
            rw [upd_ne (fun z => by rw [z, upd_same] at this; cases this)] at this; exact this
          have hjnot : j ∉ (rowKeys kvl).take i := by
            have nd := hokl.keys.1
            intro hjt
            have hil := List.getElem?_eq_some_iff.mp hj
            have e : rowKeys kvl = (rowKeys kvl).take i ++ j :: (rowKeys kvl).drop (i + 1) := by
              obtain ⟨hil, rfl⟩ := hil
              rw [List.getElem_cons_drop, List.take_append_drop]
            rw [e] at nd
            exact (List.nodup_append.mp nd).2.2 j hjt j (by simp) rfl
          have hsm := Sc_small (p := q) (m := m) hq60
          show wS _ _ _ _ _
          refine s_dputK (q := d') (kvs := kvi) (j := j) (qv := fun v _ => v = .int (lowK q at_ m (rowKeys kvl) i ψ ((at_ + m : Nat) : Int) j - Sc q m * ψ ((at_ + q - 1 : Nat) : Int) j)) (hu_of hr) (e_nm (i := 8) rfl) hki' (e_v (i := 9) (m := kI.is j) rfl rfl)
            (e_sub (e_dgetK (q := d') (hu_of hr) (e_nm (i := 8) rfl) hki' (hoki.val j) (e_v (i := 9) (m := kI.is j) rfl rfl) e_int)
              (e_mul (e_ixL (r := kI) (i := (m : Int)) (a0 := Sc q m) (vX (r := kL kI) (v := .ref dv) 3 (kL_ints hdv')) (e_var (i := 7) (v := .int (0 + (m : Int))) rfl (fun _ _ => by rw [em]; rfl)) (atI_nat hsc)) (e_ixF (q := (ld, kvl)) (hu_of hr) (vX (r := rRowF) 6 ⟨rfl, od, hfz⟩) (e_v (i := 9) (m := kI.is j) rfl rfl) hjv) (.inl hsm)))
            (by have := hoki.len; omega) fun v9 H12 H13 e12 hv9 e13 => ?_
          subst hv9
          have ee := e12.trans e13
          have hU : Ex (upd H' ld (.dK kvl)) (upd H13 ld (.dK kvl)) := fun b o ho => by
            by_cases hbl : b = ld
            · subst hbl; rw [upd_same] at ho ⊢; exact ho
            · rw [upd_ne hbl] at ho ⊢; exact ee _ _ ho
          have hswap : upd (upd H13 d' (.dK (putK kvi (.inl j) (.int (lowK q at_ m (rowKeys kvl) i ψ ((at_ + m : Nat) : Int) j - Sc q m * ψ ((at_ + q - 1 : Nat) : Int) j))))) ld (.dK kvl) = upd (upd H13 ld (.dK kvl)) d' (.dK (putK kvi (.inl j) (.int (lowK q at_ m (rowKeys kvl) i ψ ((at_ + m : Nat) : Int) j - Sc q m * ψ ((at_ + q - 1 : Nat) : Int) j)))) := by
            funext b
            by_cases h1 : b = ld
            · subst h1; rw [upd_same, upd_ne hdld.symm, upd_same]
            · rw [upd_ne h1]
              by_cases h2 : b = d'
              · subst h2; rw [upd_same, upd_same]
              · rw [upd_ne h2, upd_ne h2, upd_ne h1]
          refine s_nil ⟨by rw [upd_ne hdld.symm]; exact ee _ _ hfz, _, rfl, ?_, by rw [upd_same]⟩
          rw [hswap]
          refine (hDi.mono hU).put hd' hrow (hoki.put _ hj0 hjn) ?_ fun b hb hne => ?_
          · funext b
            unfold lowK
            rw [if_pos rfl]
            have htk : (rowKeys kvl).take (i + 1) = (rowKeys kvl).take i ++ [j] := by rw [List.take_add_one, hj]; rfl
            rw [htk]
            by_cases hbj : b = j
            · subst hbj
              rw [if_pos (by simp), if_pos rfl, if_pos rfl, if_neg hjnot, hgl]; omega
            · rw [if_neg hbj, if_pos rfl]
              congr 1
              simp [hbj]
          · funext c
            unfold lowK
            rw [if_neg (by omega), if_neg (by omega)]
        · rintro σ' H' ⟨s9, rfl, hDi, hldi⟩
          refine s_nil (s_nil ⟨_, _, _, rfl, hDi.same fun b hb => ?_, hldi⟩)
          exact lowK_all (fun c hc => hokl.keys.2.2 c (by rw [hgl] at hc; exact hc)) b
      · have hs0 : Sc q m = 0 := by
          have : (!decide (Sc q m = 0)) = false := h
          simpa using this
        refine s_nil ⟨_, _, _, rfl, (hDm.mono e10).same fun b hb => ?_, e10 _ _ hldm⟩
        by_cases hbm : b = at_ + m
        · subst hbm
          funext c
          rw [(lowM_this c).2, (lowM_this c).1, hs0]; simp
        · exact lowM_other hbm
    · rintro σ' H' ⟨s7, s8, s9, rfl, hDm, hldm⟩
      have e1 : (iota 0 ((q : Int).toNat)).length = q := by rw [iota_len]; omega
      rw [e1, lowM_all] at hDm
      refine s_nil ⟨_, _, _, _, _, _, _, rfl, hDm, ?_, hbx.lowS hhi (by omega)⟩
      rw [← hlo, show L - k = (at_ + q - 1) + 1 by omega, lowX_succ (by omega), show L - (k + 1) = at_ + q - 1 by omega]
  · rintro σ' H' ⟨ψ, s5, s6, s7, s8, s9, s10, rfl, hD, hlo, hbx⟩
    have e1 : ((iota 0 ((Lq : Int).toNat)).reverse).length = Lq := by rw [List.length_reverse, iota_len]; omega
    rw [e1, lowX_done (by omega)] at hlo
    obtain ⟨xs, hxq, hxl, hxd⟩ := hD.Q
    obtain ⟨gs, hgl, hgp⟩ := quo_rows hxd
    have hcl : rowsC (gsOf L ψ) = ψ := rowsC_of fun i j hij => by
      by_cases z : ψ i j = 0
      · exact z
      · have := hbx i j z; omega
    refine s_ret (e_t2R (r := rC K) (r' := rC K) (e_call Ct (hr.mono (by decide)) (a_cons (vX (r := kL (rRow n)) (v := .ref qu) 4 ⟨qu, xs, rfl, hxq, hgp⟩) a_nil) ⟨gs, n, rfl, by omega, hn100, rfl⟩) (e_call Ct (hr.mono (by decide)) (a_cons (vX (r := kL (rRow n)) (v := .ref rw_) 2 hD.R.trim) a_nil) ⟨_, n, rfl, by rw [gsOf_len]; omega, hn100, rfl⟩)) fun v' H4 e4 ⟨t, u, w', h1, h2, h3, h4⟩ => ⟨hD.R.ex.trans e4, t, u, w', _, h1, h2, h3, ?_, ?_⟩
    · have hb : Box (rowsC gs) gs.length n := by
        obtain ⟨kvss, hk⟩ := kv_of hgp
        exact rowsC_box hk
      exact ⟨_, _, hb, Nat.le_trans (Nat.mul_le_mul (show gs.length ≤ 100 by omega) hn100) (by decide)⟩
    · rw [hlow, ← hlo]
      rw [hcl] at h4; exact h4
end
end Wf
/-! W8: lists of one's own, while, and as a value, keyword calls, isinstance. -/
namespace Wp
open PySem PySem.Spec PyProof.Rows L2
theorem EvP.use {te : TE} {σ : L2.St} {H : Hp} {p : V → Hp → Prop} {Q : VK} (h : EvP te σ H p) (k : ∀ v H2, Ex H H2 → p v H2 → Q v H2) : te σ H Q := h H ex_refl Q k
theorem EvA.use {ta : TA} {σ : L2.St} {H : Hp} {ms : List MP} {Q : List V → Hp → Prop} (h : EvA ta σ H ms) (k : ∀ vs H2, Ex H H2 → Paired (fun v (p : MP) => p.P v H2) vs ms → Q vs H2) : ta σ H Q := h H ex_refl Q k
theorem EvN.use {α : Type} {te : TE} {σ : L2.St} {H : Hp} {r : Rep α} {as : List α} {Q : VK} (h : EvN te σ H r as) (k : ∀ p xs H2, Ex H H2 → H2 p = none → Paired (r.R H2) xs as → Q (.ref p) (upd H2 p (.lst xs))) : te σ H Q := h H ex_refl Q k
/-! ### a list of one's own, made since H0 -/
structure OL {α : Type} (r : Rep α) (H0 H : Hp) (a : Addr) (as : List α) : Prop where
  new : H0 a = none
  sub : Ex H0 (hd H a)
  at' : ∃ xs, H a = some (.lst xs) ∧ Paired (r.R (hd H a)) xs as
section
variable {α : Type} {r : Rep α} {H0 H H' : Hp} {a : Addr} {as bs : List α} {xs : List V}
theorem hd_ex (e : Ex H H') {o : HO} (ho : H a = some o) : Ex (hd H a) (hd H' a) := fun b u h => by
  by_cases hb : b = a
  · subst hb; rw [hd_same] at h; cases h
  · rw [hd_ne hb] at h ⊢; exact e _ _ h
theorem OL.mk0 (e : Ex H0 H) (hn : H a = none) (hx : Paired (r.R H) xs as) : OL r H0 (upd H a (.lst xs)) a as :=
  ⟨Evl.fresh_back e hn, by rw [hd_upd hn]; exact e, xs, upd_same, by rw [hd_upd hn]; exact hx⟩
theorem OL.ex (h : OL r H0 H a as) : Ex H0 H := h.sub.trans ex_hd
theorem OL.list (h : OL r H0 H a as) : (kL r).R H (.ref a) as := by
  obtain ⟨xs, h1, h2⟩ := h.at'
  exact ⟨a, xs, rfl, h1, pd_mono h2 fun _ _ q => r.mono ex_hd q⟩
theorem OL.mono (h : OL r H0 H a as) (e : Ex H H') : OL r H0 H' a as := by
  obtain ⟨xs, h1, h2⟩ := h.at'
  have e2 := hd_ex e h1
  exact ⟨h.new, h.sub.trans e2, xs, e _ _ h1, pd_mono h2 fun _ _ q => r.mono e2 q⟩
theorem OL.put (h : OL r H0 H a as) (hx : Paired (r.R (hd H a)) xs bs) : OL r H0 (upd H a (.lst xs)) a bs := by
  have e : hd (upd H a (.lst xs)) a = hd H a := by
    funext b
    by_cases hb : b = a
    · subst hb; rw [hd_same, hd_same]
    · rw [hd_ne hb, hd_ne hb, upd_ne hb]
  exact ⟨h.new, by rw [e]; exact h.sub, xs, upd_same, by rw [e]; exact hx⟩
/-- what is told of older things holds without the list -/
theorem OL.hid {β : Type} {q : Rep β} {v : V} {b : β} (h : OL r H0 H a as) (hv : q.R H0 v b) : q.R (hd H a) v b := q.mono h.sub hv
end
section
variable {α : Type} {X : Cx} {σ : L2.St} {H : Hp} {D : Ends} {rest body : List Stmt} {c e o a b : Expr} {pos apos cpos p : Pos} {i j : Int}
/-- o.append(e), the list one's own -/
theorem s_appO {r : Rep α} {H0 : Hp} {l : Addr} {as : List α} {b : α} {q : V → Hp → Prop} (hl : OL r H0 H l as) (ho : EvP (wE X o) σ H fun v _ => v = .ref l) (he : EvP (wE X e) σ H q) (hq : ∀ v H', Ex H H' → q v H' → r.R (hd H' l) v b) (hz : as.length ≤ 1000000) (k : ∀ H', OL r H0 H' l (as ++ [b]) → wS X rest D σ H')
    (hbase : attributeBase o "append" X.env (eval o X.env) = eval o X.env := by rfl)
    (hfew : ((backTo cpos (starEach [e] X.env)).all (fun x => !x.1) && (backToKw cpos (keywordEach [] X.env)).all (fun x => x.1.isSome) && decide (([e] : List Expr).length + ([] : List Keyword).length + (if ([] : List Keyword).isEmpty then 0 else 1) < 30)) = true := by rfl)
    (hline : (apos.endLine == cpos.line) = true := by rfl) (hs : starEach [e] X.env = (false, eval e X.env) :: starEach [] X.env := by rfl) (hplain : (backTo cpos (starEach [] X.env)).any (·.1) = false := by rfl)
    (hsw : swapsWith (.Call (.Attribute o "append" apos) [e] [] cpos) none pos.line X.env = pure false := by rfl) : wS X (.Expr (.Call (.Attribute o "append" apos) [e] [] cpos) pos :: rest) D σ H := by
  obtain ⟨xs, h1, h2⟩ := id hl.at'
  refine s_app h1 ho he (by rw [pd_len h2]; exact hz) (fun v H' e' hv => ?_) hbase hfew hline hs hplain hsw
  obtain ⟨ys, h3, h4⟩ := (hl.mono e').at'
  have : ys = xs := by have := e' _ _ h1; rw [h3] at this; injection this with this; injection this
  subst this
  exact k _ ((hl.mono e').put (pd_app h4 (.cons (hq v H' e' hv) .nil)))
/-- while -/
theorem s_while (hp : PassesOwn (model X.prog X.w) X.A X.env X.xe) (W : Nat → L2.St → Hp → Prop) (m0 : Nat) (h0 : W m0 σ H)
    (hs : ∀ m σ' H', W m σ' H' → ∃ d, EvT (wT X c) σ' H' d ∧ (d = true → ∀ H2, Ex H' H2 → wS X body { nx := fun σ3 H3 => ∃ m', m' < m ∧ W m' σ3 H3, rt := D.rt, ct := fun σ3 H3 => ∃ m', m' < m ∧ W m' σ3 H3, bk := wS X rest D } σ' H2) ∧ (d = false → ∀ H2, Ex H' H2 → wS X rest D σ' H2)) : wS X (.While c body [] pos :: rest) D σ H :=
  wS.cons (ps_while hp pT pS) ⟨W, ⟨m0, h0⟩, fun m σ' H' w => by
    obtain ⟨d, hc, h1, h2⟩ := hs m σ' H' w
    refine hc H' ex_refl _ fun H2 e2 => ?_
    cases d with
    | true => exact iteT ⟨_, fun _ _ h => h, h1 rfl H2 e2⟩
    | false => exact iteF (h2 rfl H2 e2)⟩
theorem e_and {c d : Bool} (ha : EvP (wE X a) σ H (kB.is c).P) (hb : c = true → EvP (wE X b) σ H (kB.is d).P) : EvP (wE X (.BoolOp .And [a, b] pos)) σ H (kB.is (c && d)).P :=
  .of (pe_and pE (pe_one pE)) fun H1 e1 Q k => ha H1 e1 _ fun v H2 e2 hv => ⟨c, hv, by
    cases c with
    | true => exact iteT (hb rfl H2 (e1.trans e2) _ fun u H3 e3 hu => k u H3 (e2.trans e3) hu)
    | false => exact iteF (k _ H2 e2 rfl)⟩
theorem e_and3 {x : Expr} {c d f : Bool} (ha : EvP (wE X a) σ H (kB.is c).P) (hb : c = true → EvP (wE X b) σ H (kB.is d).P) (hx : d = true → EvP (wE X x) σ H (kB.is f).P) : EvP (wE X (.BoolOp .And [a, b, x] pos)) σ H (kB.is (c && (d && f))).P :=
  .of (pe_and pE (pe_and pE (pe_one pE))) fun H1 e1 Q k => ha H1 e1 _ fun v H2 e2 hv => ⟨c, hv, by
    cases c with
    | true => exact iteT (hb rfl H2 (e1.trans e2) _ fun u H3 e3 hu => ⟨d, hu, by
        cases d with
        | true => exact iteT (hx rfl H3 ((e1.trans e2).trans e3) _ fun w H4 e4 hw => k w H4 ((e2.trans e3).trans e4) hw)
        | false => exact iteF (k _ H3 (e2.trans e3) rfl)⟩)
    | false => exact iteF (k _ H2 e2 rfl)⟩
theorem e_not {c : Bool} (ha : EvP (wE X a) σ H (kB.is c).P) : EvP (wE X (.UnaryOp .Not a pos)) σ H (kB.is (!c)).P :=
  .of (pe_not pE) fun H1 e1 Q k => ha H1 e1 _ fun v H2 e2 hv => ⟨c, hv, k _ H2 e2 rfl⟩
/-- isinstance(a, C) of an instance of C -/
theorem e_isC {C : Addr} {x : Str} {xp : Pos} {q : V → Hp → Prop} (c : C8.InsC X.K C) (hm : X.mg "isinstance" = none) (hC : X.mg x = some (.ref C)) (ha : EvP (wE X a) σ H q) (hq : ∀ v H', Ex H H' → q v H' → ∃ y dx fs, v = .ref y ∧ H' y = some (.ins C dx fs)) (hg : Gl X "isinstance" := by rfl) (hgx : Gl X x := by rfl) (hd : (x == ("__debug__" : Str)) = false := by decide)
    (h1 : starEach [a, .Name x xp] X.env = (false, eval a X.env) :: starEach [.Name x xp] X.env := by rfl) (h2 : starEach [.Name x xp] X.env = (false, eval (.Name x xp) X.env) :: starEach [] X.env := by rfl) (hpl : (backTo pos (starEach [.Name x xp] X.env)).any (·.1) = false := by rfl) :
    EvP (wE X (.Call (.Name "isinstance" p) [a, .Name x xp] [] pos)) σ H (kB.is true).P :=
  .of (pe_callB (C8.call_isC c) hg hm (by decide +kernel) (pa_cons pE (pa_cons (pe_glob (v := .ref C) hgx hC rfl hd) pa_nil h2) h1) (by decide) (by decide) h1 hpl) fun H1 e1 Q k => ha H1 e1 _ fun v H2 e2 hv => by
    obtain ⟨y, dx, fs, h3, h4⟩ := hq v H2 (e1.trans e2) hv
    exact ⟨y, dx, fs, by rw [h3], h4, k _ H2 e2 rfl⟩
end
/-! ### keyword calls -/
structure CalK (P : Program) (w : World) (K : PySem.W.Frag) (mg : Str → Option Value) (base : Heap) (k : Nat) (x : Str) (n : Nat) (ps ks : List Str) (sp : Sp) : Prop where
  ok : ∃ f fd, FnOk P w K mg base CX0 k f fd ps sp ∧ mg x = some (.ref f) ∧ PySem.W.keepIn K (.ref f) = true ∧ KBn K fd ps n ks (fun us ws => us ++ ws) (fun vs zs => vs ++ zs)
theorem kbn_of {K : PySem.W.Frag} {x qual : Str} {st : Stmt} {f : Addr} {fd : FuncData} {n : Nat} {ps ks : List Str} (F : Fun K x qual st f fd)
    (h : ∀ (kV doc pm : Value) (an : Option Addr) (cdv ct : Value) (us ws : List Value), us.length = n → ws.length = ks.length → bindArgs (PySem.W.fnOf x qual (defArgs st) (defBody st) (defScope st) .none kV doc pm an cdv ct) ⟨us, ks.zip ws⟩ = pure (ps.zip (us ++ ws))) : KBn K fd ps n ks (fun us ws => us ++ ws) (fun vs zs => vs ++ zs) := by
  obtain ⟨oc, od, kV, doc, pm, an, cdv, ct, osl, rfl, lk, hcd⟩ := F.ex
  exact ⟨fun s us ws X l1 l2 => .of_eq (h kV doc pm an cdv ct us ws l1 l2), fun r1 r2 => r1.append r2⟩
section
variable {P : Program} {w : World} {K : PySem.W.Frag} {mg : Str → Option Value} {base : Heap} {k n : Nat} {x : Str} {N ps ks : List Str} {st : Stmt} {f : Addr} {fd : FuncData} {R : List MP → MP → Prop}
theorem CalK.pure (F : Fun K x x st f fd) (S : FnScope N ps (defScope st)) (hm : mg x = some (.ref f)) (hb : KBn K fd ps n ks (fun us ws => us ++ ws) (fun vs zs => vs ++ zs)) (hl : ∀ ms m, R ms m → ms.length = ps.length)
    (body : ∀ (cdv : Value) (A : Around) (outer : List Env) (s : Shared) (H : Hp) (vs : List V) (E : XK) (ms : List MP) (m : MP), Room k (A.deeper (envOfC x (defScope st) s.heap.objs.size f cdv)) → Paired (fun v (p : MP) => p.P v H) vs ms → R ms m →
      wS (cxOf CX0 P w K mg base N x (defScope st) f cdv A outer s H E).nox (defBody st) { nx := fun _ H' => Ex H H' ∧ m.P .non H', rt := fun v H' => Ex H H' ∧ m.P v H' } (start N vs) H) : CalK P w K mg base (k + 1) x n ps ks (spM R) :=
  ⟨f, fd, F.ok S (fun vs H Q E ⟨ms, m, h1, h2, _⟩ => (pd_len h1).trans (hl ms m h2)) (fun cdv A outer s H vs Q E hr ⟨ms, m, h1, h2, h3⟩ => ⟨_, pS, (body cdv A outer s H vs E ms m hr h1 h2).mono (fun σ' H' q => h3 _ _ q.1 q.2) (fun v H' q => h3 _ _ q.1 q.2) (fun _ _ q => q) fun _ _ q => q⟩), hm, F.kp, hb⟩
end
section
variable {X : Cx} {σ : L2.St} {H : Hp} {k n : Nat} {x k1 k2 : Str} {ps : List Str} {R : List MP → MP → Prop} {ms : List MP} {m m1 m2 : MP} {e a b : Expr} {es : List Expr} {p pos p1 p2 : Pos}
/-- f(e, .., k1=a, k2=b) -/
theorem e_callK2 (C : CalK X.prog X.w X.K X.mg X.base k x n ps [k1, k2] (spM R)) (hr : Room k X.A) (ha : EvA (wA X (e :: es)) σ H ms) (hn : ms.length = n) (h1 : EvP (wE X a) σ H m1.P) (h2 : EvP (wE X b) σ H m2.P) (h : R (ms ++ [m1, m2]) m) (hg : Gl X x := by rfl) (hdb : (x == ("__debug__" : Str)) = false := by decide)
    (hall : (backToKw pos (keywordEach [⟨some k1, a, p1⟩, ⟨some k2, b, p2⟩] X.env)).all (·.1.isSome) = true := by rfl) (hks : (backToKw pos (keywordEach [⟨some k1, a, p1⟩, ⟨some k2, b, p2⟩] X.env)).filterMap (·.1) = [k1, k2] := by rfl)
    (he : starEach (e :: es) X.env = (false, eval e X.env) :: starEach es X.env := by rfl)
    (hpl : ((backTo pos (starEach (e :: es) X.env)).any (·.1) || (backToKw pos (keywordEach [⟨some k1, a, p1⟩, ⟨some k2, b, p2⟩] X.env)).any (·.1.isNone)) = false := by rfl) :
    EvP (wE X (.Call (.Name x p) (e :: es) [⟨some k1, a, p1⟩, ⟨some k2, b, p2⟩] pos)) σ H m.P := by
  obtain ⟨f, fd, F, hm, kp, hb⟩ := C.ok
  exact .of (pe_callN F hr hg hm kp hb pass0 pA (pk_cons pE (pk_cons pE pk_nil)) hall hks hdb he hpl) fun H1 e1 Q q => ha H1 e1 _ fun vs H2 e2 hv => h1 H2 (e1.trans e2) _ fun v1 H3 e3 q1 => h2 H3 ((e1.trans e2).trans e3) _ fun v2 H4 e4 q2 =>
    ⟨(pd_len hv).trans hn, rfl, ms ++ [m1, m2], m, pd_app (pd_mono hv fun _ m z => m.mono (e3.trans e4) z) (.cons (m1.mono e4 q1) (.cons q2 .nil)), h, fun v H' e5 hp => q v H' (((e2.trans e3).trans e4).trans e5) hp⟩
/-- a, b = e: a tuple of two -/
theorem s_unp2 {D : Ends} {rest : List Stmt} {tgs : List Expr} {t : TGs} {kk : Nat} {tpos : Pos} {q : V → V → Hp → Prop} (hc : X.calm = true) (he : EvP (wE X e) σ H fun v H' => ∃ y u w, v = .ref y ∧ SqT X.K H' y [u, w] ∧ q u w H') (hg : PGs X tgs t)
    (h : ∀ u w H', Ex H H' → q u w H' → t [u, w] σ H' (wS X rest D))
    (hn : (assignEach tgs X.env).length = 2 := by rfl) (hst : (assignEach tgs X.env).findIdx? (·.1) = none := by rfl) (hs : swapsWithSole [.Tuple tgs kk tpos] e pos.line X.env = pure false := by rfl) (hw : swappedStores [.Tuple tgs kk tpos] e X.env = pure none := by rfl)
    (h1 : (assignEach [.Tuple tgs kk tpos] X.env).map (·.2) = [assign (.Tuple tgs kk tpos) X.env] := by rfl) : wS X (.Assign [.Tuple tgs kk tpos] e pos :: rest) D σ H :=
  wS.cons (ps_asg pE (pg_tup hc hg hn hst) hs hw h1) (he H ex_refl _ fun v H2 e2 ⟨y, u, w, hv, hp, hq⟩ => ⟨y, _, hv, hp, rfl, h u w H2 e2 hq⟩)
theorem g2 {i j : Nat} {a b : V} {Q : L2.St → Hp → Prop} (q : Q ((σ.set i (some a)).set j (some b)) H) : gCons (gName i) (gCons (gName j) gNil) [a, b] σ H Q := ⟨_, _, rfl, _, _, rfl, rfl, q⟩
theorem pgs2 {x y : Str} {i j : Nat} {px py : Pos} (hN : X.N.Nodup) (h1 : X.N[i]? = some x := by rfl) (h2 : X.N[j]? = some y := by rfl)
    (l1 : Loc X.env.scope x := by first | exact Or.inl rfl | exact Or.inr rfl) (l2 : Loc X.env.scope y := by first | exact Or.inl rfl | exact Or.inr rfl)
    (f1 : X.fn x = true ∨ X.env.scope.names.lookup x = some .local := by first | exact .inl rfl | exact .inr rfl) (f2 : X.fn y = true ∨ X.env.scope.names.lookup y = some .local := by first | exact .inl rfl | exact .inr rfl)
    (c1 : (assignEach [.Name x px, .Name y py] X.env).map (·.2) = assign (.Name x px) X.env :: (assignEach [.Name y py] X.env).map (·.2) := by rfl) (c2 : (assignEach [.Name y py] X.env).map (·.2) = assign (.Name y py) X.env :: (assignEach [] X.env).map (·.2) := by rfl) :
    PGs X [.Name x px, .Name y py] (gCons (gName i) (gCons (gName j) gNil)) := pgs_cons (pg_name hN h1 l1 f1) (pgs_cons (pg_name hN h2 l2 f2) pgs_nil c2) c1
end
end Wp
/-! D16: one, divided, needed, parts_of, checked_floor, same. -/
namespace Wf
open PySem PySem.Spec PyProof.Rows L2 Wp
section
variable {P : Program} {w : World} {K : PySem.W.Frag} {mg : Str → Option Value} {base : Heap} {f : Addr} {fd : FuncData}
theorem ok_one (F : Fun K "one" "one" (top 29) f fd) (hm : mg "one" = some (.ref f)) (hb : Binds K fd [] []) : Cal P w K mg base 1 "one" [] (spM (ROne K)) := by
  refine Cal.pure F sc29 hm hb (fun ms m h => ?_) (fun cdv A outer s H vs E ms m hr hv hR => ?_)
  · rw [h.1]; rfl
  obtain ⟨rfl, rfl⟩ := hR
  cases hv
  refine s_ret (q := ((rNm K).is one).P) ?_ fun v' H5 e5 q => ⟨e5, q⟩
  refine e_num (n := one) ?_
  refine a_cons ?_ ?_
  · exact (EvN.evp (n_lst (r := kT3 K) (as := [(0, 0, 1)]) (a_cons (e_t3 e_int e_int e_int) a_nil) (by decide))).imp fun v H' _ h => ⟨_, h, canon_one, coef_one⟩
  · refine a_cons ?_ ?_
    · exact e_nilC
    · refine a_cons ?_ ?_
      · exact e_nilC
      · exact a_cons e_nilC a_nil
end
/-! ### divided -/
def rDvd (K : PySem.W.Frag) : Rep C := ⟨fun H v ψ => ∃ t a b c, v = .ref t ∧ SqT K H t [a, b, c] ∧ (rC K).R H c ψ, fun e ⟨t, a, b, c, h1, h2, h5⟩ => ⟨t, a, b, c, h1, ex_sqt e h2, (rC K).mono e h5⟩⟩
def RDvd (K : PySem.W.Frag) : List MP → MP → Prop := fun ms m => ∃ (φ : C) (p q : Int) (a b : Nat), ms = [(rC K).is φ, kI.is p, kI.is q] ∧ 3 ≤ p ∧ 3 ≤ q ∧ Box φ a b ∧ a ≤ 60 ∧ b ≤ 60 ∧ m = (rDvd K).is (sw (lowX q.toNat b (sw (lowX p.toNat a φ))))
abbrev CDiv3 (P : Program) (w : World) (K : PySem.W.Frag) (mg : Str → Option Value) (base : Heap) := Cal P w K mg base 3 "divided_in_x" ["f", "p"] (spM (RDiv K))
abbrev CSw (P : Program) (w : World) (K : PySem.W.Frag) (mg : Str → Option Value) (base : Heap) := Cal P w K mg base 2 "swapped" ["f"] (spM (RSw K))
abbrev N25 : List Str := ["f", "p", "q", "first", "left", "second", "remainder"]
theorem sc25 : FnScope N25 ["f", "p", "q"] (defScope (top 25)) := ⟨rfl, rfl, rfl, by decide +kernel, rfl, by decide +kernel, by decide +kernel⟩
theorem EvP.div {te : TE} {σ : L2.St} {H : Hp} {K : PySem.W.Frag} {ψ : C} (h : EvP te σ H ((rDiv K).is ψ).P) : EvP te σ H fun v H' => ∃ y u w, v = .ref y ∧ SqT K H' y [u, w] ∧ (∃ ψ', (rC K).R H' u ψ' ∧ Sm ψ') ∧ (rC K).R H' w ψ := h.imp fun v H' _ ⟨t, x, y, ψ', h1, h2, h3, h4, h5⟩ => ⟨t, x, y, h1, h2, ⟨ψ', h3, h4⟩, h5⟩
theorem rsw {K : PySem.W.Frag} {φ : C} (h : Sm φ) : RSw K [(rC K).is φ] ((rC K).is (sw φ)) := ⟨_, rfl, h, rfl⟩
theorem Sm.ofB {φ : C} {a b : Nat} (h : Box φ a b) (ha : a ≤ 100) (hb : b ≤ 100) : Sm φ := ⟨a, b, h, Nat.le_trans (Nat.mul_le_mul ha hb) (by decide)⟩
section
variable {P : Program} {w : World} {K : PySem.W.Frag} {mg : Str → Option Value} {base : Heap} {f : Addr} {fd : FuncData}
theorem ok_dvd (F : Fun K "divided" "divided" (top 25) f fd) (hm : mg "divided" = some (.ref f)) (hb : KBn K fd ["f", "p", "q"] 1 ["p", "q"] (fun us ws => us ++ ws) (fun vs zs => vs ++ zs)) (Cd : CDiv3 P w K mg base) (Cs : CSw P w K mg base) :
    CalK P w K mg base 4 "divided" 1 ["f", "p", "q"] ["p", "q"] (spM (RDvd K)) := by
  refine CalK.pure F sc25 hm hb (fun ms m ⟨_, _, _, _, _, h, _⟩ => by rw [h]; rfl) (fun cdv A outer s H vs E ms m hr hv hR => ?_)
  obtain ⟨φ, p, q, a, b, rfl, hp, hq, hbx, ha, hb', rfl⟩ := hR
  obtain ⟨v, vp, vq, rfl, h0, rfl, rfl⟩ := pd3 hv
  refine s_when (t_is (t_or (t_lt (vI 1) e_int) (fun _ => t_lt (vI 2) e_int)) (d := false) (by rw [decide_eq_false (by omega), decide_eq_false (by omega)]; rfl)) (fun h => absurd h (by decide)) (fun _ H1 e1 => ?_)
  have hbl := hbx.lowX (p := p.toNat) (k := a) (Nat.le_refl _)
  refine s_unp2 (q := fun u w' H' => (∃ ψ', (rC K).R H' u ψ' ∧ Sm ψ') ∧ (rC K).R H' w' (lowX p.toNat a φ)) rfl (EvP.div (e_call Cd (hr.mono (by decide)) (a_cons (vX (r := rC K) 0 ((rC K).mono e1 h0)) (a_cons (vI 1) a_nil)) ⟨φ, p, a, b, rfl, by omega, hbx, ha, by omega, rfl⟩)) (pgs2 (i := 3) (j := 4) sc25.nd) (fun u w' H2 e2 ⟨⟨ψ1, q1, s1⟩, q2⟩ => g2 ?_)
  have hbs := hbl.sw
  refine s_unp2 (q := fun u w' H' => (∃ ψ', (rC K).R H' u ψ' ∧ Sm ψ') ∧ (rC K).R H' w' (lowX q.toNat b (sw (lowX p.toNat a φ)))) rfl (EvP.div (e_call Cd (hr.mono (by decide)) (a_cons (e_call Cs (hr.mono (by decide)) (a_cons (vX (r := rC K) 4 q2) a_nil) (rsw (Sm.ofB hbl (by omega) (by omega)))) (a_cons (vI 2) a_nil)) ⟨_, q, b, a, rfl, by omega, hbs, hb', by omega, rfl⟩)) (pgs2 (i := 5) (j := 6) sc25.nd) (fun u2 w2 H3 e3 ⟨⟨ψ2, q3, s3⟩, q4⟩ => g2 ?_)
  refine s_ret (e_tup (a_cons (vX (r := rC K) 3 ((rC K).mono e3 q1)) (a_cons (e_call Cs (hr.mono (by decide)) (a_cons (vX (r := rC K) 5 q3) a_nil) (rsw s3)) (a_cons (e_call Cs (hr.mono (by decide)) (a_cons (vX (r := rC K) 6 q4) a_nil) (rsw (Sm.ofB (hbs.lowX (Nat.le_refl _)) (by omega) (by omega)))) a_nil))) (by simp)) fun v' H4 e4 ⟨y, vs, h1, h2, h3⟩ => ⟨((e1.trans e2).trans e3).trans e4, ?_⟩
  obtain ⟨x1, x2, x3, rfl, _, _, r3⟩ := pd3 h3
  exact ⟨y, x1, x2, x3, h1, SqT.of h2, r3⟩
end
/-! ### kinds -/
def kindS (k : Nat) : Str := match k with | 0 => "arrow" | 1 => "corner" | 2 => "edge" | _ => "room"
def placesL (k : Nat) : List Int := match k with | 0 => [1, 2, 3] | 1 => [2, 3] | 2 => [1, 3] | _ => [1, 2]
def pick (n : Nm) (j : Int) : C := if j = 0 then n.a else if j = 1 then n.b else if j = 2 then n.c else n.d
def partsL (k : Nat) (n : Nm) : List C := (placesL k).map (pick n)
structure TxtS (w : World) (K : PySem.W.Frag) (mg : Str → Option Value) : Prop where
  kinds : ∃ a, mg "KINDS" = some (.ref a) ∧ ∀ H, SqT K H a [.str "arrow", .str "corner", .str "edge", .str "room"]
  parts : ∃ a, mg "PARTS" = some (.ref a) ∧ ∀ k, k < 4 → ∃ t, KDct K w a (kindS k) (.ref t) ∧ ∀ H, SqT K H t ((placesL k).map V.int)
  goes : ∃ t, mg "MOST_GOES" = some (.int 8 t)
  size : ∃ t, mg "MOST_SIZE" = some (.int 12 t)
  first : ∃ t, mg "FIRST" = some (.int 3 t)
def RNeed (K : PySem.W.Frag) : List MP → MP → Prop := fun ms m => ∃ k : Nat, ms = [kS.is (kindS k)] ∧ k < 4 ∧ m = (kT K kI).is (placesL k)
theorem sc44 : FnScope ["kind"] ["kind"] (defScope (top 44)) := ⟨rfl, rfl, rfl, by decide +kernel, rfl, by decide +kernel, by decide +kernel⟩
theorem kind_in {k : Nat} (h : k < 4) : inV (.str (kindS k)) [.str "arrow", .str "corner", .str "edge", .str "room"] = true := by
  have : k = 0 ∨ k = 1 ∨ k = 2 ∨ k = 3 := by omega
  rcases this with rfl | rfl | rfl | rfl <;> decide +kernel
section
variable {P : Program} {w : World} {K : PySem.W.Frag} {mg : Str → Option Value} {base : Heap} {f : Addr} {fd : FuncData}
theorem ok_needed (F : Fun K "needed" "needed" (top 44) f fd) (S : TxtS w K mg) (hm : mg "needed" = some (.ref f)) (hb : Binds K fd ["kind"] []) : Cal P w K mg base 1 "needed" ["kind"] (spM (RNeed K)) := by
  refine Cal.pure F sc44 hm hb (fun ms m ⟨_, h, _⟩ => by rw [h]; rfl) (fun cdv A outer s H vs E ms m hr hv hR => ?_)
  obtain ⟨k, rfl, hk, rfl⟩ := hR
  obtain ⟨v, rfl, hv0⟩ := pd1 hv
  obtain rfl : v = .str (kindS k) := hv0
  obtain ⟨ak, hak, hks⟩ := S.kinds
  obtain ⟨ap, hap, hps⟩ := S.parts
  obtain ⟨t, hkd, ht⟩ := hps k hk
  refine s_when (d := false) ?_ (fun h => absurd h (by decide)) (fun _ H1 e1 => ?_)
  · exact .of (pt_cmpR op_notIn_seq pE pE rfl) fun H1 e1 Q q => (e_nm (i := 0) (v := .str (kindS k)) rfl : EvP _ _ H1 _).use fun v H2 e2 hv => (e_glob (v := .ref ak) (p := fun v _ => v = .ref ak) hak rfl (fun _ _ => rfl) : EvP _ _ H2 _).use fun u H3 e3 hu => by
      subst hv; subst hu
      refine ⟨ak, _, rfl, .inr (hks H3), rfl, by decide +kernel, _, rfl, ?_⟩
      rw [if_pos rfl, kind_in hk]
      exact q H3 (e2.trans e3)
  · refine s_ret (q := ((kT K kI).is (placesL k)).P) ?_ fun v' H2 e2 q => ⟨e1.trans e2, q⟩
    exact .of (pe_ix ix_kdict pE pE (fun _ _ => rfl)) fun H2 e2 Q q => (e_glob (v := .ref ap) (p := fun v _ => v = .ref ap) hap rfl (fun _ _ => rfl) : EvP _ _ H2 _).use fun u H3 e3 hu => (e_nm (i := 0) (v := .str (kindS k)) rfl : EvP _ _ H3 _).use fun v H4 e4 hv => by
      subst hv; subst hu
      exact ⟨ap, _, .ref t, rfl, rfl, hkd, q _ H4 (e3.trans e4) (kT_int (ht H4))⟩
end
end Wf
/-! D17: parts_of, checked_floor, same. -/
namespace Wf
open PySem PySem.Spec PyProof.Rows L2 Wp
theorem wsz_tot (ts : List Int) : wsz ts = (tot ts : Int) := by
  induction ts with
  | nil => rfl
  | cons k ts ih =>
    have : wsz (k :: ts) = (k.natAbs : Int) + wsz ts := by simp [wsz]
    rw [this, ih, tot_cons]; omega
open Classical in
noncomputable def isZ (φ : C) : Bool := decide (φ = zero)
theorem isZ_iff {φ : C} : isZ φ = true ↔ φ = zero := by simp [isZ]
/-- the rest on the floor p, q -/
def fl (p q : Nat) (φ : C) : C := sw (lowX q 60 (sw (lowX p 60 φ)))
noncomputable def dueB (k : Nat) (n : Nm) (p q : Nat) : Bool := (partsL k n).all fun φ => isZ (fl p q φ)
/-- u against v, reduced -/
def rd (u v : List Int) : List Int := redL (joinL (backL u) v)
/-- two walks that where and same take -/
structure Two (u v : List Int) : Prop where
  hu : u ≠ []
  hv : v ≠ []
  hl : u.length + v.length ≤ 1000
  hr : rd u v ≠ []
  h8 : (rd u v).length ≤ 9
  h12 : tot (rd u v) ≤ 12
theorem Two.nb {u v : List Int} (h : Two u v) : NB (numL (rd u v)) 60 60 := (numL_box h.hr).mono (by have := h.h12; omega) (by have := h.h12; omega)
theorem pick_box {n : Nm} {a b : Nat} (h : NB n a b) (j : Int) : Box (pick n j) a b := by
  unfold pick
  split
  · exact h.a
  · split
    · exact h.b
    · split
      · exact h.c
      · exact h.d
theorem parts_box {n : Nm} {a b : Nat} (h : NB n a b) {k : Nat} {φ : C} (hφ : φ ∈ partsL k n) : Box φ a b := by
  obtain ⟨j, _, rfl⟩ := List.mem_map.mp hφ
  exact pick_box h j
theorem places_mem {k : Nat} {j : Int} (h : j ∈ placesL k) : j = 1 ∨ j = 2 ∨ j = 3 := by
  unfold placesL at h
  split at h <;> simp at h <;> omega
theorem pick_at {n : Nm} {j : Int} (h : j = 1 ∨ j = 2 ∨ j = 3) : atI [n.a, n.b, n.c, n.d] j = some (pick n j) := by
  rcases h with rfl | rfl | rfl <;> rfl
section
variable {X : Cx} {σ : L2.St} {H : Hp} {a : Expr} {pos : Pos} {ψ : C}
/-- == [] of a polynomial -/
theorem e_eqNil {lp : Pos} (hu : X.A.units + 64 < cLine) (ha : EvP (wE X a) σ H ((rC X.K).is ψ).P) : EvP (wE X (.Compare a [.Eq] [.List [] lp] pos)) σ H (kB.is (isZ ψ)).P :=
  .of (pe_cmpR (op_eqD hu) pE pE rfl) fun H1 e1 Q k => ha H1 e1 _ fun v H2 e2 ⟨f, h1, h2, h3⟩ => (n_lst (r := kT3 X.K) (as := []) a_nil (by decide)).evp H2 (e1.trans e2) _ fun u H3 e3 hu =>
    ⟨_, _, (dL (d3 X.K)).dp H3 v f ((rP X.K).mono e3 h1), (dL (d3 X.K)).dp H3 u [] hu, (shpL (n := 1) shp3).shaped (by decide), (shpL (n := 1) shp3).shaped (by decide), k _ _ (e2.trans e3) (by
      rw [eqv_nil]
      show V.bl _ = V.bl _
      congr 1
      cases f with
      | nil => subst h3; exact (isZ_iff.mpr rfl).symm ▸ rfl
      | cons t f =>
        have hd := h2.head
        rw [h3] at hd
        have : ψ ≠ zero := fun z => by rw [z] at hd; exact h2.nz t (by simp) hd.symm
        cases hz : isZ ψ with
        | true => exact absurd (isZ_iff.mp hz) this
        | false => rfl)⟩
theorem e_dvd2 {b : Expr} (ha : EvP (wE X a) σ H ((rDvd X.K).is ψ).P) (hb : EvP (wE X b) σ H (kI.is 2).P) (hs : PlainIx b := by exact fun _ _ => rfl) : EvP (wE X (.Subscript a b pos)) σ H ((rC X.K).is ψ).P :=
  .of (pe_ix ix_tup pE pE hs) fun H1 e1 Q k => ha H1 e1 _ fun v H2 e2 ⟨t, x, y, z, h1, h2, h3⟩ => hb H2 (e1.trans e2) _ fun u H3 e3 eu => ⟨t, _, 2, z, h1, eu, ex_sqt e3 h2, rfl, k _ _ (e2.trans e3) ((rC X.K).mono e3 h3)⟩
theorem e_div1 {b : Expr} (ha : EvP (wE X a) σ H ((rDiv X.K).is ψ).P) (hb : EvP (wE X b) σ H (kI.is 1).P) (hs : PlainIx b := by exact fun _ _ => rfl) : EvP (wE X (.Subscript a b pos)) σ H ((rC X.K).is ψ).P :=
  .of (pe_ix ix_tup pE pE hs) fun H1 e1 Q k => ha H1 e1 _ fun v H2 e2 ⟨t, x, y, ψ', h1, h2, h3, h4, h5⟩ => hb H2 (e1.trans e2) _ fun u H3 e3 eu => ⟨t, _, 1, y, h1, eu, ex_sqt e3 h2, rfl, k _ _ (e2.trans e3) ((rC X.K).mono e3 h5)⟩
theorem e_gInt {x : Str} {i : Int} (h : ∃ t, X.mg x = some (.int i t)) (hg : Gl X x := by rfl) (hd : (x == ("__debug__" : Str)) = false := by decide) : EvP (wE X (.Name x pos)) σ H (kI.is i).P := by
  obtain ⟨t, ht⟩ := h
  exact e_glob (v := .int i) ht ⟨t, rfl⟩ (fun _ _ => rfl) hg hd
end
def RParts (K : PySem.W.Frag) (C : Addr) : List MP → MP → Prop := fun ms m => ∃ (k : Nat) (u v : List Int), ms = [kS.is (kindS k), (rW K C).is u, (rW K C).is v] ∧ k < 4 ∧ Two u v ∧ m = (kL (rC K)).is (partsL k (numL (rd u v)))
def RChk : List MP → MP → Prop := fun ms m => ∃ (k : Nat) (p q : Int), ms = [kS.is (kindS k), kI.is p, kI.is q] ∧ k < 4 ∧ 3 ≤ p ∧ 3 ≤ q ∧ m = kN.is ()
def RSame (K : PySem.W.Frag) (C : Addr) : List MP → MP → Prop := fun ms m => ∃ (k : Nat) (u v : List Int) (p q : Int), ms = [kS.is (kindS k), (rW K C).is u, (rW K C).is v, kI.is p, kI.is q] ∧ k < 4 ∧ Two u v ∧ 3 ≤ p ∧ 3 ≤ q ∧ m = kB.is (dueB k (numL (rd u v)) p.toNat q.toNat)
abbrev N45 : List Str := ["kind", "first", "second", "places", "walk", "number", "at"]
theorem sc45 : FnScope N45 ["kind", "first", "second"] (defScope (top 45)) := ⟨rfl, rfl, rfl, by decide +kernel, rfl, by decide +kernel, by decide +kernel⟩
theorem sc47 : FnScope ["kind", "p", "q"] ["kind", "p", "q"] (defScope (top 47)) := ⟨rfl, rfl, rfl, by decide +kernel, rfl, by decide +kernel, by decide +kernel⟩
abbrev N48 : List Str := ["kind", "first", "second", "p", "q", "part"]
theorem sc48 : FnScope N48 ["kind", "first", "second", "p", "q"] (defScope (top 48)) := ⟨rfl, rfl, rfl, by decide +kernel, rfl, by decide +kernel, by decide +kernel⟩
section
variable {P : Program} {w : World} {K : PySem.W.Frag} {mg : Str → Option Value} {base : Heap} {f : Addr} {fd : FuncData} {C : Addr}
abbrev CNeed (P : Program) (w : World) (K : PySem.W.Frag) (mg : Str → Option Value) (base : Heap) := Cal P w K mg base 1 "needed" ["kind"] (spM (RNeed K))
abbrev CJoin (P : Program) (w : World) (K : PySem.W.Frag) (mg : Str → Option Value) (base : Heap) (C : Addr) := Cal P w K mg base 4 "joined" ["first", "second"] (spM (RJoin K C))
abbrev CNumOf (P : Program) (w : World) (K : PySem.W.Frag) (mg : Str → Option Value) (base : Heap) (C : Addr) := Cal P w K mg base 5 "number_of" ["walk"] (spM (RNumOf K C))
abbrev CParts (P : Program) (w : World) (K : PySem.W.Frag) (mg : Str → Option Value) (base : Heap) (C : Addr) := Cal P w K mg base 6 "parts_of" ["kind", "first", "second"] (spM (RParts K C))
theorem ok_parts (F : Fun K "parts_of" "parts_of" (top 45) f fd) (S : TxtS w K mg) (W : TxtW K C) (hm : mg "parts_of" = some (.ref f)) (hb : Binds K fd ["kind", "first", "second"] []) (Cn : CNeed P w K mg base) (Cj : CJoin P w K mg base C) (Cu : CNumOf P w K mg base C) : CParts P w K mg base C := by
  refine Cal.pure F sc45 hm hb (fun ms m ⟨_, _, _, h, _⟩ => by rw [h]; rfl) (fun cdv A outer s H vs E ms m hr hv hR => ?_)
  obtain ⟨k, u, v, rfl, hk, h2, rfl⟩ := hR
  obtain ⟨vk, x, y, rfl, hvk, q1, q2⟩ := pd3 hv
  obtain rfl : vk = .str (kindS k) := hvk
  refine s_set (i := 3) sc45.nd (e_call Cn (hr.mono (by decide)) (a_cons (m := kS.is (kindS k)) (e_var (i := 0) rfl fun _ _ => rfl) a_nil) ⟨k, rfl, hk, rfl⟩) (fun v3 H1 e1 q3 => ?_)
  refine s_set (i := 4) sc45.nd (e_call Cj (hr.mono (by decide)) (a_cons (vX (r := rW K C) 1 ((rW K C).mono e1 q1)) (a_cons (vX (r := rW K C) 2 ((rW K C).mono e1 q2)) a_nil)) ⟨u, v, rfl, h2.hu, h2.hv, h2.hl, rfl⟩) (fun v4 H2 e2 q4 => ?_)
  have q4 : (rW K C).R H2 v4 (rd u v) := q4
  have l1 := h2.h8
  have l2 := h2.h12
  have l3 := wsz_tot (rd u v)
  refine s_when (t_is (t_or (t_gt (e_goes W (vX (r := rW K C) 4 q4)) (e_gInt S.goes)) (fun _ => t_gt (e_size W (vX (r := rW K C) 4 q4)) (e_gInt S.size))) (d := false) (by rw [decide_eq_false (by omega), decide_eq_false (by omega)]; rfl)) (fun h => absurd h (by decide)) (fun _ H3 e3 => ?_)
  refine s_set (i := 5) sc45.nd (e_call Cu hr (a_cons (vX (r := rW K C) 4 ((rW K C).mono e3 q4)) a_nil) ⟨_, rfl, h2.hr, by omega, rfl⟩) (fun v5 H4 e4 q5 => ?_)
  have h3' := (kT K kI).mono ((e2.trans e3).trans e4) q3
  refine s_ret (EvN.evp (r := rC K) (?_ : EvN _ _ _ (rC K) ((placesL k).map (pick (numL (rd u v)))))) fun v' H5 e5 q => ⟨(((e1.trans e2).trans e3).trans e4).trans e5, q⟩
  exact n_lc (own := [("at", 6)]) (r := kI) (as := placesL k) rfl sc45.nd (pi_tup pE) (blkOk_by (N := N45) (sc := defScope (top 45)) (by decide +kernel)) (fun _ _ _ _ _ => pg_name (i := 6) sc45.nd rfl (.inl rfl))
    (src_tup (vX (r := kT K kI) 3 h3')) (pick (numL (rd u v))) (fun z _ => [some (.str (kindS k)), some x, some y, some v3, some v4, some v5, some z]) (by unfold placesL; split <;> decide) (fun a z H' Q _ _ q => q) (fun _ _ => rfl)
    (fun a z H' ha e6 hz => bE_of fun s H0 C cl fp => e_ixT (r := rC K) (vX (r := kT K (rC K)) 5 (num_list ((rNm K).mono e6 q5))) (e_var (i := 6) rfl (fun _ _ => hz)) (pick_at (places_mem ha)))
theorem ok_chk (F : Fun K "checked_floor" "checked_floor" (top 47) f fd) (hm : mg "checked_floor" = some (.ref f)) (hb : Binds K fd ["kind", "p", "q"] []) (Cn : CNeed P w K mg base) : Cal P w K mg base 2 "checked_floor" ["kind", "p", "q"] (spM RChk) := by
  refine Cal.pure F sc47 hm hb (fun ms m ⟨_, _, _, h, _⟩ => by rw [h]; rfl) (fun cdv A outer s H vs E ms m hr hv hR => ?_)
  obtain ⟨k, p, q, rfl, hk, hp, hq, rfl⟩ := hR
  obtain ⟨vk, vp, vq, rfl, hvk, rfl, rfl⟩ := pd3 hv
  obtain rfl : vk = .str (kindS k) := hvk
  refine s_expr (e_call Cn (hr.mono (by decide)) (a_cons (m := kS.is (kindS k)) (e_var (i := 0) rfl fun _ _ => rfl) a_nil) ⟨k, rfl, hk, rfl⟩) (fun v3 H1 e1 q3 => ?_)
  refine s_when (t_is (t_or (t_lt (vI 1) e_int) (fun _ => t_lt (vI 2) e_int)) (d := false) (by rw [decide_eq_false (by omega), decide_eq_false (by omega)]; rfl)) (fun h => absurd h (by decide)) (fun _ H2 e2 => ?_)
  exact s_nil ⟨e1.trans e2, rfl⟩
theorem ok_same (F : Fun K "same" "same" (top 48) f fd) (T : Txt K mg) (hm : mg "same" = some (.ref f)) (hb : KBn K fd ["kind", "first", "second", "p", "q"] 3 ["p", "q"] (fun us ws => us ++ ws) (fun vs zs => vs ++ zs)) (Cc : Cal P w K mg base 2 "checked_floor" ["kind", "p", "q"] (spM RChk)) (Cp : CParts P w K mg base C)
    (Cd : CalK P w K mg base 4 "divided" 1 ["f", "p", "q"] ["p", "q"] (spM (RDvd K))) : CalK P w K mg base 7 "same" 3 ["kind", "first", "second", "p", "q"] ["p", "q"] (spM (RSame K C)) := by
  refine CalK.pure F sc48 hm hb (fun ms m ⟨_, _, _, _, _, h, _⟩ => by rw [h]; rfl) (fun cdv A outer s H vs E ms m hr hv hR => ?_)
  obtain ⟨k, u, v, p, q, rfl, hk, h2, hp, hq, rfl⟩ := hR
  obtain ⟨vk, x, y, vp, vq, rfl, hvk, q1, q2, rfl, rfl⟩ : ∃ vk x y vp vq, vs = [vk, x, y, vp, vq] ∧ vk = .str (kindS k) ∧ (rW K C).R H x u ∧ (rW K C).R H y v ∧ vp = .int p ∧ vq = .int q := by
    cases hv with | cons r1 hv => cases hv with | cons r2 hv => cases hv with | cons r3 hv => cases hv with | cons r4 hv => cases hv with | cons r5 hv => cases hv; exact ⟨_, _, _, _, _, rfl, r1, r2, r3, r4, r5⟩
  subst hvk
  refine s_expr (e_call Cc (hr.mono (by decide)) (a_cons (m := kS.is (kindS k)) (e_var (i := 0) rfl fun _ _ => rfl) (a_cons (vI 3) (a_cons (vI 4) a_nil))) ⟨k, p, q, rfl, hk, hp, hq, rfl⟩) (fun v3 H1 e1 q3 => ?_)
  have hbx := h2.nb
  refine s_ret (e_all (bs := (partsL k (numL (rd u v))).map fun φ => isZ (fl p.toNat q.toNat φ)) rfl T.all (EvN.evp ?_)) fun v' H5 e5 qq => ⟨e1.trans e5, ?_⟩
  · exact n_lc (own := [("part", 5)]) (r := rC K) (as := partsL k (numL (rd u v))) rfl sc48.nd (pi_list pE) (blkOk_by (N := N48) (sc := defScope (top 48)) (by decide +kernel)) (fun _ _ _ _ _ => pg_name (i := 5) sc48.nd rfl (.inl rfl))
      (src_list (e_call Cp hr (a_cons (m := kS.is (kindS k)) (e_var (i := 0) rfl fun _ _ => rfl) (a_cons (vX (r := rW K C) 1 ((rW K C).mono e1 q1)) (a_cons (vX (r := rW K C) 2 ((rW K C).mono e1 q2)) a_nil))) ⟨k, u, v, rfl, hk, h2, rfl⟩))
      (fun φ => isZ (fl p.toNat q.toNat φ)) (fun z _ => [some (.str (kindS k)), some x, some y, some (.int p), some (.int q), some z]) (by unfold partsL placesL; split <;> simp) (fun a z H' Q _ _ q => q) (fun _ _ => rfl)
      (fun φ z H' hφ e6 hz => bE_of fun s H0 C cl fp => e_eqNil hr.units (e_dvd2 (e_callK2 Cd (hr.mono (by decide)) (a_cons (vX (r := rC K) 5 hz) a_nil) rfl (vI 3) (vI 4) ⟨φ, p, q, 60, 60, rfl, hp, hq, parts_box hbx hφ, by decide, by decide, rfl⟩) e_int))
  · have : dueB k (numL (rd u v)) p.toNat q.toNat = ((partsL k (numL (rd u v))).map fun φ => isZ (fl p.toNat q.toNat φ)).all id := by
      unfold dueB; rw [List.all_map]; rfl
    rw [this]; exact qq
end
end Wf
/-! D18: tables: columns_of, without_copies, least_table. -/
namespace Wf
open PySem PySem.Spec PyProof.Rows L2 Wp
def colsL (rs : List (List Bool)) : List (List Bool) := (List.range (rs.headD []).length).map fun j => rs.map fun r => r.getD j false
def wcS : List (List Bool) → List (List Bool)
  | a :: b :: r => if a = b then wcS (b :: r) else a :: b :: r
  | l => l
def wcL (rs : List (List Bool)) : List (List Bool) := (wcS rs.reverse).reverse
def leastT (rs : List (List Bool)) : List (List Bool) := colsL (wcL (colsL (wcL rs)))
abbrev kTab (K : PySem.W.Frag) : Rep (List (List Bool)) := kL (kT K kB)
def RCols (K : PySem.W.Frag) : List MP → MP → Prop := fun ms m => ∃ (rs : List (List Bool)) (n : Nat), ms = [(kTab K).is rs] ∧ rs ≠ [] ∧ (∀ r ∈ rs, r.length = n) ∧ rs.length ≤ 1000 ∧ n ≤ 1000 ∧ m = (kTab K).is (colsL rs)
abbrev N9 : List Str := ["rows", "j", "row"]
theorem sc9 : FnScope N9 ["rows"] (defScope (top 9)) := ⟨rfl, rfl, rfl, by decide +kernel, rfl, by decide +kernel, by decide +kernel⟩
section
variable {X : Cx} {σ : L2.St} {H : Hp} {ta : TA}
theorem srcP_r1 {n : Int} (h : EvA ta σ H [kI.is n]) (hn : n ≤ 2 ^ 60) (hn' : -(2 ^ 60) ≤ n) : SrcP (iRng1 ta) σ H kI (iota 0 n.toNat) := src_mp fun H1 e => src_r1 (fun H2 a => h H2 (e.trans a)) hn hn'
theorem srcP_r2 {lo n : Int} (h : EvA ta σ H [kI.is lo, kI.is n]) (hn : -(2 ^ 60) ≤ lo ∧ lo ≤ 2 ^ 60 ∧ -(2 ^ 60) ≤ n ∧ n ≤ 2 ^ 60) : SrcP (iRng2 ta) σ H kI (iota lo (n - lo).toNat) := src_mp fun H1 e => src_r2 (fun H2 a => h H2 (e.trans a)) hn
end
theorem iota_mem {lo : Int} {n : Nat} {a : Int} (h : a ∈ iota lo n) : ∃ i : Nat, i < n ∧ a = lo + i := by
  obtain ⟨i, hi⟩ := List.getElem?_of_mem h
  exact ⟨i, iota_get hi⟩
def colF (rs : List (List Bool)) (j : Int) : List Bool := rs.map fun r => r.getD j.toNat false
def rowF (j : Int) (r : List Bool) : Bool := r.getD j.toNat false
theorem colF_eq (rs : List (List Bool)) (j : Int) : colF rs j = rs.map (rowF j) := rfl
theorem colsL_iota {rs : List (List Bool)} {n : Nat} (h : (rs.headD []).length = n) : colsL rs = (iota 0 n).map (colF rs) := by
  unfold colsL iota
  rw [h, List.map_map]
  apply List.map_congr_left
  intro j _
  simp [colF]
section
variable {P : Program} {w : World} {K : PySem.W.Frag} {mg : Str → Option Value} {base : Heap} {f : Addr} {fd : FuncData} {C : Addr}
theorem ok_cols (F : Fun K "columns_of" "columns_of" (top 9) f fd) (T : Txt K mg) (hm : mg "columns_of" = some (.ref f)) (hb : Binds K fd ["rows"] []) : Cal P w K mg base 1 "columns_of" ["rows"] (spM (RCols K)) := by
  refine Cal.pure F sc9 hm hb (fun ms m ⟨_, _, h, _⟩ => by rw [h]; rfl) (fun cdv A outer s H vs E ms m hr hv hR => ?_)
  obtain ⟨rs, n, rfl, hne, hn, hl, hn1, rfl⟩ := hR
  obtain ⟨v, rfl, h0⟩ := pd1 hv
  obtain ⟨r0, rt, rfl⟩ : ∃ a r, rs = a :: r := by cases rs with | nil => exact absurd rfl hne | cons a r => exact ⟨_, _, rfl⟩
  have h0l : r0.length = n := hn _ (by simp)
  refine s_ret (EvN.evp (r := kT K kB) (as := colsL (r0 :: rt)) ?_) fun v' H2 e2 q => ⟨e2, q⟩
  rw [colsL_iota (rs := r0 :: rt) (n := n) h0l]
  have hat : ∀ (i : Nat), i < n → ∀ r ∈ r0 :: rt, atI r (0 + (i : Int)) = some (r.getD (0 + (i : Int)).toNat false) := fun i hi r hr => by
    have hrl := hn r hr
    have ez : (0 : Int) + (i : Int) = (i : Int) := by omega
    rw [ez]
    refine atI_nat ?_
    rw [show ((i : Int)).toNat = i by omega, List.getD_eq_getElem?_getD, List.getElem?_eq_getElem (by omega)]; rfl
  refine n_lc (own := [("j", 1)]) (r := kI) (rc := kT K kB) (as := iota 0 n) (g := gName 1) rfl sc9.nd (pi_range1 (by rfl) T.range pA) (blkOk_by (N := N9) (sc := defScope (top 9)) (by decide +kernel)) ?_ ?_ (colF (r0 :: rt)) (fun z _ => [some v, some z, none]) ?_ ?_ ?_ ?_
  · exact fun _ _ _ _ _ => pg_name (i := 1) sc9.nd rfl (.inr rfl)
  · exact srcP_r1 (n := (n : Int)) (a_cons (EvP.imp (e_lenT (r := kB) (as := r0) T.len (e_ixL (r := kT K kB) (vX (r := kTab K) 0 h0) e_int (at_head rfl))) fun v _ _ h => by rw [h0l] at h; exact h) a_nil) (by omega) (by omega)
  · rw [iota_len]; omega
  · exact fun a z H' Q _ _ q => q
  · exact fun _ _ => rfl
  · refine fun j z H' hj e1 hz => bE_of fun s H0 C cl fp => e_tupL (r := kB) T.tuple (EvN.evp ?_)
    refine n_lc (own := [("row", 2)]) (r := kT K kB) (rc := kB) (as := r0 :: rt) (g := gName 2) rfl sc9.nd (pi_list pE) (blkOk_by (N := N9) (sc := ⟨.function, [(".0", .local), ("j", .cell), ("tuple", .globalImplicit), ("rows", .cell)], false, false, []⟩) (scope := ⟨.function, [(".0", .local), ("row", .local), ("j", .free)], false, false, []⟩) (own := [("row", 2)]) (by decide +kernel)) ?_ (src_list (vX (r := kTab K) 0 ((kTab K).mono e1 h0))) (rowF j) (fun y _ => [some v, some z, some y]) ?_ ?_ ?_ ?_
    · exact fun _ _ _ _ _ => pg_name (i := 2) sc9.nd rfl (.inl rfl)
    · omega
    · exact fun a z H' Q _ _ q => q
    · exact fun _ _ => rfl
    · refine fun r y H2 hr e2 hy => bE_of fun s H0 C cl fp => e_ixT (r := kB) (vX (r := kT K kB) 2 hy) (e_v (i := 1) (m := kI.is j) rfl hz) ?_
      obtain ⟨i, hi, rfl⟩ := iota_mem hj
      exact hat i hi r hr
end
end Wf
/-! D19: without_copies, least_table. -/
namespace Wf
open PySem PySem.Spec PyProof.Rows L2 Wp
def RWc (K : PySem.W.Frag) : List MP → MP → Prop := fun ms m => ∃ (rs : List (List Bool)), ms = [(kTab K).is rs] ∧ rs.length ≤ 1000 ∧ m = (kTab K).is (wcL rs)
def RLt (K : PySem.W.Frag) : List MP → MP → Prop := fun ms m => ∃ (rs : List (List Bool)) (n : Nat), ms = [(kL (kL kB)).is rs] ∧ rs ≠ [] ∧ (∀ r ∈ rs, r.length = n) ∧ 0 < n ∧ rs.length ≤ 1000 ∧ n ≤ 1000 ∧ m = (kT K (kT K kB)).is (leastT rs)
abbrev N10 : List Str := ["rows", "kept"]
theorem sc10 : FnScope N10 ["rows"] (defScope (top 10)) := ⟨rfl, rfl, rfl, by decide +kernel, rfl, by decide +kernel, by decide +kernel⟩
abbrev N11 : List Str := ["rows", "kept", "columns", "row"]
theorem sc11 : FnScope N11 ["rows"] (defScope (top 11)) := ⟨rfl, rfl, rfl, by decide +kernel, rfl, by decide +kernel, by decide +kernel⟩
theorem at_last2 {α : Type} {l r : List α} {x y : α} (h : l = r ++ [y] ++ [x]) : atI l (-2) = some y := by
  have hl : l.length = r.length + 2 := by rw [h]; simp
  unfold atI ixN
  rw [if_neg (by omega), if_pos (by omega)]
  show l[(-2 + (l.length : Int)).toNat]? = some y
  rw [show (-2 + (l.length : Int)).toNat = r.length by omega, h]
  simp
theorem wcS_mem {r : List Bool} : ∀ {l : List (List Bool)}, r ∈ wcS l → r ∈ l
  | [], h => h
  | [a], h => h
  | a :: b :: t, h => by
    unfold wcS at h
    split at h
    · exact List.mem_cons.mpr (.inr (wcS_mem h))
    · exact h
theorem wcS_ne : ∀ {l : List (List Bool)}, l ≠ [] → wcS l ≠ []
  | [a], _ => by simp [wcS]
  | a :: b :: t, _ => by
    unfold wcS
    split
    · exact wcS_ne (by simp)
    · simp
theorem wcS_len : ∀ (l : List (List Bool)), (wcS l).length ≤ l.length
  | [] => Nat.le_refl _
  | [a] => Nat.le_refl _
  | a :: b :: t => by
    unfold wcS
    split
    · have := wcS_len (b :: t); simp only [List.length_cons] at this ⊢; omega
    · exact Nat.le_refl _
theorem wcL_mem {r : List Bool} {l : List (List Bool)} (h : r ∈ wcL l) : r ∈ l := by
  unfold wcL at h
  have := wcS_mem (List.mem_reverse.mp h)
  exact List.mem_reverse.mp this
theorem wcL_ne {l : List (List Bool)} (h : l ≠ []) : wcL l ≠ [] := by
  unfold wcL
  intro z
  exact wcS_ne (l := l.reverse) (by simpa using h) (by simpa using z)
theorem wcL_len (l : List (List Bool)) : (wcL l).length ≤ l.length := by
  unfold wcL
  have := wcS_len l.reverse
  simpa using this
theorem colsL_len (l : List (List Bool)) : (colsL l).length = (l.headD []).length := by simp [colsL]
theorem colsL_mem {l : List (List Bool)} {r : List Bool} (h : r ∈ colsL l) : r.length = l.length := by
  unfold colsL at h
  obtain ⟨j, _, rfl⟩ := List.mem_map.mp h
  simp
theorem headD_mem {l : List (List Bool)} (h : l ≠ []) : l.headD [] ∈ l := by cases l with | nil => exact absurd rfl h | cons a r => simp
section
variable {P : Program} {w : World} {K : PySem.W.Frag} {mg : Str → Option Value} {base : Heap} {f : Addr} {fd : FuncData} {C : Addr}
theorem ok_wc (F : Fun K "without_copies" "without_copies" (top 10) f fd) (T : Txt K mg) (hm : mg "without_copies" = some (.ref f)) (hb : Binds K fd ["rows"] []) : Cal P w K mg base 1 "without_copies" ["rows"] (spM (RWc K)) := by
  refine Cal.pure F sc10 hm hb (fun ms m ⟨_, h, _⟩ => by rw [h]; rfl) (fun cdv A outer s H vs E ms m hr hv hR => ?_)
  obtain ⟨rs, rfl, hl, rfl⟩ := hR
  obtain ⟨v, rfl, h0⟩ := pd1 hv
  refine s_setN (i := 1) (r := kT K kB) (as := rs) sc10.nd (n_listL T.list (vX (r := kTab K) 0 h0)) (fun a xs H1 e1 hn hx => ?_)
  have o0 := OL.mk0 (r := kT K kB) e1 hn hx
  refine s_while PassesOwn.never (fun m σ' H' => σ' = [some v, some (.ref a)] ∧ ∃ st : List (List Bool), OL (kT K kB) H H' a st.reverse ∧ wcS st = wcS rs.reverse ∧ m = st.length) rs.length ⟨rfl, rs.reverse, by rw [List.reverse_reverse]; exact o0, rfl, by simp⟩ ?_
  rintro m σ' H' ⟨rfl, st, ho, hw, rfl⟩
  rcases st with _ | ⟨x, _ | ⟨y, r⟩⟩
  · refine ⟨false, t_and (c := false) (d := false) (t_is (t_gt (e_lenL (r := kT K kB) (as := []) T.len (vX (r := kTab K) (v := .ref a) 1 ho.list)) e_int) rfl) (fun h => absurd h (by decide)), fun h => absurd h (by decide), fun _ H2 e2 => ?_⟩
    refine s_ret (vX (r := kTab K) (v := .ref a) 1 (ho.mono e2).list) fun v' H3 e3 q => ⟨(ho.mono e2).ex.trans e3, ?_⟩
    have : wcL rs = [] := by unfold wcL; rw [← hw]; rfl
    rw [this]; exact q
  · refine ⟨false, t_and (c := false) (d := false) (t_is (t_gt (e_lenL (r := kT K kB) (as := [x]) T.len (vX (r := kTab K) (v := .ref a) 1 ho.list)) e_int) rfl) (fun h => absurd h (by decide)), fun h => absurd h (by decide), fun _ H2 e2 => ?_⟩
    refine s_ret (vX (r := kTab K) (v := .ref a) 1 (ho.mono e2).list) fun v' H3 e3 q => ⟨(ho.mono e2).ex.trans e3, ?_⟩
    have : wcL rs = [x] := by unfold wcL; rw [← hw]; rfl
    rw [this]; exact q
  · have hrev : (x :: y :: r).reverse = r.reverse ++ [y] ++ [x] := by simp
    refine ⟨decide (x = y), t_is (t_and (c := true) (d := decide (x = y)) (t_is (t_gt (e_lenL (r := kT K kB) (as := (x :: y :: r).reverse) T.len (vX (r := kTab K) (v := .ref a) 1 ho.list)) e_int) (decide_eq_true (by simp; omega))) (fun _ => t_is (t_eqD (n := 1) (dT (daB K)) (dT (daB K)) hr.units
      (e_ixL (r := kT K kB) (a0 := x) (vX (r := kTab K) (v := .ref a) 1 ho.list) (e_neg e_int) (at_last (by rw [hrev]; simp))) (e_ixL (r := kT K kB) (a0 := y) (vX (r := kTab K) (v := .ref a) 1 ho.list) (e_neg e_int) (at_last2 hrev)) (shpT shpB) (shpT shpB) (by decide)) (eqvT eqvB x y))) (by simp), fun h H2 e2 => ?_, fun h H2 e2 => ?_⟩
    · have hxy : x = y := of_decide_eq_true h
      subst hxy
      obtain ⟨xs, h1, h2⟩ := (ho.mono e2).at'
      have hxl : xs.length = r.length + 2 := by have := pd_len h2; simpa using this
      obtain ⟨lst, hlst⟩ : ∃ z, xs[xs.length - 1]? = some z := ⟨_, List.getElem?_eq_getElem (by omega)⟩
      refine s_exprW (w_pop (y := lst) h1 hlst (e_nm (i := 1) rfl) fun H3 e3 => ?_)
      refine s_nil ⟨(x :: r).length, by simp, rfl, x :: r, ?_, ?_, rfl⟩
      · refine (((ho.mono e2).mono e3).put (xs := xs.dropLast) ?_)
        have h2' : Paired ((kT K kB).R (hd H3 a)) xs (x :: x :: r).reverse := pd_mono h2 fun _ _ q => (kT K kB).mono (hd_ex e3 h1) q
        have := pd_take (xs.length - 1) h2'
        rw [← List.dropLast_eq_take] at this
        rw [hxl] at this
        have e : (x :: x :: r).reverse.take (r.length + 2 - 1) = (x :: r).reverse := by
          rw [List.reverse_cons, List.take_append_of_le_length (by simp)]
          apply List.take_of_length_le
          simp
        rw [e] at this; exact this
      · rw [← hw]; symm; rw [wcS, if_pos rfl]
    · have hxy : x ≠ y := of_decide_eq_false h
      refine s_ret (vX (r := kTab K) (v := .ref a) 1 (ho.mono e2).list) fun v' H3 e3 q => ⟨(ho.mono e2).ex.trans e3, ?_⟩
      have : wcL rs = (x :: y :: r).reverse := by unfold wcL; rw [← hw, wcS, if_neg hxy]
      rw [this]; exact q
end
end Wf
/-! D20: least_table, the class Floors. -/
namespace Wf
open PySem PySem.Spec PyProof.Rows L2 Wp
theorem EvN.cast {α : Type} {te : TE} {σ : L2.St} {H : Hp} {r : Rep α} {as bs : List α} (e : as = bs) (h : EvN te σ H r as) : EvN te σ H r bs := e ▸ h
section
variable {P : Program} {w : World} {K : PySem.W.Frag} {mg : Str → Option Value} {base : Heap} {f : Addr} {fd : FuncData} {C : Addr}
abbrev CWc (P : Program) (w : World) (K : PySem.W.Frag) (mg : Str → Option Value) (base : Heap) := Cal P w K mg base 1 "without_copies" ["rows"] (spM (RWc K))
abbrev CCols (P : Program) (w : World) (K : PySem.W.Frag) (mg : Str → Option Value) (base : Heap) := Cal P w K mg base 1 "columns_of" ["rows"] (spM (RCols K))
abbrev CLt (P : Program) (w : World) (K : PySem.W.Frag) (mg : Str → Option Value) (base : Heap) := Cal P w K mg base 2 "least_table" ["rows"] (spM (RLt K))
theorem ok_lt (F : Fun K "least_table" "least_table" (top 11) f fd) (T : Txt K mg) (hm : mg "least_table" = some (.ref f)) (hb : Binds K fd ["rows"] []) (Cw : CWc P w K mg base) (Cc : CCols P w K mg base) : CLt P w K mg base := by
  refine Cal.pure F sc11 hm hb (fun ms m ⟨_, _, h, _⟩ => by rw [h]; rfl) (fun cdv A outer s H vs E ms m hr hv hR => ?_)
  obtain ⟨rs, n, rfl, hne, hn, hn0, hl, hn1, rfl⟩ := hR
  obtain ⟨v, rfl, h0⟩ := pd1 hv
  have a1 := wcL_ne hne
  have a2 : ∀ r ∈ wcL rs, r.length = n := fun r h => hn r (wcL_mem h)
  have a3 := wcL_len rs
  have a4 : ((wcL rs).headD []).length = n := a2 _ (headD_mem a1)
  have b0 : (colsL (wcL rs)).length = n := (colsL_len _).trans a4
  have b1 : colsL (wcL rs) ≠ [] := fun z => by rw [z] at b0; simp at b0; omega
  have c1 := wcL_ne b1
  have c2 : ∀ r ∈ wcL (colsL (wcL rs)), r.length = (wcL rs).length := fun r h => colsL_mem (wcL_mem h)
  have c3 := wcL_len (colsL (wcL rs))
  have c4 : ((wcL (colsL (wcL rs))).headD []).length = (wcL rs).length := c2 _ (headD_mem c1)
  refine s_set (i := 1) sc11.nd (e_call Cw hr (a_cons (m := (kTab K).is rs) (EvN.evp (r := kT K kB) ?_) a_nil) ⟨rs, rfl, hl, rfl⟩) (fun v1 H1 e1 q1 => ?_)
  · refine EvN.cast (List.map_id rs) ?_
    exact n_lc (own := [("row", 3)]) (r := kL kB) (as := rs) rfl sc11.nd (pi_list pE) (blkOk_by (N := N11) (sc := defScope (top 11)) (by decide +kernel)) (fun _ _ _ _ _ => pg_name (i := 3) sc11.nd rfl (.inl rfl))
      (src_list (vX (r := kL (kL kB)) 0 h0)) id (fun y _ => [some v, none, none, some y]) (by omega) (fun a z H' Q _ _ q => q) (fun _ _ => rfl)
      (fun r y H2 hr e2 hy => bE_of fun s H0 C cl fp => e_tupL (r := kB) T.tuple (vX (r := kL kB) 3 hy))
  refine s_set (i := 2) sc11.nd (e_call Cw hr (a_cons (m := (kTab K).is (colsL (wcL rs))) (e_call Cc hr (a_cons (vX (r := kTab K) 1 q1) a_nil) ⟨wcL rs, n, rfl, a1, a2, by omega, hn1, rfl⟩) a_nil) ⟨_, rfl, by omega, rfl⟩) (fun v2 H2 e2 q2 => ?_)
  exact s_ret (e_tupL (r := kT K kB) T.tuple (e_call Cc hr (a_cons (vX (r := kTab K) 2 q2) a_nil) ⟨_, (wcL rs).length, rfl, c1, c2, by omega, by omega, rfl⟩)) fun v' H3 e3 q => ⟨(e1.trans e2).trans e3, q⟩
end
end Wf
/-! D21: the class Floors. -/
namespace Wf
open PySem PySem.Spec PyProof.Rows L2 Wp
def inFl (j : Nat) : Stmt := inClass (top 14) j
def fFs (t : Addr) : List (Str × V) := putF "rows" (.ref t) []
theorem fFs_r {t : Addr} : (fFs t).lookup ("rows" : Str) = some (.ref t) := by unfold fFs; rw [lookup_putF, if_pos rfl]
theorem fFs_m {t : Addr} {m : Str} (h : ¬ m = "rows") : (fFs t).lookup m = none := by unfold fFs; rw [lookup_putF, if_neg h]; rfl
abbrev kTT (K : PySem.W.Frag) : Rep (List (List Bool)) := kT K (kT K kB)
def rF (K : PySem.W.Frag) (C : Addr) : Rep (List (List Bool)) := ⟨fun H v rs => ∃ p dx t, v = .ref p ∧ H p = some (.ins C dx (fFs t)) ∧ (kTT K).R H (.ref t) rs, fun e ⟨p, dx, t, h1, h2, h3⟩ => ⟨p, dx, t, h1, e _ _ h2, (kTT K).mono e h3⟩⟩
structure TxtF (K : PySem.W.Frag) (C : Addr) : Prop where
  cl : Cls K C
  nr : NoAttr K C "rows"
  ic : C8.InsC K C
  nf : PySem.W.notFirst K C (.ref C) = true
theorem tt_upd {K : PySem.W.Frag} {H : Hp} {b : Addr} {o : HO} {v : V} {rs : List (List Bool)} (hb : ∀ ys, H b ≠ some (.tup ys)) (hf : ∀ ob u, H b ≠ some (.frz ob u)) (h : (kTT K).R H v rs) : (kTT K).R (upd H b o) v rs := by
  obtain ⟨p, xs, h1, h2, h3⟩ := h
  exact ⟨p, xs, h1, sqt_upd h2 hb hf, pd_mono h3 fun _ _ ⟨q, ys, h4, h5, h6⟩ => ⟨q, ys, h4, sqt_upd h5 hb hf, h6⟩⟩
def spFI (K : PySem.W.Frag) (C : Addr) : Sp := fun vs H Q _ => ∃ (x dx : Addr) (v : V) (rs : List (List Bool)) (n : Nat), vs = [.ref x, v] ∧ H x = some (.ins C dx []) ∧ (kL (kL kB)).R (hd H x) v rs ∧ rs ≠ [] ∧ (∀ r ∈ rs, r.length = n) ∧ 0 < n ∧ rs.length ≤ 1000 ∧ n ≤ 1000 ∧
  ∀ H' t, Ex (hd H x) H' → H' x = some (.ins C dx (fFs t)) → (kTT K).R H' (.ref t) (leastT rs) → Q .non H'
abbrev N140 : List Str := ["self", "rows", "at", "row"]
theorem sc140 : FnScope N140 ["self", "rows"] (defScope (inFl 0)) := ⟨rfl, rfl, rfl, by decide +kernel, rfl, by decide +kernel, by decide +kernel⟩
abbrev N144 : List Str := ["self", "floor", "p", "q", "row"]
theorem sc144 : FnScope N144 ["self", "floor"] (defScope (inFl 4)) := ⟨rfl, rfl, rfl, by decide +kernel, rfl, by decide +kernel, by decide +kernel⟩
theorem sc145 : FnScope ["self", "other"] ["self", "other"] (defScope (inFl 5)) := ⟨rfl, rfl, rfl, by decide +kernel, rfl, by decide +kernel, by decide +kernel⟩
section
variable {X : Cx} {σ : L2.St} {H : Hp} {D : Ends} {rest : List Stmt} {e : Expr} {pos apos : Pos} {C : Addr} {rs : List (List Bool)}
theorem e_rows (W : TxtF X.K C) (h : EvP (wE X e) σ H ((rF X.K C).is rs).P) (hb : attributeBase e "rows" X.env (eval e X.env) = eval e X.env := by rfl) : EvP (wE X (.Attribute e "rows" pos)) σ H ((kTT X.K).is rs).P :=
  e_fldR W.cl W.nr h (fun v H' ⟨p, dx, t, h1, h2, h3⟩ => ⟨p, dx, _, _, h1, h2, fFs_r, h3⟩) hb
/-- for i, x in enumerate(a list that stands) -/
theorem s_forEL {α : Type} {r : Rep α} {as : List α} {x y : Str} {px py tpos p : Pos} {kk i j : Nat} {body : List Stmt} (hc : X.calm = true) (hp : PassesOwn (model X.prog X.w) X.A X.env X.xe) (hN : X.N.Nodup) (hm : X.mg "enumerate" = none) (he : EvP (wE X e) σ H ((kL r).is as).P)
    (Pv : Nat → L2.St → Hp → Prop) (h0 : ∀ H2, Ex H H2 → Pv 0 σ H2) (hx : ∀ i σ' H' H'', Pv i σ' H' → Ex H' H'' → Pv i σ' H'')
    (hs : ∀ n a v σ' H', as[n]? = some a → r.R H' v a → Pv n σ' H' → ∀ Hb, Ex Hb H' → wS X body { nx := fun σ3 H3 => Ex Hb H3 ∧ Pv (n + 1) σ3 H3, rt := D.rt, ct := fun σ3 H3 => Ex Hb H3 ∧ Pv (n + 1) σ3 H3, bk := wS X rest D } ((σ'.set i (some (.int (n : Nat)))).set j (some v)) H') (hd : ∀ σ' H', Pv as.length σ' H' → wS X rest D σ' H')
    (hg : Gl X "enumerate" := by rfl) (h1 : X.N[i]? = some x := by rfl) (h2 : X.N[j]? = some y := by rfl) (l1 : Loc X.env.scope x := by first | exact Or.inl rfl | exact Or.inr rfl) (l2 : Loc X.env.scope y := by first | exact Or.inl rfl | exact Or.inr rfl)
    (f1 : X.fn x = true ∨ X.env.scope.names.lookup x = some .local := by first | exact .inl rfl | exact .inr rfl) (f2 : X.fn y = true ∨ X.env.scope.names.lookup y = some .local := by first | exact .inl rfl | exact .inr rfl)
    (c1 : (assignEach [.Name x px, .Name y py] X.env).map (·.2) = assign (.Name x px) X.env :: (assignEach [.Name y py] X.env).map (·.2) := by rfl) (c2 : (assignEach [.Name y py] X.env).map (·.2) = assign (.Name y py) X.env :: (assignEach [] X.env).map (·.2) := by rfl)
    (hn : (assignEach [.Name x px, .Name y py] X.env).length = 2 := by rfl) (hst : (assignEach [.Name x px, .Name y py] X.env).findIdx? (·.1) = none := by rfl)
    (hse : starEach [e] X.env = (false, eval e X.env) :: starEach [] X.env := by rfl) (hs1 : starEach [e] X.env = [(false, eval e X.env)] := by rfl)
    (hf : ∀ z, foldedSetIterable (.Call (.Name "enumerate" p) [e] [] apos) X.env z = pure z := by intro _; rfl) :
    wS X (.For (.Tuple [.Name x px, .Name y py] kk tpos) (.Call (.Name "enumerate" p) [e] [] apos) body [] pos :: rest) D σ H :=
  wS.cons (ps_for hp hc (pi_enum hg hm (pa_cons pE pa_nil hse) hs1) (pg_tup hc (pgs_cons (pg_name hN h1 l1 f1) (pgs_cons (pg_name hN h2 l2 f2) pgs_nil c2) c1) hn hst) pS hf) (he H ex_refl _ fun v H2 e2 ⟨q, xs, ev, hq, hxs⟩ => ⟨q, xs, by rw [ev], SqL.of hq, by
    have hw := walk_enum (K := X.K) (a := q) (xs := xs)
    refine for_it (D := { D with nx := wS X rest D }) hw (fun n σ' H' => Ex H2 H' ∧ Pv n σ' H') ⟨ex_refl, h0 H2 e2⟩ (fun n σ' H' _ p => SqL.of (p.1 _ _ hq)) (fun n z σ' H1 H' hlt p y => ?_) fun σ' H' p => hd σ' H' (by rw [← pd_len hxs]; exact p.2)
    obtain ⟨T, u, w, rfl, hT, rfl, hu, hw⟩ := y
    cases hu
    obtain ⟨a, ha, hr⟩ := pd_get hxs hw
    have eT : Ex H1 (upd H1 T (.tup [.int (n : Nat), w])) := ex_new hT
    exact ⟨T, _, rfl, SqT.of upd_same, rfl, _, _, rfl, _, _, rfl, rfl, hs n a w σ' _ ha (r.mono (p.1.trans eT) hr) (hx _ _ _ _ p.2 eT) H2 (p.1.trans eT)⟩⟩)
end
section
variable {P : Program} {w : World} {K : PySem.W.Frag} {mg : Str → Option Value} {base : Heap} {f : Addr} {fd : FuncData} {C : Addr}
theorem ok_finit (F : Fun K "__init__" "Floors.__init__" (inFl 0) f fd) (T : Txt K mg) (W : TxtF K C) (hm : mg "Floors" = some (.ref C)) (M : Mk K C f) (hb : Binds K fd ["self", "rows"] []) (Cl : CLt P w K mg base) : Mak P w K mg base 3 "Floors" C ["self", "rows"] (spFI K C) := by
  refine ⟨f, fd, F.ok sc140 (fun vs H Q E ⟨_, _, _, _, _, h, _⟩ => by rw [h]; rfl) (fun cdv A outer s H vs Q E hr hs => ⟨_, pS, ?_⟩), M, hm, hb⟩
  obtain ⟨x, dx, v, rs, n, rfl, hx, h0, hne, hn, hn0, hl, hn1, k⟩ := hs
  obtain ⟨r0, rt, rfl⟩ : ∃ a r, rs = a :: r := by cases rs with | nil => exact absurd rfl hne | cons a r => exact ⟨_, _, rfl⟩
  have h0' : (kL (kL kB)).R H v (r0 :: rt) := (kL (kL kB)).mono ex_hd h0
  refine s_when (d := false) (t_is (t_eqI (e_lenL (r := kL kB) T.len (vX (r := kL (kL kB)) 1 h0')) e_int) (decide_eq_false (by simp; omega))) (fun h => absurd h (by decide)) (fun _ H1 e1 => ?_)
  refine s_forEL (i := 2) (j := 3) (r := kL kB) (as := r0 :: rt) rfl PassesOwn.never sc140.nd T.enumerate (vX (r := kL (kL kB)) 1 ((kL (kL kB)).mono e1 h0'))
    (fun i σ' H' => ∃ a b, σ' = [some (.ref x), some v, a, b] ∧ Ex H H') (fun H2 e2 => ⟨_, _, rfl, e1.trans e2⟩) (fun i σ' H' H'' ⟨a, b, h1, h2⟩ e => ⟨a, b, h1, h2.trans e⟩) ?_ ?_
  · rintro i r y σ' H' hi hy ⟨a, b, rfl, he⟩ Hb eb
    have hrl := hn r (List.mem_of_getElem? hi)
    refine s_when (t_is (t_or (t_eqI (e_lenL (r := kB) T.len (vX (r := kL kB) 3 hy)) e_int) (fun _ => t_neI (e_lenL (r := kB) T.len (vX (r := kL kB) 3 hy)) (e_lenL (r := kB) (as := r0) T.len (e_ixL (r := kL kB) (vX (r := kL (kL kB)) 1 ((kL (kL kB)).mono he h0')) e_int (at_head rfl))))) (d := false) ?_) (fun h => absurd h (by decide)) (fun _ H2 e2 => ?_)
    · rw [hrl, hn r0 (by simp), decide_eq_false (by omega)]; simp
    · exact s_nil ⟨eb.trans e2, _, _, rfl, he.trans e2⟩
  · rintro σ' H' ⟨a, b, rfl, he⟩
    have hx' := he _ _ hx
    refine s_fld (a := x) (q := fun v' H2 => ((kTT K).is (leastT (r0 :: rt))).P v' H2) W.cl W.nr ?_ (e_nm (i := 0) rfl) hx' (by decide) (fun v1 H2 e2 q1 => ?_) (fun v H' H'' e h => (kTT K).mono e h)
    · exact e_call Cl hr (a_cons (vX (r := kL (kL kB)) 1 ((kL (kL kB)).mono he h0')) a_nil) ⟨_, n, rfl, hne, hn, hn0, hl, hn1, rfl⟩
    · obtain ⟨t, ys, rfl, q2, q3⟩ := id q1
      have x2 : H2 x = some (.ins C dx []) := e2 _ _ hx'
      have nt : (∀ ys, H2 x ≠ some (.tup ys)) ∧ ∀ ob u, H2 x ≠ some (.frz ob u) := ⟨fun ys z => (by rw [x2] at z; cases z), fun ob u z => (by rw [x2] at z; cases z)⟩
      exact s_nil (k _ t (Evl.Ex.mut ((ex_hd.trans he).trans e2) hd_same) upd_same (tt_upd nt.1 nt.2 q1))
end
end Wf
/-! D22: Floors(..), in, ==; where. -/
namespace Wf
open PySem PySem.Spec PyProof.Rows L2 Wp
def rowAt (rs : List (List Bool)) (p : Int) : List Bool := rs.getD (min (p - 3) ((rs.length : Int) - 1)).toNat []
def inT (rs : List (List Bool)) (p q : Int) : Bool := if p < 3 ∨ q < 3 then false else (rowAt rs p).getD (min (q - 3) (((rowAt rs p).length : Int) - 1)).toNat false
def RIn (K : PySem.W.Frag) (C : Addr) : List MP → MP → Prop := fun ms m => ∃ (rs : List (List Bool)) (p q : Int), ms = [(rF K C).is rs, kT2.is (p, q)] ∧ rs ≠ [] ∧ (∀ r ∈ rs, r ≠ []) ∧ m = kB.is (inT rs p q)
def REq (K : PySem.W.Frag) (C : Addr) : List MP → MP → Prop := fun ms m => ∃ (rs rs' : List (List Bool)), ms = [(rF K C).is rs, (rF K C).is rs'] ∧ m = kB.is (decide (rs = rs'))
theorem getD_at {α : Type} {l : List α} {d : α} {i : Int} (h0 : 0 ≤ i) (h : i < l.length) : atI l i = some (l.getD i.toNat d) := by
  obtain ⟨n, rfl⟩ : ∃ n : Nat, i = (n : Int) := ⟨i.toNat, by omega⟩
  refine atI_nat ?_
  rw [show ((n : Int)).toNat = n by omega, List.getD_eq_getElem?_getD, List.getElem?_eq_getElem (by omega)]; rfl
section
variable {X : Cx} {σ : L2.St} {H : Hp} {e : Expr} {p pos : Pos} {C : Addr} {rs : List (List Bool)} {n k : Nat}
abbrev MFl (P : Program) (w : World) (K : PySem.W.Frag) (mg : Str → Option Value) (base : Heap) (C : Addr) := Mak P w K mg base 3 "Floors" C ["self", "rows"] (spFI K C)
theorem e_floors (M : MFl X.prog X.w X.K X.mg X.base C) (hr : Room 4 X.A) (h : EvP (wE X e) σ H ((kL (kL kB)).is rs).P) (hne : rs ≠ []) (hn : ∀ r ∈ rs, r.length = n) (hn0 : 0 < n) (hl : rs.length ≤ 1000) (hn1 : n ≤ 1000) (hg : Gl X "Floors" := by rfl)
    (he : starEach [e] X.env = (false, eval e X.env) :: starEach [] X.env := by rfl) (hpl : (backTo pos (starEach [] X.env)).any (·.1) = false := by rfl) : EvP (wE X (.Call (.Name "Floors" p) [e] [] pos)) σ H ((rF X.K C).is (leastT rs)).P := by
  refine e_make (r := rF X.K C) M hr (a_cons h a_nil he) (fun vs H1 y dx Q e1 hv hy hdx hne' k => ?_) hg (by decide) he hpl
  obtain ⟨v, rfl, hv'⟩ := pd1 hv
  exact ⟨y, dx, v, rs, n, rfl, upd_same, (kL (kL kB)).mono (mk_ex hy hdx) hv', hne, hn, hn0, hl, hn1, fun H' t e2 h1 h2 => ⟨rfl, k H' ((mk_ex hy hdx).trans e2) ⟨y, dx, t, rfl, h1, h2⟩⟩⟩
theorem e_eqTT {a : Expr} {rs' : List (List Bool)} (hu : X.A.units + 64 < cLine) (ha : EvP (wE X a) σ H ((kTT X.K).is rs).P) (hb : EvP (wE X e) σ H ((kTT X.K).is rs').P) : EvP (wE X (.Compare a [.Eq] [e] pos)) σ H (kB.is (decide (rs = rs'))).P :=
  (e_eqD (n := 2) (dT (dT (daB X.K))) (dT (dT (daB X.K))) hu ha hb (shpT fun _ => shpT shpB) (shpT fun _ => shpT shpB) (by decide)).imp fun v _ _ h => by rw [eqvT (fun a b => eqvT eqvB a b)] at h; exact h
theorem t_neTT {a : Expr} {rs' : List (List Bool)} (hu : X.A.units + 64 < cLine) (ha : EvP (wE X a) σ H ((kTT X.K).is rs).P) (hb : EvP (wE X e) σ H ((kTT X.K).is rs').P) : EvT (wT X (.Compare a [.NotEq] [e] pos)) σ H (!decide (rs = rs')) :=
  t_is (t_neD (n := 2) (dT (dT (daB X.K))) (dT (dT (daB X.K))) hu ha hb (shpT fun _ => shpT shpB) (shpT fun _ => shpT shpB) (by decide)) (by rw [eqvT (fun a b => eqvT eqvB a b)])
theorem e_inF {a : Expr} {q q' : Int} (O : Own X.prog X.w X.K X.mg X.base k C "__contains__" ["self", "floor"] (spM (RIn X.K C))) (hr : Room k X.A) (ha : EvP (wE X a) σ H (kT2.is (q, q')).P) (hb : EvP (wE X e) σ H ((rF X.K C).is rs).P) (hne : rs ≠ []) (hn : ∀ r ∈ rs, r ≠ []) (hm : behindInMarks .In e = false := by rfl) :
    EvP (wE X (.Compare a [.In] [e] pos)) σ H (kB.is (inT rs q q')).P :=
  .of (pe_cmpR (in_own O hr) pE pE hm) fun H1 e1 Q k => ha H1 e1 _ fun v H2 e2 hv => hb H2 (e1.trans e2) _ fun u H3 e3 hu => by
    obtain ⟨y, dx, t, rfl, h2, h3⟩ := id hu
    exact ⟨y, dx, _, rfl, h2, [(rF X.K C).is rs, kT2.is (q, q')], _, .cons hu (.cons (kT2.mono e3 hv) .nil), ⟨rs, q, q', rfl, hne, hn, rfl⟩, fun w H4 e4 hw => ⟨inT rs q q', hw, k _ H4 ((e2.trans e3).trans e4) rfl⟩⟩
theorem e_eqF {a : Expr} {rs' : List (List Bool)} (O : Own X.prog X.w X.K X.mg X.base k C "__eq__" ["self", "other"] (spM (REq X.K C))) (hr : Room k X.A) (W : TxtF X.K C) (ha : EvP (wE X a) σ H ((rF X.K C).is rs).P) (hb : EvP (wE X e) σ H ((rF X.K C).is rs').P) :
    EvP (wE X (.Compare a [.Eq] [e] pos)) σ H (kB.is (decide (rs = rs'))).P :=
  .of (pe_cmpR (eq_own O hr W.nf) pE pE (nomark _)) fun H1 e1 Q k => ha H1 e1 _ fun v H2 e2 hv => hb H2 (e1.trans e2) _ fun u H3 e3 hu => by
    have hv3 := (rF X.K C).mono e3 hv
    obtain ⟨y, dx, t, rfl, h2, h3⟩ := id hu
    obtain ⟨y', dx', t', rfl, h2', h3'⟩ := id hv3
    exact ⟨y', dx', _, y, dx, _, rfl, h2', rfl, h2, [(rF X.K C).is rs, (rF X.K C).is rs'], _, .cons hv3 (.cons hu .nil), ⟨rs, rs', rfl, rfl⟩, fun w H4 e4 hw => k w H4 ((e2.trans e3).trans e4) hw⟩
end
section
variable {P : Program} {w : World} {K : PySem.W.Frag} {mg : Str → Option Value} {base : Heap} {f : Addr} {fd : FuncData} {C : Addr}
theorem ok_fin (F : Fun K "__contains__" "Floors.__contains__" (inFl 4) f fd) (T : Txt K mg) (S : TxtS w K mg) (W : TxtF K C) (h1 : PySem.W.findIn K (.ref C) "__contains__" = some (some (.ref f))) (h2 : PySem.W.isFn K (.ref f) = true) (hb : Binds K fd ["self", "floor"] []) :
    Own P w K mg base 1 C "__contains__" ["self", "floor"] (spM (RIn K C)) := by
  refine Own.pure F sc144 h1 h2 hb (fun ms m ⟨_, _, _, h, _⟩ => by rw [h]; rfl) (fun cdv A outer s H vs E ms m hr hv hR => ?_)
  obtain ⟨rs, p, q, rfl, hne, hn, rfl⟩ := hR
  obtain ⟨x, y, rfl, q1, q2⟩ := pd2 hv
  have hp0 : 0 < rs.length := List.length_pos_iff.mpr hne
  obtain ⟨py, hy, hy2⟩ := id q2
  refine s_unp2 (q := fun u w' _ => u = .int p ∧ w' = .int q) rfl ((vX (r := kT2) 1 q2).imp fun v H' _ ⟨b, e, h⟩ => ⟨b, _, _, e, SqT.of h, rfl, rfl⟩) (pgs2 (i := 2) (j := 3) sc144.nd) (fun u w' H1 e1 ⟨hu, hw⟩ => g2 ?_)
  subst hu; subst hw
  refine s_when (t_or (t_lt (vI 2) (e_gInt S.first)) (fun _ => t_lt (vI 3) (e_gInt S.first))) (fun h H2 e2 => ?_) (fun h H2 e2 => ?_)
  · refine s_ret e_bl fun v' H3 e3 hq => ⟨(e1.trans e2).trans e3, ?_⟩
    have : inT rs p q = false := by
      unfold inT; rw [if_pos (by simpa using h)]
    rw [this]; exact hq
  · have hpq : ¬ (p < 3 ∨ q < 3) := by
      intro z
      have h : (decide (p < 3) || decide (q < 3)) = false := h
      rcases z with z | z <;> simp [z] at h
    have hT : inT rs p q = (rowAt rs p).getD (min (q - 3) (((rowAt rs p).length : Int) - 1)).toNat false := by unfold inT; rw [if_neg hpq]
    have q1' := (rF K C).mono (e1.trans e2) q1
    have hat : atI rs (min (p - 3) ((rs.length : Int) - 1)) = some (rowAt rs p) := getD_at (by omega) (by omega)
    have hmem : rowAt rs p ∈ rs := by
      unfold rowAt
      rw [List.getD_eq_getElem?_getD, List.getElem?_eq_getElem (by omega)]
      exact List.getElem_mem _
    have hr0 : 0 < (rowAt rs p).length := List.length_pos_iff.mpr (hn _ hmem)
    refine s_set (i := 4) sc144.nd (e_ixT (r := kT K kB) (e_rows W (vX (r := rF K C) 0 q1')) (e_min2 rfl T.min (e_sub (vI 2) (e_gInt S.first)) (e_sub (e_lenT (r := kT K kB) T.len (e_rows W (vX (r := rF K C) 0 q1'))) e_int)) hat) (fun v4 H3 e3 q4 => ?_)
    refine s_ret (e_ixT (r := kB) (vX (r := kT K kB) 4 q4) (e_min2 rfl T.min (e_sub (vI 3) (e_gInt S.first)) (e_sub (e_lenT (r := kB) T.len (vX (r := kT K kB) 4 q4)) e_int)) (getD_at (d := false) (by omega) (by omega))) fun v' H4 e4 hq => ⟨((e1.trans e2).trans e3).trans e4, ?_⟩
    rw [hT]; exact hq
theorem ok_feq (F : Fun K "__eq__" "Floors.__eq__" (inFl 5) f fd) (T : Txt K mg) (W : TxtF K C) (hC : mg "Floors" = some (.ref C)) (h1 : PySem.W.findIn K (.ref C) "__eq__" = some (some (.ref f))) (h2 : PySem.W.isFn K (.ref f) = true) (hb : Binds K fd ["self", "other"] []) :
    Own P w K mg base 1 C "__eq__" ["self", "other"] (spM (REq K C)) := by
  refine Own.pure F sc145 h1 h2 hb (fun ms m ⟨_, _, h, _⟩ => by rw [h]; rfl) (fun cdv A outer s H vs E ms m hr hv hR => ?_)
  obtain ⟨rs, rs', rfl, rfl⟩ := hR
  obtain ⟨x, y, rfl, q1, q2⟩ := pd2 hv
  refine s_ret (e_and (c := true) (d := decide (rs = rs')) (e_isC (q := ((rF K C).is rs').P) W.ic T.isinstance hC (vX (r := rF K C) 1 q2) (fun v H' _ ⟨p, dx, t, h1, h2, _⟩ => ⟨p, dx, _, h1, h2⟩)) (fun _ => ?_)) fun v' H4 e4 hq => ⟨e4, ?_⟩
  · exact e_eqTT hr.units (e_rows W (vX (r := rF K C) 0 q1)) (e_rows W (vX (r := rF K C) 1 q2))
  · simpa using hq
end
end Wf
/-! D23: where. -/
namespace Wf
open PySem PySem.Spec PyProof.Rows L2 Wp
theorem isZ_sw (φ : C) : isZ (sw φ) = isZ φ := by
  have h : ∀ ψ : C, ψ = zero → sw ψ = zero := fun ψ h => by rw [h]; rfl
  have e : sw φ = zero ↔ φ = zero := ⟨fun q => by have := h _ q; exact this, h φ⟩
  cases h1 : isZ (sw φ) <;> cases h2 : isZ φ <;> simp_all [isZ]
def lf (p : Int) (φ : C) : C := sw (lowX p.toNat 60 φ)
noncomputable def rowP (k : Nat) (n : Nm) (Q : Nat) (p : Int) : List Bool := (iota 3 (Q - 2)).map fun q => dueB k n p.toNat q.toNat
/-- the floors 3 .. P by 3 .. Q -/
noncomputable def tab (k : Nat) (n : Nm) (P Q : Nat) : List (List Bool) := (iota 3 (P - 2)).map (rowP k n Q)
theorem due_lf (k : Nat) (n : Nm) (p q : Int) : dueB k n p.toNat q.toNat = (((partsL k n).map (lf p)).map fun φ => isZ (lowX q.toNat 60 φ)).all id := by
  unfold dueB
  rw [List.map_map, List.all_map]
  congr 1
  funext φ
  show isZ (fl p.toNat q.toNat φ) = isZ (lowX q.toNat 60 (lf p φ))
  unfold fl lf
  rw [isZ_sw]
theorem lf_box {n : Nm} (h : NB n 60 60) {k : Nat} {p : Int} {ψ : C} (hψ : ψ ∈ (partsL k n).map (lf p)) : Box ψ 60 60 := by
  obtain ⟨φ, hφ, rfl⟩ := List.mem_map.mp hψ
  exact ((parts_box h hφ).lowX (Nat.le_refl _)).sw
def RWhere (K : PySem.W.Frag) (C CF : Addr) : List MP → MP → Prop := fun ms m => ∃ (k : Nat) (u v : List Int), ms = [kS.is (kindS k), (rW K C).is u, (rW K C).is v] ∧ k < 4 ∧ Two u v ∧ m = (rF K CF).is (leastT (tab k (numL (rd u v)) (max 3 ((rd u v).length + 1)) (max 3 (tot (rd u v) + 2))))
abbrev N46 : List Str := ["kind", "first", "second", "parts", "walk", "rows", "p", "left", "row", "q", "part"]
theorem sc46 : FnScope N46 ["kind", "first", "second"] (defScope (top 46)) := ⟨rfl, rfl, rfl, by decide +kernel, rfl, by decide +kernel, by decide +kernel⟩
section
variable {P : Program} {w : World} {K : PySem.W.Frag} {mg : Str → Option Value} {base : Heap} {f : Addr} {fd : FuncData} {C CF : Addr}
theorem ok_where (F : Fun K "where" "where" (top 46) f fd) (T : Txt K mg) (W : TxtW K C) (hm : mg "where" = some (.ref f)) (hb : Binds K fd ["kind", "first", "second"] []) (Cp : CParts P w K mg base C) (Cj : CJoin P w K mg base C) (Cd : CDiv3 P w K mg base) (Cs : CSw P w K mg base) (M : MFl P w K mg base CF) :
    Cal P w K mg base 7 "where" ["kind", "first", "second"] (spM (RWhere K C CF)) := by
  refine Cal.pure F sc46 hm hb (fun ms m ⟨_, _, _, h, _⟩ => by rw [h]; rfl) (fun cdv A outer s H vs E ms m hr hv hR => ?_)
  obtain ⟨k, u, v, rfl, hk, h2, rfl⟩ := hR
  obtain ⟨vk, x, y, rfl, hvk, q1, q2⟩ := pd3 hv
  obtain rfl : vk = .str (kindS k) := hvk
  have hpl : (partsL k (numL (rd u v))).length ≤ 3 := by unfold partsL placesL; split <;> simp
  have hbx := h2.nb
  generalize hn : numL (rd u v) = n at hpl hbx ⊢
  refine s_set (i := 3) sc46.nd (e_call Cp hr (a_cons (m := kS.is (kindS k)) (e_var (i := 0) rfl fun _ _ => rfl) (a_cons (vX (r := rW K C) 1 q1) (a_cons (vX (r := rW K C) 2 q2) a_nil))) ⟨k, u, v, rfl, hk, h2, rfl⟩) (fun v3 H1 e1 q3 => ?_)
  rw [hn] at q3
  refine s_set (i := 4) sc46.nd (e_call Cj (hr.mono (by decide)) (a_cons (vX (r := rW K C) 1 ((rW K C).mono e1 q1)) (a_cons (vX (r := rW K C) 2 ((rW K C).mono e1 q2)) a_nil)) ⟨u, v, rfl, h2.hu, h2.hv, h2.hl, rfl⟩) (fun v4 H2 e2 q4 => ?_)
  have q4 : (rW K C).R H2 v4 (rd u v) := q4
  have q3 := (kL (rC K)).mono e2 q3
  have l1 := h2.h8
  have l2 := h2.h12
  have l3 := wsz_tot (rd u v)
  have l0 : 0 < (rd u v).length := List.length_pos_iff.mpr h2.hr
  generalize rd u v = r at q4 l1 l2 l3 l0 ⊢
  refine s_setN (i := 5) (r := kL kB) (as := []) sc46.nd (n_lst a_nil (by decide)) (fun rw_ xs H3 e3 hrn hxs => ?_)
  have o3 := OL.mk0 (r := kL kB) e3 hrn hxs
  generalize hPp : max 3 (r.length + 1) = PP
  generalize hQq : max 3 (tot r + 2) = QQ
  have hP3 : 3 ≤ PP ∧ PP ≤ 20 := by omega
  have hQ3 : 3 ≤ QQ ∧ QQ ≤ 20 := by omega
  have hPi : max (3 : Int) ((r.length : Int) - 1 + 2) + 1 = (PP : Int) + 1 := by omega
  have hQi : max (3 : Int) (wsz r + 2) + 1 = (QQ : Int) + 1 := by omega
  generalize hH3 : upd H3 rw_ (.lst xs) = H3' at o3
  refine s_forM rfl PassesOwn.never (pi_range2 (by rfl) T.range pA) (pg_name (i := 6) sc46.nd rfl (.inr rfl)) (src_r2 (Hb := H2) (lo := 3) (n := (PP : Int) + 1) (a_cons e_int (a_cons (EvP.imp (e_add (e_max2 rfl T.max e_int (e_add (e_goes W (vX (r := rW K C) 4 ((rW K C).mono o3.ex q4))) e_int)) e_int) fun v _ _ h => by rw [hPi] at h; exact h) a_nil)) (by omega))
    (fun i σ' H' => ∃ s6 s7 s8 s9, σ' = [some (.str (kindS k)), some x, some y, some v3, some v4, some (.ref rw_), s6, s7, s8, s9, none] ∧ OL (kL kB) H2 H' rw_ (((iota 3 (PP - 2)).take i).map (rowP k n QQ)))
    (fun H4 e4 => ⟨_, _, _, _, rfl, o3.mono e4⟩) (fun i σ' H' ⟨_, _, _, _, _, h⟩ => h.ex) ?_ ?_
  · rintro i p z σ' H' hi hz ⟨s6, s7, s8, s9, rfl, ho⟩
    obtain ⟨hil, hip⟩ := iota_get hi
    obtain rfl : z = .int p := hz
    have hp3 : 3 ≤ p := by omega
    have q3' := (kL (rC K)).mono ho.ex q3
    -- left = [..]
    refine s_setLc (i := 7) (rc := rC K) (own := [("part", 10)]) (r := rC K) (as := partsL k n) rfl sc46.nd (pi_list pE) (blkOk_by (N := N46) (sc := defScope (top 46)) (by decide +kernel)) (fun _ _ _ _ _ => pg_name (i := 10) sc46.nd rfl (.inl rfl))
      (src_list (vX (r := kL (rC K)) 3 q3')) (lf p) (fun z _ => [some (.str (kindS k)), some x, some y, some v3, some v4, some (.ref rw_), some (.int p), s7, s8, s9, some z]) (by omega) (fun a z H' Q _ _ q => q) (fun _ _ => rfl)
      (fun φ z H' hφ e6 hz => bE_of fun s H0 C cl fp => e_call Cs (hr.mono (by decide)) (a_cons (e_div1 (e_call Cd (hr.mono (by decide)) (a_cons (vX (r := rC K) 10 hz) (a_cons (vI 6) a_nil)) ⟨φ, p, 60, 60, rfl, by omega, parts_box hbx hφ, by decide, by decide, rfl⟩) e_int) a_nil) (rsw (Sm.ofB ((parts_box hbx hφ).lowX (Nat.le_refl _)) (by decide) (by decide)))) fun al xl H4 e4 han hxl => ?_
    have hleft : (kL (rC K)).R (upd H4 al (.lst xl)) (.ref al) ((partsL k n).map (lf p)) := ⟨al, xl, rfl, upd_same, pd_mono hxl fun _ _ q => (rC K).mono (ex_new han) q⟩
    have ho4 := (ho.mono e4).mono (ex_new (o := .lst xl) han)
    generalize hH4 : upd H4 al (.lst xl) = H4' at hleft ho4
    -- row = []
    refine s_setN (i := 8) (r := kB) (as := []) sc46.nd (n_lst a_nil (by decide)) (fun ro xr H5 e5 hron hxr => ?_)
    have o5 := OL.mk0 (r := kB) e5 hron hxr
    generalize hH5 : upd H5 ro (.lst xr) = H5' at o5
    have q4' := (rW K C).mono (ho4.ex.trans o5.ex) q4
    refine s_forM rfl PassesOwn.never (pi_range2 (by rfl) T.range pA) (pg_name (i := 9) sc46.nd rfl (.inr rfl)) (src_r2 (Hb := H4') (lo := 3) (n := (QQ : Int) + 1) (a_cons e_int (a_cons (EvP.imp (e_add (e_max2 rfl T.max e_int (e_add (e_size W (vX (r := rW K C) 4 q4')) e_int)) e_int) fun v _ _ h => by rw [hQi] at h; exact h) a_nil)) (by omega))
      (fun j σ' H' => ∃ s9, σ' = [some (.str (kindS k)), some x, some y, some v3, some v4, some (.ref rw_), some (.int p), some (.ref al), some (.ref ro), s9, none] ∧ OL kB H4' H' ro (((iota 3 (QQ - 2)).take j).map fun q => dueB k n p.toNat q.toNat))
      (fun H6 e6 => ⟨_, rfl, o5.mono e6⟩) (fun j σ' H' ⟨_, _, h⟩ => h.ex) ?_ ?_
    · rintro j q z σ' H' hj hz ⟨s9, rfl, hoj⟩
      obtain ⟨hjl, hjq⟩ := iota_get hj
      obtain rfl : z = .int q := hz
      have hl' := (kL (rC K)).mono hoj.ex hleft
      refine s_appO (b := dueB k n p.toNat q.toNat) (q := fun v _ => v = .bl (dueB k n p.toNat q.toNat)) hoj (e_nm (i := 8) rfl) ?_ (fun v H' _ h => h) (by simp; omega) fun H6 h6 => ?_
      · rw [due_lf]
        exact e_all (bs := ((partsL k n).map (lf p)).map fun φ => isZ (lowX q.toNat 60 φ)) rfl T.all (EvN.evp (n_lc (own := [("part", 10)]) (r := rC K) (as := (partsL k n).map (lf p)) rfl sc46.nd (pi_list pE) (blkOk_by (N := N46) (sc := defScope (top 46)) (by decide +kernel)) (fun _ _ _ _ _ => pg_name (i := 10) sc46.nd rfl (.inl rfl))
          (src_list (vX (r := kL (rC K)) (v := .ref al) 7 hl')) (fun φ => isZ (lowX q.toNat 60 φ)) (fun z _ => [some (.str (kindS k)), some x, some y, some v3, some v4, some (.ref rw_), some (.int p), some (.ref al), some (.ref ro), some (.int q), some z]) (by rw [List.length_map]; omega) (fun a z H' Q _ _ q => q) (fun _ _ => rfl)
          (fun φ z H' hφ e6 hz => bE_of fun s H0 C cl fp => e_eqNil hr.units (e_div1 (e_call Cd (hr.mono (by decide)) (a_cons (vX (r := rC K) 10 hz) (a_cons (vI 9) a_nil)) ⟨φ, q, 60, 60, rfl, by omega, lf_box hbx hφ, by decide, by decide, rfl⟩) e_int))))
      · refine s_nil ⟨_, rfl, ?_⟩
        have hjt : (iota 3 (QQ - 2))[j]? = some q := by
          have e : ((QQ : Int) + 1 - 3).toNat = QQ - 2 := by omega
          rw [e] at hj; exact hj
        rw [List.take_add_one, hjt, List.map_append]
        exact h6
    · rintro σ' H' ⟨s9, rfl, hoj⟩
      have e : (iota 3 (((QQ : Int) + 1 - 3).toNat)).length = QQ - 2 := by rw [iota_len]; omega
      have e' : (iota 3 (QQ - 2)).take (QQ - 2) = iota 3 (QQ - 2) := List.take_of_length_le (by rw [iota_len]; exact Nat.le_refl _)
      rw [e, e'] at hoj
      have hoR := ho4.mono hoj.ex
      have hne : ro ≠ rw_ := fun z => by
        have := hoj.new
        obtain ⟨xs, h1, _⟩ := ho4.at'
        rw [z, h1] at this; cases this
      refine s_appO (b := rowP k n QQ p) (q := fun v _ => v = .ref ro) hoR (e_nm (i := 5) rfl) (e_nm (i := 8) rfl) (fun v H6 e6 h => ?_) (by simp; omega) fun H6 h6 => ?_
      · subst h
        obtain ⟨xs, h1, h3⟩ := (hoj.mono e6).at'
        exact ⟨ro, xs, rfl, by rw [hd_ne hne]; exact h1, pd_mono h3 fun _ _ q => q⟩
      · refine s_nil ⟨_, _, _, _, rfl, ?_⟩
        have hit : (iota 3 (PP - 2))[i]? = some p := by
          have e : ((PP : Int) + 1 - 3).toNat = PP - 2 := by omega
          rw [e] at hi; exact hi
        rw [List.take_add_one, hit, List.map_append]
        exact h6
  · rintro σ' H' ⟨s6, s7, s8, s9, rfl, ho⟩
    have e : (iota 3 (((PP : Int) + 1 - 3).toNat)).length = PP - 2 := by rw [iota_len]; omega
    have e' : (iota 3 (PP - 2)).take (PP - 2) = iota 3 (PP - 2) := List.take_of_length_le (by rw [iota_len]; exact Nat.le_refl _)
    rw [e, e'] at ho
    have hlen : (tab k n PP QQ).length = PP - 2 := by unfold tab; rw [List.length_map, iota_len]
    refine s_ret (e_floors (rs := tab k n PP QQ) (n := QQ - 2) M (hr.mono (by decide)) (vX (r := kL (kL kB)) (v := .ref rw_) 5 ho.list) (fun z => by rw [z] at hlen; simp at hlen; omega) (fun r hr => ?_) (by omega) (by omega) (by omega)) fun v' H4 e4 q => ⟨((e1.trans e2).trans ho.ex).trans e4, q⟩
    unfold tab at hr
    obtain ⟨p, _, rfl⟩ := List.mem_map.mp hr
    unfold rowP; rw [List.length_map, iota_len]
end
end Wf
/-! L0: calls that hand back a new list. -/
namespace Wf
open PySem PySem.Spec PyProof.Rows L2 Wp
/-- a promise of a new list -/
def spN {α : Type} (r : Rep α) (R : List MP → List α → Prop) : Sp := fun vs H Q _ => ∃ ms as, Paired (fun v (p : MP) => p.P v H) vs ms ∧ R ms as ∧ ∀ p xs H', Ex H H' → H' p = none → Paired (r.R H') xs as → Q (.ref p) (upd H' p (.lst xs))
section
variable {α : Type} {P : Program} {w : World} {K : PySem.W.Frag} {mg : Str → Option Value} {base : Heap} {k : Nat} {x : Str} {N ps : List Str} {st : Stmt} {f : Addr} {fd : FuncData} {r : Rep α} {R : List MP → List α → Prop}
theorem Cal.fresh (F : Fun K x x st f fd) (S : FnScope N ps (defScope st)) (hm : mg x = some (.ref f)) (hb : Binds K fd ps []) (hl : ∀ ms as, R ms as → ms.length = ps.length)
    (body : ∀ (cdv : Value) (A : Around) (outer : List Env) (s : Shared) (H : Hp) (vs : List V) (E : XK) (ms : List MP) (as : List α), Room k (A.deeper (envOfC x (defScope st) s.heap.objs.size f cdv)) → Paired (fun v (p : MP) => p.P v H) vs ms → R ms as →
      wS (cxOf CX0 P w K mg base N x (defScope st) f cdv A outer s H E).nox (defBody st) { nx := fun _ _ => False, rt := fun v H2 => ∃ p xs H', Ex H H' ∧ H' p = none ∧ Paired (r.R H') xs as ∧ v = .ref p ∧ H2 = upd H' p (.lst xs) } (start N vs) H) : Cal P w K mg base (k + 1) x ps (spN r R) :=
  .mk' F S hm hb (fun vs H Q E ⟨ms, as, h1, h2, _⟩ => (pd_len h1).trans (hl ms as h2)) fun cdv A outer s H vs Q E hr ⟨ms, as, h1, h2, h3⟩ =>
    (body cdv A outer s H vs E ms as hr h1 h2).mono (fun σ' H' q => q.elim) (fun v H2 ⟨p, xs, H', e, hn, hx, hv, hH⟩ => by rw [hv, hH]; exact h3 p xs H' e hn hx) (fun _ _ q => q) fun _ _ q => q
end
section
variable {α : Type} {X : Cx} {σ : L2.St} {H : Hp} {D : Ends} {rest : List Stmt} {k : Nat} {x : Str} {ps : List Str} {r : Rep α} {R : List MP → List α → Prop} {ms : List MP} {as : List α} {e : Expr} {es : List Expr} {p pos : Pos}
theorem n_call (C : Cal X.prog X.w X.K X.mg X.base k x ps (spN r R)) (hr : Room k X.A) (ha : EvA (wA X (e :: es)) σ H ms) (h : R ms as) (hg : Gl X x := by rfl) (hdb : (x == ("__debug__" : Str)) = false := by decide)
    (he : starEach (e :: es) X.env = (false, eval e X.env) :: starEach es X.env := by rfl) (hpl : (backTo pos (starEach es X.env)).any (·.1) = false := by rfl) : EvN (wE X (.Call (.Name x p) (e :: es) [] pos)) σ H r as := by
  obtain ⟨f, fd, F, hm, kp, hb⟩ := C.ok
  exact .of (pe_call F hr hg hm kp hb .nil pass0 pA hdb he hpl) fun H1 e1 Q q => ha H1 e1 _ fun vs H2 e2 hv => ⟨ms, as, by rw [List.append_nil]; exact hv, h, fun p xs H' e3 hn hx => q p xs H' (e2.trans e3) hn hx⟩
theorem s_retN (he : EvN (wE X e) σ H r as) (h : ∀ p xs H', Ex H H' → H' p = none → Paired (r.R H') xs as → D.rt (.ref p) (upd H' p (.lst xs))) : wS X (.Return (some e) pos :: rest) D σ H :=
  wS.cons (ps_ret pE) (he H ex_refl _ fun p xs H2 e2 hn hx => h p xs H2 e2 hn hx)
end
theorem kT3_hd {K : PySem.W.Frag} {H : Hp} {v : V} {t : Tm} {a : Addr} {xs : List V} (h : (kT3 K).R H v t) (ha : H a = some (.lst xs)) : (kT3 K).R (hd H a) v t := by
  obtain ⟨p, h1, h2⟩ := h
  refine ⟨p, h1, ?_⟩
  rcases h2 with (h2 | ⟨ob, h2⟩) | h2
  · exact .inl (.inl (by rw [hd_ne (fun z => by rw [z, ha] at h2; cases h2)]; exact h2))
  · exact .inl (.inr ⟨ob, by rw [hd_ne (fun z => by rw [z, ha] at h2; cases h2)]; exact h2⟩)
  · exact .inr h2
theorem dok_of (f : Po) : ∃ kvs, DOk kvs (coef f) := by
  have : ∀ n : Nat, ∃ kvs, DOk kvs (coef (f.take n)) := by
    intro n
    induction n with
    | zero => exact ⟨[], DOk.nil⟩
    | succ n ih =>
      obtain ⟨kvs, h⟩ := ih
      rw [List.take_add_one]
      cases e : f[n]? with
      | none => exact ⟨kvs, by simpa using h⟩
      | some t => exact ⟨_, h.addTm t⟩
  obtain ⟨kvs, h⟩ := this f.length
  rw [List.take_length] at h
  exact ⟨kvs, h⟩
theorem canon_of (f : Po) : ∃ g, Canon g ∧ coef g = coef f := by
  obtain ⟨kvs, hk⟩ := dok_of f
  obtain ⟨k1, k2⟩ := hk.keys
  exact ⟨_, fromKeys_ok (srt_pw k1) (fun i j h => srt_mem.mpr (k2 i j h))⟩
/-! ### the law's polynomials -/
def RLTerms (K : PySem.W.Frag) : List MP → Po → Prop := fun ms f => ∃ (b : Nat) (S : C), ms = [(rD K b).is S] ∧ b ≤ 900000 ∧ Canon f ∧ coef f = S
def RLSums (K : PySem.W.Frag) : List MP → MP → Prop := fun ms m => ∃ f : Po, ms = [(rP K).is f] ∧ f.length ≤ 900000 ∧ m = (rD K f.length).is (coef f)
def RLTimes (K : PySem.W.Frag) : List MP → MP → Prop := fun ms m => ∃ (t : Tm) (φ ψ : C), ms = [(rP K).is [t], (rC K).is φ] ∧ (-(2 ^ 64) < t.2.2 ∧ t.2.2 < 2 ^ 64) ∧ Sm φ ∧ ψ = tmul t φ ∧ m = (rC K).is ψ
abbrev N53 : List Str := ["_law_sums_here", "_law_i", "_law_j"]
theorem sc53 : FnScope N53 ["_law_sums_here"] (defScope (top 53)) := ⟨rfl, rfl, rfl, by decide +kernel, rfl, by decide +kernel, by decide +kernel⟩
abbrev N54 : List Str := ["_law_terms_here", "_law_sums_here", "_law_i", "_law_j", "_law_c"]
theorem sc54 : FnScope N54 ["_law_terms_here"] (defScope (top 54)) := ⟨rfl, rfl, rfl, by decide +kernel, rfl, by decide +kernel, by decide +kernel⟩
theorem sc55 : FnScope ["_law_f", "_law_g"] ["_law_f", "_law_g"] (defScope (top 55)) := ⟨rfl, rfl, rfl, by decide +kernel, rfl, by decide +kernel, by decide +kernel⟩
abbrev N56 : List Str := ["_law_f", "_law_g", "_law_sums_here", "_law_i", "_law_j", "_law_c", "_law_k", "_law_m", "_law_d"]
theorem sc56 : FnScope N56 ["_law_f", "_law_g"] (defScope (top 56)) := ⟨rfl, rfl, rfl, by decide +kernel, rfl, by decide +kernel, by decide +kernel⟩
abbrev N57 : List Str := ["_law_f", "_law_i", "_law_j", "_law_c"]
theorem sc57 : FnScope N57 ["_law_f"] (defScope (top 57)) := ⟨rfl, rfl, rfl, by decide +kernel, rfl, by decide +kernel, by decide +kernel⟩
section
variable {P : Program} {w : World} {K : PySem.W.Frag} {mg : Str → Option Value} {base : Heap} {f : Addr} {fd : FuncData}
abbrev CLTerms (P : Program) (w : World) (K : PySem.W.Frag) (mg : Str → Option Value) (base : Heap) := Cal P w K mg base 1 "_law_terms" ["_law_sums_here"] (spN (kT3 K) (RLTerms K))
abbrev CLSums (P : Program) (w : World) (K : PySem.W.Frag) (mg : Str → Option Value) (base : Heap) := Cal P w K mg base 1 "_law_sums" ["_law_terms_here"] (spM (RLSums K))
theorem ok_lterms (F : Fun K "_law_terms" "_law_terms" (top 53) f fd) (T : Txt K mg) (hm : mg "_law_terms" = some (.ref f)) (hb : Binds K fd ["_law_sums_here"] []) : CLTerms P w K mg base := by
  refine Cal.fresh F sc53 hm hb (fun ms m ⟨_, _, h, _⟩ => by rw [h]; rfl) (fun cdv A outer s H vs E ms fl hr hv hR => ?_)
  obtain ⟨b, S, rfl, hb9, hc, hS⟩ := hR
  obtain ⟨v, rfl, p, kvs, rfl, hd, hk, hn⟩ := pd1 hv
  obtain ⟨k1, k2⟩ := hk.keys
  have hlk : (keysOf kvs).length ≤ 1000000 := by unfold keysOf; rw [List.length_map]; omega
  have fk := fromKeys_ok (srt_pw k1) (fun i j h => srt_mem.mpr (k2 i j h))
  have hfl : fl = ((srt (keysOf kvs)).filter fun k => !decide (S k.1 k.2 = 0)).map fun k => (k.1, k.2, S k.1 k.2) := canon_ext hc fk.1 fun i j => by rw [hS]; exact (congrFun (congrFun fk.2 i) j).symm
  refine s_retN (r := kT3 K) (as := fl) ?_ fun p xs H' e hn hx => ⟨p, xs, H', e, hn, hx, rfl, rfl⟩
  rw [hfl]
  exact n_lcIf (own := [("_law_i", 1), ("_law_j", 2)]) (r := kT2) (as := srt (keysOf kvs)) rfl sc53.nd (pi_list pE) (blkOk_by (N := N53) (sc := defScope (top 53)) (by decide +kernel))
      (fun _ _ _ _ _ => pg_tup rfl (pgs_cons (pg_name (i := 1) sc53.nd rfl (.inl rfl)) (pgs_cons (pg_name (i := 2) sc53.nd rfl (.inl rfl)) pgs_nil)))
      (src_list (EvN.evp (n_sorted T.sorted (EvN.evp (n_listD rfl T.list (e_nm (i := 0) rfl) hd hk)) k1)))
      (fun k => !decide (S k.1 k.2 = 0)) (fun k => (k.1, k.2, S k.1 k.2)) (fun _ k => [some (.ref p), some (.int k.1), some (.int k.2)]) (by rw [srt_len]; exact hlk)
      (fun k x H' Q _ hx q => g_t2 (i := 1) (j := 2) hx q) (fun _ _ => rfl)
      (fun k x H2 hkm e2 hx => bT_of fun s H0 C cl fp => t_neI (e_dixT (hu_of hr) (e_nm (i := 0) rfl) (e2 _ _ hd) hk (srt_mem.mp hkm) (e_v (i := 1) (m := kI.is k.1) rfl rfl) (e_v (i := 2) (m := kI.is k.2) rfl rfl)) e_int)
      (fun k x H2 hkm e2 hx _ => bE_of fun s H0 C cl fp => e_t3 (e_v (i := 1) (m := kI.is k.1) rfl rfl) (e_v (i := 2) (m := kI.is k.2) rfl rfl) (e_dixT (hu_of hr) (e_nm (i := 0) rfl) (e2 _ _ hd) hk (srt_mem.mp hkm) (e_v (i := 1) (m := kI.is k.1) rfl rfl) (e_v (i := 2) (m := kI.is k.2) rfl rfl)))
theorem ok_lsums (F : Fun K "_law_sums" "_law_sums" (top 54) f fd) (hm : mg "_law_sums" = some (.ref f)) (hb : Binds K fd ["_law_terms_here"] []) : CLSums P w K mg base := by
  refine Cal.pure F sc54 hm hb (fun ms m ⟨f, h, _⟩ => by rw [h]; rfl) (fun cdv A outer s H vs E ms m hr hv hR => ?_)
  obtain ⟨f, rfl, hl, rfl⟩ := hR
  obtain ⟨v, rfl, hf⟩ := pd1 hv
  refine s_newT (i := 1) sc54.nd (fun p hp => ?_)
  refine s_forM rfl PassesOwn.never (pi_list pE) (pg_tup rfl (pgs_cons (pg_name (i := 2) sc54.nd rfl (.inl rfl)) (pgs_cons (pg_name (i := 3) sc54.nd rfl (.inl rfl)) (pgs_cons (pg_name (i := 4) sc54.nd rfl (.inl rfl)) pgs_nil))))
    (srcM_list (r := kT3 K) (Hb := H) (v := v) (e_nm (i := 0) rfl) hf (ex_new hp))
    (fun n σ' H' => ∃ kvs a b c, σ' = [some v, some (.ref p), a, b, c] ∧ Ex H H' ∧ H' p = some (.dT kvs) ∧ DOk kvs (coef (f.take n)) ∧ kvs.length ≤ n)
    (fun H2 e2 => ⟨[], _, _, _, rfl, (ex_new hp).trans e2, e2 _ _ upd_same, DOk.nil, Nat.le_refl _⟩) (fun n σ' H' ⟨_, _, _, _, _, e, _⟩ => e) ?_ ?_
  · rintro n t x σ' H' ht hx ⟨kvs, a, b, c, rfl, he, hd, hk, hn⟩
    refine g_t3 ((kT3 K).mono he hx) ?_
    have ht2 : f.take (n + 1) = f.take n ++ [t] := by rw [List.take_add_one, ht]; rfl
    have hlt : n < f.length := (List.getElem?_eq_some_iff.mp ht).1
    refine s_dputT (hu_of hr) (e_nm (i := 1) rfl) hd (e_v (i := 2) (m := kI.is t.1) rfl rfl) (e_v (i := 3) (m := kI.is t.2.1) rfl rfl)
      (e_add (e_dgetT (hu_of hr) (e_nm (i := 1) rfl) hd hk (e_v (i := 2) (m := kI.is t.1) rfl rfl) (e_v (i := 3) (m := kI.is t.2.1) rfl rfl) e_int) (e_v (i := 4) (m := kI.is t.2.2) rfl rfl)) (by omega) fun H2 e2 hd2 => ?_
    refine s_nil ⟨_, _, _, _, rfl, e2 _ hp he, hd2, ?_, Nat.le_trans (putK_len' _ _ _) (by omega)⟩
    rw [ht2]
    exact hk.addTm t
  · rintro σ' H' ⟨kvs, a, b, c, rfl, he, hd, hk, hn⟩
    rw [List.take_length] at hk
    exact s_ret (vX (r := rD K f.length) (v := .ref p) 1 ⟨p, kvs, rfl, hd, hk, hn⟩) fun v' H2 e2 q => ⟨he.trans e2, q⟩
theorem ok_lplus (F : Fun K "_law_plus" "_law_plus" (top 55) f fd) (hm : mg "_law_plus" = some (.ref f)) (hb : Binds K fd ["_law_f", "_law_g"] []) (Ct : CLTerms P w K mg base) (Cs : CLSums P w K mg base) : Cal P w K mg base 2 "_law_plus" ["_law_f", "_law_g"] (spM (RPlus K)) := by
  refine Cal.pure F sc55 hm hb (fun ms m ⟨_, _, h, _⟩ => by rw [h]; rfl) (fun cdv A outer s H vs E ms m hr hv hR => ?_)
  obtain ⟨φ, ψ, rfl, b1, b2, rfl⟩ := hR
  obtain ⟨v, u, rfl, h1, h2⟩ := pd2 hv
  obtain ⟨f1, hf1, c1, rfl, l1⟩ := b1.len h1
  obtain ⟨f2, hf2, c2, rfl, l2⟩ := b2.len h2
  have e : coef (f1 ++ f2) = add (coef f1) (coef f2) := by funext i j; exact coef_append f1 f2 i j
  obtain ⟨g, hg1, hg2⟩ := canon_of (f1 ++ f2)
  refine s_ret (EvN.evp (n_call Ct hr (as := g) (a_cons (m := (rD K (f1 ++ f2).length).is (coef (f1 ++ f2))) (e_call Cs hr (a_cons (m := (rP K).is (f1 ++ f2)) (EvN.evp (n_cat (vX (r := rP K) 0 hf1) (vX (r := rP K) 1 hf2) (by omega))) a_nil) ⟨_, rfl, by rw [List.length_append]; omega, rfl⟩) a_nil) ⟨_, _, rfl, by rw [List.length_append]; omega, hg1, hg2⟩)) fun v' H2 e2 hv' => ⟨e2, g, hv', hg1, by rw [hg2, e]⟩
theorem ok_lneg (F : Fun K "_law_negative" "_law_negative" (top 57) f fd) (hm : mg "_law_negative" = some (.ref f)) (hb : Binds K fd ["_law_f"] []) : Cal P w K mg base 1 "_law_negative" ["_law_f"] (spM (RNeg K)) := by
  refine Cal.pure F sc57 hm hb (fun ms m ⟨_, h, _⟩ => by rw [h]; rfl) (fun cdv A outer s H vs E ms m hr hv hR => ?_)
  obtain ⟨φ, rfl, b1, rfl⟩ := hR
  obtain ⟨v, rfl, h1⟩ := pd1 hv
  obtain ⟨f1, hf1, c1, rfl, l1⟩ := b1.len h1
  refine s_ret (EvN.evp (?_ : EvN _ _ _ (kT3 K) (f1.map fun t => (t.1, t.2.1, -t.2.2)))) fun v' H2 e2 hv' => ⟨e2, _, hv', c1.negm, ?_⟩
  · exact n_lcP 1 2 3 (own := [("_law_i", 1), ("_law_j", 2), ("_law_c", 3)]) rfl sc57.nd (pi_list pE) (blkOk_by (N := N57) (sc := defScope (top 57)) (by decide +kernel)) (fun _ _ _ _ _ => pg3 rfl sc57.nd) (src_list (vX (r := rP K) 0 hf1)) (fun t => (t.1, t.2.1, -t.2.2)) (by omega)
      (fun t H2 s H0 C cl fp _ e2 => e_t3 (vI 1) (vI 2) (e_neg (vI 3)))
  · funext i j; rw [coef_neg]; rfl
end
end Wf
/-! L1: the law's times, step, turns. -/
namespace Wf
open PySem PySem.Spec PyProof.Rows L2 Wp
abbrev CLPlus (P : Program) (w : World) (K : PySem.W.Frag) (mg : Str → Option Value) (base : Heap) := Cal P w K mg base 2 "_law_plus" ["_law_f", "_law_g"] (spM (RPlus K))
abbrev CLTimes (P : Program) (w : World) (K : PySem.W.Frag) (mg : Str → Option Value) (base : Heap) := Cal P w K mg base 2 "_law_times" ["_law_f", "_law_g"] (spM (RLTimes K))
abbrev CLNeg (P : Program) (w : World) (K : PySem.W.Frag) (mg : Str → Option Value) (base : Heap) := Cal P w K mg base 1 "_law_negative" ["_law_f"] (spM (RNeg K))
abbrev CLStep (P : Program) (w : World) (K : PySem.W.Frag) (mg : Str → Option Value) (base : Heap) := Cal P w K mg base 1 "_law_step" ["_law_n"] (spM RStep)
abbrev N58 : List Str := ["_law_n", "_law_older", "_law_newer", "_law_k", "_law_row", "_law_at"]
theorem sc58 : FnScope N58 ["_law_n"] (defScope (top 58)) := ⟨rfl, rfl, rfl, by decide +kernel, rfl, by decide +kernel, by decide +kernel⟩
def RLStep : List MP → MP → Prop := fun ms m => ∃ k : Int, ms = [kI.is k] ∧ 1 ≤ k ∧ k ≤ 60 ∧ m = (kL kI).is (stepL k.toNat)
def mulT (t u : Tm) : Tm := (t.1 + u.1, t.2.1 + u.2.1, t.2.2 * u.2.2)
section
variable {P : Program} {w : World} {K : PySem.W.Frag} {mg : Str → Option Value} {base : Heap} {f : Addr} {fd : FuncData}
theorem ok_ltimes (F : Fun K "_law_times" "_law_times" (top 56) f fd) (hm : mg "_law_times" = some (.ref f)) (hb : Binds K fd ["_law_f", "_law_g"] []) (Ct : CLTerms P w K mg base) : CLTimes P w K mg base := by
  refine Cal.pure F sc56 hm hb (fun ms m ⟨_, _, _, h, _⟩ => by rw [h]; rfl) (fun cdv A outer s H vs E ms m hr hv hR => ?_)
  obtain ⟨t0, φ, _, rfl, ht0, b1, rfl, rfl⟩ := hR
  obtain ⟨v, u, rfl, h0, h1⟩ := pd2 hv
  obtain ⟨g, hg, c1, rfl, l1⟩ := b1.len h1
  refine s_newT (i := 2) sc56.nd (fun p hp => ?_)
  refine s_forM rfl PassesOwn.never (pi_list pE) (pg3 (i := 3) (j := 4) (k := 5) rfl sc56.nd) (srcM_list (r := kT3 K) (Hb := H) (v := v) (e_nm (i := 0) rfl) h0 (ex_new hp))
    (fun n σ' H' => ∃ kvs a b c d e f', σ' = [some v, some u, some (.ref p), a, b, c, d, e, f'] ∧ Ex H H' ∧ H' p = some (.dT kvs) ∧ DOk kvs (coef ((([t0] : Po).take n).flatMap fun t => g.map (mulT t))) ∧ kvs.length ≤ n * g.length)
    (fun H2 e2 => ⟨[], _, _, _, _, _, _, rfl, (ex_new hp).trans e2, e2 _ _ upd_same, DOk.nil, Nat.zero_le _⟩) (fun n σ' H' ⟨_, _, _, _, _, _, _, _, e, _⟩ => e) ?_ ?_
  · rintro n t x σ' H' ht hx ⟨kvs, a, b, c, d, e, f', rfl, he, hd, hk, hn⟩
    refine g_t3 ((kT3 K).mono he hx) ?_
    have hn0 : n = 0 := by have := (List.getElem?_eq_some_iff.mp ht).1; simp at this; exact this
    subst hn0
    obtain rfl : t = t0 := by simpa using ht.symm
    have hk0 : kvs.length = 0 := by omega
    refine s_forM rfl PassesOwn.never (pi_list pE) (pg3 (i := 6) (j := 7) (k := 8) rfl sc56.nd) (srcM_list (r := kT3 K) (Hb := H) (v := u) (e_nm (i := 1) rfl) hg he)
      (fun j σ' H' => ∃ kvs d e f', σ' = [some v, some u, some (.ref p), some (.int t.1), some (.int t.2.1), some (.int t.2.2), d, e, f'] ∧ Ex H H' ∧ H' p = some (.dT kvs) ∧ DOk kvs (coef ((g.take j).map (mulT t))) ∧ kvs.length ≤ j)
      (fun H2 e2 => ⟨kvs, _, _, _, rfl, he.trans e2, e2 _ _ hd, by simpa using hk, by omega⟩) (fun n σ' H' ⟨_, _, _, _, _, e, _⟩ => e) ?_ ?_
    · rintro j w' x σ' H' hw hx ⟨kvs, d, e, f', rfl, he, hd, hk, hn⟩
      refine g_t3 ((kT3 K).mono he hx) ?_
      have hjl : j < g.length := (List.getElem?_eq_some_iff.mp hw).1
      refine s_dputT (i := t.1 + w'.1) (j := t.2.1 + w'.2.1) (hu_of hr) (e_nm (i := 2) rfl) hd (e_add (vI 3) (vI 6)) (e_add (vI 4) (vI 7))
        (e_add (e_dgetT (hu_of hr) (e_nm (i := 2) rfl) hd hk (e_add (vI 3) (vI 6)) (e_add (vI 4) (vI 7)) e_int) (e_mul (vI 5) (vI 8) (.inl ht0))) (by omega) fun H2 e2 hd2 => ?_
      refine s_nil ⟨_, _, _, _, rfl, e2 _ hp he, hd2, ?_, Nat.le_trans (putK_len' _ _ _) (by omega)⟩
      rw [List.take_add_one, hw, List.map_append]
      exact hk.addTm (mulT t w')
    · rintro σ' H' ⟨kvs, d, e, f', rfl, he, hd, hk, hn⟩
      rw [List.take_length] at hk
      refine s_nil ⟨_, _, _, _, _, _, _, rfl, he, hd, ?_, by omega⟩
      simpa using hk
  · rintro σ' H' ⟨kvs, a, b, c, d, e, f', rfl, he, hd, hk, hn⟩
    have e1 : (([t0] : Po).take ([t0] : Po).length).flatMap (fun t => g.map (mulT t)) = g.map (mulT t0) := by simp
    rw [e1] at hk
    obtain ⟨q, hq1, hq2⟩ := canon_of (g.map (mulT t0))
    refine s_ret (EvN.evp (n_call Ct hr (as := q) (a_cons (m := (rD K 20000).is (coef (g.map (mulT t0)))) (vX (r := rD K 20000) (v := .ref p) 2 ⟨p, kvs, rfl, hd, hk, by simp at hn; omega⟩) a_nil) ⟨_, _, rfl, by omega, hq1, hq2⟩)) fun v' H2 e2 hv' => ⟨he.trans e2, q, hv', hq1, ?_⟩
    rw [hq2]
    funext i j
    exact coef_term t0.1 t0.2.1 t0.2.2 g i j
theorem ok_lstep (F : Fun K "_law_step" "_law_step" (top 58) f fd) (T : Txt K mg) (hm : mg "_law_step" = some (.ref f)) (hb : Binds K fd ["_law_n"] []) : Cal P w K mg base 1 "_law_step" ["_law_n"] (spM RLStep) := by
  refine Cal.pure F sc58 hm hb (fun ms m ⟨_, h, _⟩ => by rw [h]; rfl) (fun cdv A outer s H vs E ms m hr hv hR => ?_)
  obtain ⟨k, rfl, hk0, hk, rfl⟩ := hR
  obtain ⟨v, rfl, rfl⟩ := pd1 hv
  refine s_setN (i := 1) sc58.nd n_nilI (fun ao xs H1 e1 ha hxs => ?_)
  cases hxs
  refine s_setN (i := 2) (r := kI) (as := [1]) sc58.nd (n_lst (a_cons e_int a_nil) (by decide)) (fun an xs H2 e2 hn hxs => ?_)
  obtain rfl := pd_int.mp hxs
  have exA : Ex H (upd H2 an (.lst ([(1 : Int)].map V.int))) := ((e1.trans (ex_new ha)).trans e2).trans (ex_new hn)
  have hao : upd H2 an (.lst ([(1 : Int)].map V.int)) ao = some (.lst (([] : List Int).map V.int)) := (ex_new hn) _ _ (e2 _ _ upd_same)
  refine s_forM rfl PassesOwn.never (pi_range1 (by rfl) T.range pA) (pg_name (i := 3) sc58.nd rfl (.inl rfl)) (src_r1 (Hb := H) (a_cons (e_sub (vI 0) e_int) a_nil) (by omega) (by omega))
    (fun i σ' H' => ∃ (ao an : Addr) (vc vf va : Option V), σ' = [some (.int k), some (.ref ao), some (.ref an), vc, vf, va] ∧ Ex H H' ∧ H' ao = some (.lst ((sIter i).1.map V.int)) ∧ H' an = some (.lst ((sIter i).2.map V.int)))
    (fun H4 e4 => ⟨ao, an, _, _, _, rfl, exA.trans e4, e4 _ _ hao, e4 _ _ upd_same⟩) (fun i σ' H' ⟨_, _, _, _, _, _, e, _⟩ => e) ?_ ?_
  · rintro i a x σ' H' hi hx ⟨ao, an, vc, vf, va, rfl, he, hO, hN⟩
    obtain ⟨hlt, rfl⟩ := iota_get hi
    obtain ⟨l1, l2⟩ := sIter_len i
    have hlt' : i < 60 := by omega
    refine s_setN (i := 4) (r := kI) (as := [0] ++ (sIter i).2) sc58.nd (n_cat (EvN.evp (n_lst (r := kI) (as := [0]) (a_cons e_int a_nil) (by decide))) (vX (r := kL kI) (v := .ref an) 2 (kL_ints hN)) (by simp; omega)) (fun af xs H4 e4 hf hxs => ?_)
    obtain rfl := pd_int.mp hxs
    have hHf : H af = none := Evl.fresh_back (he.trans e4) hf
    have haf : ao ≠ af := ne_of_none (e4 _ _ hO) hf
    have hnf : an ≠ af := ne_of_none (e4 _ _ hN) hf
    refine s_forM rfl PassesOwn.never (pi_range1 (by rfl) T.range pA) (pg_name (i := 5) sc58.nd rfl (.inl rfl)) (src_r1 (Hb := H) (n := ((sIter i).1.length : Int)) (a_cons (e_lenL (r := kI) T.len (vX (r := kL kI) (v := .ref ao) 1 (kL_ints ((ex_new hf) _ _ (e4 _ _ hO))))) a_nil) (by omega) (by omega))
      (fun j σ' H' => ∃ va, σ' = [some (.int k), some (.ref ao), some (.ref an), x, some (.ref af), va] ∧ Ex H H' ∧ H' ao = some (.lst ((sIter i).1.map V.int)) ∧ H' an = some (.lst ((sIter i).2.map V.int)) ∧ H' af = some (.lst ((subL (0 :: (sIter i).2) ((sIter i).1.take j)).map V.int)))
      (fun H5 e5 => ⟨_, rfl, ((he.trans e4).trans (ex_new hf)).trans e5, e5 _ _ ((ex_new hf) _ _ (e4 _ _ hO)), e5 _ _ ((ex_new hf) _ _ (e4 _ _ hN)), by rw [e5 _ _ upd_same]; simp [subL]⟩) (fun j σ' H' ⟨_, _, e, _⟩ => e) ?_ ?_
    · rintro j a x2 σ' H' hj hx2 ⟨va, rfl, he2, hO2, hN2, hF2⟩
      obtain ⟨hjt, rfl⟩ := iota_get hj
      obtain rfl : x2 = .int (0 + (j : Int)) := hx2
      have hj1 : j < (sIter i).1.length := by omega
      obtain ⟨y, hy⟩ : ∃ y, (sIter i).1[j]? = some y := ⟨_, List.getElem?_eq_getElem hj1⟩
      obtain ⟨z, hz⟩ : ∃ z, (0 :: (sIter i).2)[j]? = some z := ⟨_, List.getElem?_eq_getElem (by rw [List.length_cons]; omega)⟩
      obtain ⟨s1, s2⟩ := subL_next hz hy
      have e0 : (0 : Int) + (j : Int) = (j : Int) := by omega
      refine s_setIx (p := af) (n := (j : Int)) (j := j) (q := fun v _ => v = .int (z - y)) hF2
        (e_sub (e_ixL (r := kI) (i := (j : Int)) (vX (r := kL kI) (v := .ref af) 4 (kL_ints hF2)) (e_var (i := 5) (v := .int (0 + (j : Int))) rfl (fun _ _ => by rw [e0]; rfl)) (atI_nat s1)) (e_ixL (r := kI) (i := (j : Int)) (vX (r := kL kI) (v := .ref ao) 1 (kL_ints hO2)) (e_var (i := 5) (v := .int (0 + (j : Int))) rfl (fun _ _ => by rw [e0]; rfl)) (atI_nat hy)))
        (e_nm (i := 4) rfl) (e_var (i := 5) (v := .int (0 + (j : Int))) rfl (fun _ _ => by rw [e0]; rfl)) (ixN_nat (by rw [List.length_map, subL_len, List.length_cons]; omega)) (fun v H' H'' _ h => h) fun v' H6 e6 hv6 => ?_
      subst hv6
      refine s_nil ⟨_, rfl, Evl.Ex.mut (he2.trans e6) hHf, by rw [upd_ne haf]; exact e6 _ _ hO2, by rw [upd_ne hnf]; exact e6 _ _ hN2, ?_⟩
      rw [upd_same, ← s2, List.map_set]
    · rintro σ' H' ⟨va, rfl, he2, hO2, hN2, hF2⟩
      have e1 : (iota 0 ((((sIter i).1.length : Nat) : Int).toNat)).length = (sIter i).1.length := by rw [iota_len]; omega
      rw [e1, List.take_length] at hF2
      refine s_set (i := 1) sc58.nd (e_nm (i := 2) rfl) (fun v1 H5 e5 q1 => ?_)
      subst q1
      refine s_set (i := 2) sc58.nd (e_nm (i := 4) rfl) (fun v2 H6 e6 q2 => ?_)
      subst q2
      exact s_nil ⟨an, af, _, _, _, rfl, (he2.trans e5).trans e6, e6 _ _ (e5 _ _ hN2), e6 _ _ (e5 _ _ hF2)⟩
  · rintro σ' H' ⟨ao, an, vc, vf, va, rfl, he, hO, hN⟩
    refine s_ret (vX (r := kL kI) (v := .ref an) 2 (kL_ints hN)) fun v' H4 e4 q => ⟨he.trans e4, ?_⟩
    have : (sIter (iota 0 ((k - 1).toNat)).length).2 = stepL k.toNat := by
      rw [iota_len]; unfold stepL; rw [if_neg (by omega)]; congr 2; omega
    rw [this] at q; exact q
end
end Wf
/-! L2a: the law's turns and walks. -/
namespace Wf
open PySem PySem.Spec PyProof.Rows L2 Wp
theorem num_listL {K : PySem.W.Frag} {H : Hp} {v : V} {n : Nm} (h : (rNl K).R H v n) : (kL (rC K)).R H v [n.a, n.b, n.c, n.d] := by
  obtain ⟨p, a, b, c, d, h0, h1, h2, h3, h4, h5⟩ := h
  exact ⟨p, _, h0, h1, .cons h2 (.cons h3 (.cons h4 (.cons h5 .nil)))⟩
theorem add_neg' (f g : C) : add f (neg g) = sub f g := by funext i j; simp only [add, neg, sub]; omega
section
variable {X : Cx} {σ : L2.St} {H : Hp} {a : Expr} {p pos : Pos} {φ : C}
/-- list(f): a copy -/
theorem e_listC (hm : X.mg "list" = none) (ha : EvP (wE X a) σ H ((rC X.K).is φ).P) (hg : Gl X "list" := by rfl) (h1 : starEach [a] X.env = (false, eval a X.env) :: starEach [] X.env := by rfl) (hpl : (backTo pos (starEach [] X.env)).any (·.1) = false := by rfl) : EvP (wE X (.Call (.Name "list" p) [a] [] pos)) σ H ((rC X.K).is φ).P :=
  e_bltT call_list_of hm boot_list (a_cons ha a_nil h1) (fun vs H1 e1 hv Q k => by
    obtain ⟨v, rfl, f, ⟨q, xs, rfl, hx, hp⟩, h2, h3⟩ := pd1 hv
    exact ⟨q, xs, rfl, .inl (SqL.of hx), fun l hl => k _ _ (ex_new hl) ⟨f, ⟨l, xs, rfl, upd_same, pd_mono hp fun _ _ z => (kT3 X.K).mono (ex_new hl) z⟩, h2, h3⟩⟩) hg (by decide) (by decide) h1 hpl
/-- [(1, 0, 1)] and the like -/
theorem e_tm {x y z : Expr} {k : Nat} {tp : Pos} {i j c : Int} (hx : EvP (wE X x) σ H (kI.is i).P) (hy : EvP (wE X y) σ H (kI.is j).P) (hz : EvP (wE X z) σ H (kI.is c).P) (h1 : starEach [x, y, z] X.env = (false, eval x X.env) :: starEach [y, z] X.env := by rfl) (h2 : starEach [y, z] X.env = (false, eval y X.env) :: starEach [z] X.env := by rfl) (h3 : starEach [z] X.env = (false, eval z X.env) :: starEach [] X.env := by rfl)
    (h4 : starEach [.Tuple [x, y, z] k tp] X.env = (false, eval (.Tuple [x, y, z] k tp) X.env) :: starEach [] X.env := by rfl) : EvP (wE X (.List [.Tuple [x, y, z] k tp] pos)) σ H ((rP X.K).is [(i, j, c)]).P :=
  EvN.evp (n_lst (r := kT3 X.K) (as := [(i, j, c)]) (a_cons (e_t3 hx hy hz h1 h2 h3) a_nil h4) (by simp))
end
theorem rltx {K : PySem.W.Frag} {φ : C} (h : Sm φ) : RLTimes K [(rP K).is [(1, 0, 1)], (rC K).is φ] ((rC K).is (mx φ)) := ⟨_, _, _, rfl, by decide, h, (tmul_x φ).symm, rfl⟩
theorem rlty {K : PySem.W.Frag} {φ : C} (h : Sm φ) : RLTimes K [(rP K).is [(0, 1, 1)], (rC K).is φ] ((rC K).is (my φ)) := ⟨_, _, _, rfl, by decide, h, (tmul_y φ).symm, rfl⟩
abbrev N61 : List Str := ["_law_number_here", "_law_a", "_law_b", "_law_c", "_law_d", "_law_x", "_law_y", "_law_second", "_law_third"]
theorem sc61 : FnScope N61 ["_law_number_here"] (defScope (top 61)) := ⟨rfl, rfl, rfl, by decide +kernel, rfl, by decide +kernel, by decide +kernel⟩
abbrev N62 : List Str := ["_law_number_here", "_law_a", "_law_b", "_law_c", "_law_d", "_law_x", "_law_y", "_law_first", "_law_second"]
theorem sc62 : FnScope N62 ["_law_number_here"] (defScope (top 62)) := ⟨rfl, rfl, rfl, by decide +kernel, rfl, by decide +kernel, by decide +kernel⟩
abbrev N63 : List Str := ["_law_number_here", "_law_k", "_law_count"]
theorem sc63 : FnScope N63 ["_law_number_here", "_law_k"] (defScope (top 63)) := ⟨rfl, rfl, rfl, by decide +kernel, rfl, by decide +kernel, by decide +kernel⟩
theorem sc64 : FnScope ["_law_number_here"] ["_law_number_here"] (defScope (top 64)) := ⟨rfl, rfl, rfl, by decide +kernel, rfl, by decide +kernel, by decide +kernel⟩
abbrev N65 : List Str := ["_law_turns", "_law_number_here", "_law_k"]
theorem sc65 : FnScope N65 ["_law_turns"] (defScope (top 65)) := ⟨rfl, rfl, rfl, by decide +kernel, rfl, by decide +kernel, by decide +kernel⟩
def RLNum (K : PySem.W.Frag) : List MP → MP → Prop := fun ms m => ∃ ts : List Int, ms = [(kL kI).is ts] ∧ ts ≠ [] ∧ tot ts ≤ 90 ∧ ts.length ≤ 1000 ∧ m = (rNl K).is (numL ts)
section
variable {P : Program} {w : World} {K : PySem.W.Frag} {mg : Str → Option Value} {base : Heap} {f : Addr} {fd : FuncData}
abbrev CLl (P : Program) (w : World) (K : PySem.W.Frag) (mg : Str → Option Value) (base : Heap) := Cal P w K mg base 3 "_law_left" ["_law_number_here"] (spM (RTl K (rNl K)))
abbrev CLr (P : Program) (w : World) (K : PySem.W.Frag) (mg : Str → Option Value) (base : Heap) := Cal P w K mg base 3 "_law_right" ["_law_number_here"] (spM (RTr K (rNl K)))
abbrev CLtn (P : Program) (w : World) (K : PySem.W.Frag) (mg : Str → Option Value) (base : Heap) := Cal P w K mg base 4 "_law_turned" ["_law_number_here", "_law_k"] (spM (RTn K (rNl K)))
abbrev CLg (P : Program) (w : World) (K : PySem.W.Frag) (mg : Str → Option Value) (base : Heap) := Cal P w K mg base 2 "_law_gone" ["_law_number_here"] (spM (RGn K (rNl K)))
theorem ok_lleft (F : Fun K "_law_left" "_law_left" (top 61) f fd) (hm : mg "_law_left" = some (.ref f)) (hb : Binds K fd ["_law_number_here"] []) (Cp : CLPlus P w K mg base) (Ct : CLTimes P w K mg base) (Cn : CLNeg P w K mg base) : CLl P w K mg base := by
  refine Cal.pure F sc61 hm hb (fun ms m ⟨_, _, h, _⟩ => by rw [h]; rfl) (fun cdv A outer s H vs E ms m hr hv hR => ?_)
  obtain ⟨n, b, rfl, hn, rfl⟩ := hR
  obtain ⟨v, rfl, h0⟩ := pd1 hv
  have hb2 := hn.2
  refine s_unpL (n := n) rfl (vX (r := rNl K) 0 h0) (pgs4 (i := 1) (j := 2) (k := 3) (l := 4) sc61.nd) (fun va vb vc vd H1 e1 qa qb qc qd => g4 ?_)
  refine s_set (i := 5) sc61.nd (e_tm e_int e_int e_int) (fun vx H2 e2 qx => ?_)
  refine s_set (i := 6) sc61.nd (e_tm e_int e_int e_int) (fun vy H3 e3 qy => ?_)
  have e13 := e2.trans e3
  have qx := (rP K).mono e3 qx
  have qa := (rC K).mono e13 qa
  have qb := (rC K).mono e13 qb
  have qc := (rC K).mono e13 qc
  have qd := (rC K).mono e13 qd
  refine s_set (i := 7) sc61.nd (e_call Cp hr (a_cons (e_call Cp hr (a_cons (vX (r := rC K) 1 qa) (a_cons (e_call Ct hr (a_cons (vX (r := rP K) 6 qy) (a_cons (vX (r := rC K) 2 qb) a_nil)) (rlty hn.sb)) a_nil)) (rpl hn.sa (.of (hn.1.b.my.mono (Nat.le_succ _) (Nat.le_refl _)) (by omega))))
    (a_cons (e_call Ct hr (a_cons (vX (r := rP K) 5 qx) (a_cons (vX (r := rC K) 4 qd) a_nil)) (rltx hn.sd)) a_nil)) (rpl (.of ((hn.1.a.mono (Nat.le_succ _) (Nat.le_succ _)).add (hn.1.b.my.mono (Nat.le_succ _) (Nat.le_refl _))) (by omega)) (.of (hn.1.d.mx.mono (Nat.le_refl _) (Nat.le_succ _)) (by omega)))) (fun v2 H4 e4 q2 => ?_)
  refine s_set (i := 8) sc61.nd (e_call Cp hr (a_cons (e_call Ct hr (a_cons (vX (r := rP K) 6 ((rP K).mono e4 qy)) (a_cons (vX (r := rC K) 3 ((rC K).mono e4 qc)) a_nil)) (rlty hn.sc)) (a_cons (vX (r := rC K) 4 ((rC K).mono e4 qd)) a_nil)) (rpl (.of (hn.1.c.my.mono (Nat.le_succ _) (Nat.le_refl _)) (by omega)) hn.sd)) (fun v3 H5 e5 q3 => ?_)
  have e45 := e4.trans e5
  refine s_ret (e_numL (n := tl n) (a_cons (EvP.imp (e_call Cp hr (a_cons (e_call Ct hr (a_cons (vX (r := rP K) 5 ((rP K).mono e45 qx)) (a_cons (vX (r := rC K) 3 ((rC K).mono e45 qc)) a_nil)) (rltx hn.sc)) (a_cons (e_call Cn (hr.mono (by decide)) (a_cons (vX (r := rC K) 2 ((rC K).mono e45 qb)) a_nil) (rng hn.sb)) a_nil)) (rpl (.of (hn.1.c.mx.mono (Nat.le_refl _) (Nat.le_succ _)) (by omega)) (.of hn.1.b.neg (by omega)))) fun v _ _ h => by rw [add_neg'] at h; exact h)
    (a_cons (vX (r := rC K) 7 ((rC K).mono e5 q2)) (a_cons (vX (r := rC K) 8 q3) (a_cons (e_call Cn (hr.mono (by decide)) (a_cons (vX (r := rC K) 3 ((rC K).mono e45 qc)) a_nil) (rng hn.sc)) a_nil))))) fun v' H6 e6 q => ⟨(((e1.trans e13).trans e4).trans e5).trans e6, q⟩
theorem ok_lright (F : Fun K "_law_right" "_law_right" (top 62) f fd) (hm : mg "_law_right" = some (.ref f)) (hb : Binds K fd ["_law_number_here"] []) (Cp : CLPlus P w K mg base) (Ct : CLTimes P w K mg base) (Cn : CLNeg P w K mg base) : CLr P w K mg base := by
  refine Cal.pure F sc62 hm hb (fun ms m ⟨_, _, h, _⟩ => by rw [h]; rfl) (fun cdv A outer s H vs E ms m hr hv hR => ?_)
  obtain ⟨n, b, rfl, hn, rfl⟩ := hR
  obtain ⟨v, rfl, h0⟩ := pd1 hv
  have hb2 := hn.2
  refine s_unpL (n := n) rfl (vX (r := rNl K) 0 h0) (pgs4 (i := 1) (j := 2) (k := 3) (l := 4) sc62.nd) (fun va vb vc vd H1 e1 qa qb qc qd => g4 ?_)
  refine s_set (i := 5) sc62.nd (e_tm e_int e_int e_int) (fun vx H2 e2 qx => ?_)
  refine s_set (i := 6) sc62.nd (e_tm e_int e_int e_int) (fun vy H3 e3 qy => ?_)
  have e13 := e2.trans e3
  have qx := (rP K).mono e3 qx
  have qa := (rC K).mono e13 qa
  have qb := (rC K).mono e13 qb
  have qc := (rC K).mono e13 qc
  have qd := (rC K).mono e13 qd
  refine s_set (i := 7) sc62.nd (EvP.imp (q := ((rC K).is (sub (add (my n.a) n.b) (mx n.c))).P) (e_call Cp hr (a_cons (e_call Cp hr (a_cons (e_call Ct hr (a_cons (vX (r := rP K) 6 qy) (a_cons (vX (r := rC K) 1 qa) a_nil)) (rlty hn.sa)) (a_cons (vX (r := rC K) 2 qb) a_nil)) (rpl (.of (hn.1.a.my.mono (Nat.le_succ _) (Nat.le_refl _)) (by omega)) hn.sb))
    (a_cons (e_call Cn (hr.mono (by decide)) (a_cons (e_call Ct hr (a_cons (vX (r := rP K) 5 qx) (a_cons (vX (r := rC K) 3 qc) a_nil)) (rltx hn.sc)) a_nil) (rng (.of (hn.1.c.mx.mono (Nat.le_refl _) (Nat.le_succ _)) (by omega)))) a_nil)) (rpl (.of ((hn.1.a.my.mono (Nat.le_succ _) (Nat.le_refl _)).add (hn.1.b.mono (Nat.le_succ _) (Nat.le_succ _))) (by omega)) (.of (hn.1.c.mx.mono (Nat.le_refl _) (Nat.le_succ _)).neg (by omega)))) fun v _ _ h => by rw [add_neg'] at h; exact h) (fun v1 H4 e4 q1 => ?_)
  refine s_set (i := 8) sc62.nd (e_call Cn (hr.mono (by decide)) (a_cons (e_call Cp hr (a_cons (vX (r := rC K) 1 ((rC K).mono e4 qa)) (a_cons (e_call Ct hr (a_cons (vX (r := rP K) 5 ((rP K).mono e4 qx)) (a_cons (vX (r := rC K) 4 ((rC K).mono e4 qd)) a_nil)) (rltx hn.sd)) a_nil)) (rpl hn.sa (.of (hn.1.d.mx.mono (Nat.le_refl _) (Nat.le_succ _)) (by omega)))) a_nil) (rng (.of ((hn.1.a.mono (Nat.le_succ _) (Nat.le_succ _)).add (hn.1.d.mx.mono (Nat.le_refl _) (Nat.le_succ _))) (by omega)))) (fun v2 H5 e5 q2 => ?_)
  have e45 := e4.trans e5
  refine s_ret (e_numL (n := tr n) (a_cons (vX (r := rC K) 7 ((rC K).mono e5 q1)) (a_cons (vX (r := rC K) 8 q2) (a_cons (e_call Cn (hr.mono (by decide)) (a_cons (vX (r := rC K) 4 ((rC K).mono e45 qd)) a_nil) (rng hn.sd))
    (a_cons (e_call Cp hr (a_cons (vX (r := rC K) 3 ((rC K).mono e45 qc)) (a_cons (e_call Ct hr (a_cons (vX (r := rP K) 6 ((rP K).mono e45 qy)) (a_cons (vX (r := rC K) 4 ((rC K).mono e45 qd)) a_nil)) (rlty hn.sd)) a_nil)) (rpl hn.sc (.of (hn.1.d.my.mono (Nat.le_succ _) (Nat.le_refl _)) (by omega)))) a_nil))))) fun v' H6 e6 q => ⟨(((e1.trans e13).trans e4).trans e5).trans e6, q⟩
theorem ok_lturned (F : Fun K "_law_turned" "_law_turned" (top 63) f fd) (T : Txt K mg) (hm : mg "_law_turned" = some (.ref f)) (hb : Binds K fd ["_law_number_here", "_law_k"] []) (Cl : CLl P w K mg base) (Cr : CLr P w K mg base) : CLtn P w K mg base := by
  refine Cal.pure F sc63 hm hb (fun ms m ⟨_, _, _, h, _⟩ => by rw [h]; rfl) (fun cdv A outer s H vs E ms m hr hv hR => ?_)
  obtain ⟨n, b, k, rfl, hn, hbk, rfl⟩ := hR
  obtain ⟨v, u, rfl, h0, rfl⟩ := pd2 hv
  refine s_forM rfl PassesOwn.never (pi_range1 rfl T.range pA) (pg_name (i := 2) sc63.nd rfl (.inl rfl)) (src_r1 (Hb := H) (a_cons (e_abs T.abs (vI 1)) a_nil) (by omega) (by omega))
    (fun i σ' H' => ∃ vr vc, σ' = [some vr, some (.int k), vc] ∧ Ex H H' ∧ (rNl K).R H' vr (trI k i n) ∧ i ≤ k.natAbs)
    (fun H2 e2 => ⟨v, _, rfl, e2, (rNl K).mono e2 (by have z : trI k 0 n = n := (by unfold trI; split <;> rfl); rw [z]; exact h0), Nat.zero_le _⟩) (fun i σ' H' ⟨_, _, _, e, _⟩ => e) ?_ ?_
  · rintro i a x σ' H' hi hx ⟨vr, vc, rfl, he, hq, hle⟩
    obtain ⟨hlt, rfl⟩ := iota_get hi
    have hlt' : i < k.natAbs := by omega
    obtain rfl : x = .int (0 + (i : Int)) := hx
    have hns : NS (trI k i n) (b + i) := ⟨trI_box hn i, by omega⟩
    refine s_if (t_gt (vI 1) e_int) (fun hd H2 e2 => ?_) (fun hd H2 e2 => ?_)
    · have hk : 0 < k := of_decide_eq_true hd
      refine s_set (i := 0) sc63.nd (e_call Cl hr (a_cons (vX (r := rNl K) 0 ((rNl K).mono e2 hq)) a_nil) ⟨_, _, rfl, hns, rfl⟩) (fun v2 H3 e3 q3 => s_nil ?_)
      refine s_nil ⟨v2, _, rfl, (he.trans e2).trans e3, ?_, hlt'⟩
      have : trI k (i + 1) n = tl (trI k i n) := by unfold trI; rw [if_pos hk, if_pos hk]; rfl
      rw [this]; exact q3
    · have hk : ¬ 0 < k := of_decide_eq_false hd
      refine s_set (i := 0) sc63.nd (e_call Cr hr (a_cons (vX (r := rNl K) 0 ((rNl K).mono e2 hq)) a_nil) ⟨_, _, rfl, hns, rfl⟩) (fun v2 H3 e3 q3 => s_nil ?_)
      refine s_nil ⟨v2, _, rfl, (he.trans e2).trans e3, ?_, hlt'⟩
      have : trI k (i + 1) n = tr (trI k i n) := by unfold trI; rw [if_neg hk, if_neg hk]; rfl
      rw [this]; exact q3
  · rintro σ' H' ⟨vr, vc, rfl, he, hq, _⟩
    refine s_ret (vX (r := rNl K) 0 hq) fun v' H2 e2 q => ⟨he.trans e2, ?_⟩
    have : trI k (iota 0 ((k.natAbs : Int).toNat)).length n = trn k n := by rw [iota_len]; rfl
    rw [this] at q; exact q
theorem ok_lgone (F : Fun K "_law_gone" "_law_gone" (top 64) f fd) (T : Txt K mg) (hm : mg "_law_gone" = some (.ref f)) (hb : Binds K fd ["_law_number_here"] []) (Cn : CLNeg P w K mg base) : CLg P w K mg base := by
  refine Cal.pure F sc64 hm hb (fun ms m ⟨_, _, h, _⟩ => by rw [h]; rfl) (fun cdv A outer s H vs E ms m hr hv hR => ?_)
  obtain ⟨n, b, rfl, hn, rfl⟩ := hR
  obtain ⟨v, rfl, h0⟩ := pd1 hv
  have hL := num_listL h0
  exact s_ret (e_numL (n := gn n) (a_cons (e_call Cn hr (a_cons (e_ixL (r := rC K) (a0 := n.c) (vX (r := kL (rC K)) 0 hL) e_int rfl) a_nil) (rng hn.sc)) (a_cons (e_call Cn hr (a_cons (e_ixL (r := rC K) (a0 := n.d) (vX (r := kL (rC K)) 0 hL) e_int rfl) a_nil) (rng hn.sd))
    (a_cons (e_listC T.list (e_ixL (r := rC K) (a0 := n.a) (vX (r := kL (rC K)) 0 hL) e_int rfl)) (a_cons (e_listC T.list (e_ixL (r := rC K) (a0 := n.b) (vX (r := kL (rC K)) 0 hL) e_int rfl)) a_nil))))) fun v' H5 e5 q => ⟨e5, q⟩
theorem ok_lnum (F : Fun K "_law_number" "_law_number" (top 65) f fd) (hm : mg "_law_number" = some (.ref f)) (hb : Binds K fd ["_law_turns"] []) (Ct : CLtn P w K mg base) (Cg : CLg P w K mg base) : Cal P w K mg base 5 "_law_number" ["_law_turns"] (spM (RLNum K)) := by
  refine Cal.pure F sc65 hm hb (fun ms m ⟨_, h, _⟩ => by rw [h]; rfl) (fun cdv A outer s H vs E ms m hr hv hR => ?_)
  obtain ⟨ts, rfl, hne, htt, hl, rfl⟩ := hR
  obtain ⟨v, rfl, h0⟩ := pd1 hv
  obtain ⟨k0, r, rfl⟩ : ∃ a r, ts = a :: r := by cases ts with | nil => exact absurd rfl hne | cons a r => exact ⟨_, _, rfl⟩
  have tc := tot_cons k0 r
  refine s_set (i := 1) (q := ((rNl K).is (trn k0 one)).P) sc65.nd (e_call Ct hr (a_cons (m := (rNl K).is one) (e_numL (n := one) (a_cons ((e_tm e_int e_int e_int).imp fun v H' _ h => ⟨_, h, canon_one, coef_one⟩) (a_cons e_nilC (a_cons e_nilC (a_cons e_nilC a_nil))))) (a_cons (e_ixL (r := kI) (vX (r := kL kI) 0 h0) e_int (at_head rfl)) a_nil)) ⟨_, 1, k0, rfl, NB.one (by omega) (by omega), by omega, rfl⟩) (fun v1 H1 e1 q1 => ?_)
  have hcut : cut (k0 :: r) (some 1) none = r := cut_tail (by simp)
  refine s_forP rfl PassesOwn.never (pi_list pE) (pg_name (i := 2) sc65.nd rfl (.inl rfl)) (src_list (r := kI) (as := r) (EvN.evp (EvN.cast hcut (n_slice (po_some pE) po_none (vX (r := kL kI) 0 ((kL kI).mono e1 h0)) (o_some e_int) o_none))))
    (fun i σ' H' => ∃ vn a, σ' = [some v, some vn, a] ∧ Ex H H' ∧ (rNl K).R H' vn (numL (k0 :: r.take i))) (fun H2 e2 => ⟨v1, _, rfl, e1.trans e2, (rNl K).mono e2 q1⟩) (fun i σ' H' H'' ⟨vn, a, h1, h2, h3⟩ e => ⟨vn, a, h1, h2.trans e, (rNl K).mono e h3⟩) ?_ ?_
  · rintro i k y σ' H' hi hy ⟨vn, a, rfl, he, hq⟩ Hb eb
    obtain rfl : y = .int k := hy
    have ht2 : (k0 :: r.take (i + 1)) = (k0 :: r.take i) ++ [k] := by rw [List.take_add_one, hi]; rfl
    have tt2 := tot_take r (i + 1)
    have tt3 : tot (r.take (i + 1)) = tot (r.take i) + k.natAbs := by rw [List.take_add_one, hi]; rw [tot_append]; simp [tot]
    have bx : NB (numL (k0 :: r.take i)) (1 + tot (k0 :: r.take i)) (1 + tot (k0 :: r.take i)) := numL_box (by simp)
    rw [tot_cons] at bx
    refine s_set (i := 1) sc65.nd (e_call Ct hr (a_cons (e_call Cg (hr.mono (by decide)) (a_cons (vX (r := rNl K) 1 hq) a_nil) ⟨_, _, rfl, ⟨bx, by omega⟩, rfl⟩) (a_cons (vI 2) a_nil)) ⟨_, _, k, rfl, bx.gn, by omega, rfl⟩) (fun v3 H4 e4 q4 => ?_)
    refine s_nil ⟨eb.trans e4, v3, _, rfl, he.trans e4, ?_⟩
    have : numL (k0 :: r.take (i + 1)) = trn k (gn (numL (k0 :: r.take i))) := by rw [ht2]; exact numL_snoc (by simp) k
    rw [this]; exact q4
  · rintro σ' H' ⟨vn, a, rfl, he, hq⟩
    rw [List.take_length] at hq
    exact s_ret (vX (r := rNl K) 1 hq) fun v' H2 e2 q => ⟨he.trans e2, q⟩
end
end Wf
/-! L3: the law's walks, kinds, lengths, cell. -/
namespace Wf
open PySem PySem.Spec PyProof.Rows L2 Wp
def copL (ts : List Int) : Nat → List Int
  | 0 => [0]
  | m + 1 => joinL (copL ts m) ts
theorem joinL_len {u v : List Int} (hu : u ≠ []) (hv : v ≠ []) : (joinL u v).length = u.length + v.length - 1 := by
  have := List.length_pos_iff.mpr hu
  have := List.length_pos_iff.mpr hv
  unfold joinL; simp; omega
theorem joinL_ne {u v : List Int} : joinL u v ≠ [] := by unfold joinL; simp
theorem copL_ne (ts : List Int) (m : Nat) : copL ts m ≠ [] := by cases m with | zero => simp [copL] | succ m => exact joinL_ne
theorem copL_len {ts : List Int} (h : ts ≠ []) (m : Nat) : (copL ts m).length = 1 + m * (ts.length - 1) := by
  induction m with
  | zero => simp [copL]
  | succ m ih =>
    have := List.length_pos_iff.mpr h
    rw [copL, joinL_len (copL_ne ts m) h, ih, Nat.succ_mul]; omega
theorem backL_len (u : List Int) : (backL u).length = u.length := by unfold backL; simp
theorem backL_ne {u : List Int} (h : u ≠ []) : backL u ≠ [] := fun z => h (List.length_eq_zero_iff.mp (by rw [← backL_len, z]; rfl))
def RLJoin : List MP → MP → Prop := fun ms m => ∃ u v : List Int, ms = [(kL kI).is u, (kL kI).is v] ∧ u ≠ [] ∧ v ≠ [] ∧ u.length + v.length ≤ 1000 ∧ m = (kL kI).is (joinL u v)
def RLBack : List MP → MP → Prop := fun ms m => ∃ u : List Int, ms = [(kL kI).is u] ∧ u.length ≤ 1000 ∧ m = (kL kI).is (backL u)
def RLCop : List MP → MP → Prop := fun ms m => ∃ (u : List Int) (n : Int), ms = [(kL kI).is u, kI.is n] ∧ u ≠ [] ∧ u.length ≤ 5 ∧ 0 ≤ n ∧ n ≤ 10 ∧ m = (kL kI).is (copL u n.toNat)
def RLKind : List MP → MP → Prop := fun ms m => ∃ k : Nat, ms = [kI.is (k : Int)] ∧ k < 4 ∧ m = kS.is (kindS k)
def RLLen : List MP → MP → Prop := fun ms m => ∃ u v : List Int, ms = [(kL kI).is u, (kL kI).is v] ∧ u ≠ [] ∧ v ≠ [] ∧ u.length + v.length ≤ 1000 ∧ m = (kL kI).is [min (((joinL (backL u) v).length : Int) - 1) 9, min (wsz (joinL (backL u) v)) 13]
def RLCell : List MP → MP → Prop := fun ms m => ∃ u : List Int, ms = [(kL kI).is u, kI.is 0] ∧ m = kI.is (u.getD 0 0)
theorem sc52 : FnScope ["_law_script", "_law_k"] ["_law_script", "_law_k"] (defScope (top 52)) := ⟨rfl, rfl, rfl, by decide +kernel, rfl, by decide +kernel, by decide +kernel⟩
theorem sc67 : FnScope ["_law_first", "_law_second"] ["_law_first", "_law_second"] (defScope (top 67)) := ⟨rfl, rfl, rfl, by decide +kernel, rfl, by decide +kernel, by decide +kernel⟩
theorem sc68 : FnScope ["_law_turns", "_law_k"] ["_law_turns"] (defScope (top 68)) := ⟨rfl, rfl, rfl, by decide +kernel, rfl, by decide +kernel, by decide +kernel⟩
abbrev N69 : List Str := ["_law_turns", "_law_m", "_law_result", "_law_count"]
theorem sc69 : FnScope N69 ["_law_turns", "_law_m"] (defScope (top 69)) := ⟨rfl, rfl, rfl, by decide +kernel, rfl, by decide +kernel, by decide +kernel⟩
theorem sc76 : FnScope ["_law_k"] ["_law_k"] (defScope (top 76)) := ⟨rfl, rfl, rfl, by decide +kernel, rfl, by decide +kernel, by decide +kernel⟩
abbrev N78 : List Str := ["_law_first", "_law_second", "_law_turns", "_law_k"]
theorem sc78 : FnScope N78 ["_law_first", "_law_second"] (defScope (top 78)) := ⟨rfl, rfl, rfl, by decide +kernel, rfl, by decide +kernel, by decide +kernel⟩
section
variable {P : Program} {w : World} {K : PySem.W.Frag} {mg : Str → Option Value} {base : Heap} {f : Addr} {fd : FuncData}
abbrev CLJoin (P : Program) (w : World) (K : PySem.W.Frag) (mg : Str → Option Value) (base : Heap) := Cal P w K mg base 1 "_law_joined" ["_law_first", "_law_second"] (spM RLJoin)
abbrev CLBack (P : Program) (w : World) (K : PySem.W.Frag) (mg : Str → Option Value) (base : Heap) := Cal P w K mg base 1 "_law_back" ["_law_turns"] (spM RLBack)
abbrev CLCop (P : Program) (w : World) (K : PySem.W.Frag) (mg : Str → Option Value) (base : Heap) := Cal P w K mg base 2 "_law_copies" ["_law_turns", "_law_m"] (spM RLCop)
theorem ok_lcell (F : Fun K "_law_cell" "_law_cell" (top 52) f fd) (T : Txt K mg) (hm : mg "_law_cell" = some (.ref f)) (hb : Binds K fd ["_law_script", "_law_k"] []) : Cal P w K mg base 1 "_law_cell" ["_law_script", "_law_k"] (spM RLCell) := by
  refine Cal.pure F sc52 hm hb (fun ms m ⟨_, h, _⟩ => by rw [h]; rfl) (fun cdv A outer s H vs E ms m hr hv hR => ?_)
  obtain ⟨u, rfl, rfl⟩ := hR
  obtain ⟨v, k, rfl, h0, rfl⟩ := pd2 hv
  refine s_when (t_lt (vI 1) (e_lenL (r := kI) T.len (vX (r := kL kI) 0 h0))) (fun h H2 e2 => ?_) (fun h H2 e2 => ?_)
  · have h : (0 : Int) < u.length := of_decide_eq_true h
    exact s_ret (e_ixL (r := kI) (vX (r := kL kI) 0 ((kL kI).mono e2 h0)) (vI 1) (getD_at (d := 0) (by omega) h)) fun v' H3 e3 q => ⟨e2.trans e3, q⟩
  · have h : ¬ (0 : Int) < u.length := of_decide_eq_false h
    have hu : u = [] := List.length_eq_zero_iff.mp (by omega)
    subst hu
    exact s_ret e_int fun v' H3 e3 q => ⟨e2.trans e3, q⟩
theorem ok_ljoin (F : Fun K "_law_joined" "_law_joined" (top 67) f fd) (hm : mg "_law_joined" = some (.ref f)) (hb : Binds K fd ["_law_first", "_law_second"] []) : CLJoin P w K mg base := by
  refine Cal.pure F sc67 hm hb (fun ms m ⟨_, _, h, _⟩ => by rw [h]; rfl) (fun cdv A outer s H vs E ms m hr hv hR => ?_)
  obtain ⟨u, v, rfl, hu, hv0, hl, rfl⟩ := hR
  obtain ⟨x, y, rfl, q1, q2⟩ := pd2 hv
  obtain ⟨ul, hul⟩ : ∃ a, u.getLast? = some a := ⟨u.getLast hu, List.getLast?_eq_some_getLast hu⟩
  obtain ⟨vh, hvh⟩ : ∃ a, v.head? = some a := ⟨v.head hv0, List.head?_eq_some_head hv0⟩
  have ej : u.getLastD 0 + v.headD 0 = ul + vh := by
    rw [List.getLastD_eq_getLast?, List.headD_eq_head?_getD, hul, hvh]; rfl
  have hj : joinL u v = u.dropLast ++ [ul + vh] ++ v.tail := by unfold joinL; rw [ej]
  rw [hj]
  refine s_ret (EvN.evp (r := kI) (n_cat (EvN.evp (n_cat (as := u.dropLast) (bs := [ul + vh]) (EvN.evp (EvN.cast (cut_init hu) (n_slice po_none (po_some pE) (vX (r := kL kI) 0 q1) o_none (o_some (e_neg e_int))))) (EvN.evp (n_lst (r := kI) (as := [ul + vh]) (a_cons (e_add (e_ixL (r := kI) (vX (r := kL kI) 0 q1) (e_neg e_int) (at_last hul)) (e_ixL (r := kI) (vX (r := kL kI) 1 q2) e_int (at_head hvh))) a_nil) (by simp))) (by simp; omega)))
    (EvN.evp (EvN.cast (cut_tail hv0) (n_slice (po_some pE) po_none (vX (r := kL kI) 1 q2) (o_some e_int) o_none))) (by simp; omega))) fun v' H2 e2 q => ⟨e2, q⟩
theorem ok_lback (F : Fun K "_law_back" "_law_back" (top 68) f fd) (T : Txt K mg) (hm : mg "_law_back" = some (.ref f)) (hb : Binds K fd ["_law_turns"] []) : CLBack P w K mg base := by
  refine Cal.pure F sc68 hm hb (fun ms m ⟨_, h, _⟩ => by rw [h]; rfl) (fun cdv A outer s H vs E ms m hr hv hR => ?_)
  obtain ⟨u, rfl, hl, rfl⟩ := hR
  obtain ⟨v, rfl, h0⟩ := pd1 hv
  refine s_ret (EvN.evp (r := kI) (?_ : EvN _ _ _ kI (u.reverse.map fun k => -k))) fun v' H2 e2 q => ⟨e2, q⟩
  exact n_lc (own := [("_law_k", 1)]) (r := kI) (as := u.reverse) rfl sc68.nd (RT.pi_revA (by rfl) T.reversed pE) (blkOk_by (N := ["_law_turns", "_law_k"]) (sc := defScope (top 68)) (by decide +kernel)) (fun _ _ _ _ _ => pg_name (i := 1) sc68.nd rfl (.inl rfl))
    (src_revL (vX (r := kL kI) 0 h0)) (fun k => -k) (fun y _ => [some v, some y]) (by rw [List.length_reverse]; omega) (fun a y H' Q _ _ q => q) (fun _ _ => rfl)
    (fun a y H' _ _ hy => bE_of fun s H0 C cl fp => e_neg (e_var (i := 1) rfl (fun _ _ => hy)))
theorem ok_lcop (F : Fun K "_law_copies" "_law_copies" (top 69) f fd) (T : Txt K mg) (hm : mg "_law_copies" = some (.ref f)) (hb : Binds K fd ["_law_turns", "_law_m"] []) (Cj : CLJoin P w K mg base) : CLCop P w K mg base := by
  refine Cal.pure F sc69 hm hb (fun ms m ⟨_, _, h, _⟩ => by rw [h]; rfl) (fun cdv A outer s H vs E ms m hr hv hR => ?_)
  obtain ⟨u, n, rfl, hu, hul, hn0, hn1, rfl⟩ := hR
  obtain ⟨v, vn, rfl, h0, rfl⟩ := pd2 hv
  refine s_set (i := 2) sc69.nd (EvN.evp (n_lst (r := kI) (as := [0]) (a_cons e_int a_nil) (by decide))) (fun v2 H1 e1 q2 => ?_)
  refine s_forM rfl PassesOwn.never (pi_range1 (by rfl) T.range pA) (pg_name (i := 3) sc69.nd rfl (.inl rfl)) (src_r1 (Hb := H) (a_cons (vI 1) a_nil) (by omega) (by omega))
    (fun i σ' H' => ∃ vr vc, σ' = [some v, some (.int n), some vr, vc] ∧ Ex H H' ∧ (kL kI).R H' vr (copL u i)) (fun H2 e2 => ⟨v2, _, rfl, e1.trans e2, (kL kI).mono e2 q2⟩) (fun i σ' H' ⟨_, _, _, e, _⟩ => e) ?_ ?_
  · rintro i a x σ' H' hi hx ⟨vr, vc, rfl, he, hq⟩
    obtain ⟨hlt, rfl⟩ := iota_get hi
    have l1 := copL_len hu i
    have l2 : i * (u.length - 1) ≤ 10 * 4 := Nat.mul_le_mul (by omega) (by omega)
    refine s_set (i := 2) sc69.nd (e_call Cj hr (a_cons (vX (r := kL kI) 2 hq) (a_cons (vX (r := kL kI) 0 ((kL kI).mono he h0)) a_nil)) ⟨_, _, rfl, copL_ne u i, hu, by omega, rfl⟩) (fun v3 H3 e3 q3 => ?_)
    exact s_nil ⟨v3, _, rfl, he.trans e3, q3⟩
  · rintro σ' H' ⟨vr, vc, rfl, he, hq⟩
    rw [iota_len] at hq
    exact s_ret (vX (r := kL kI) 2 hq) fun v' H2 e2 q => ⟨he.trans e2, q⟩
theorem ok_lkind (F : Fun K "_law_kind" "_law_kind" (top 76) f fd) (hm : mg "_law_kind" = some (.ref f)) (hb : Binds K fd ["_law_k"] []) : Cal P w K mg base 1 "_law_kind" ["_law_k"] (spM RLKind) := by
  refine Cal.pure F sc76 hm hb (fun ms m ⟨_, h, _⟩ => by rw [h]; rfl) (fun cdv A outer s H vs E ms m hr hv hR => ?_)
  obtain ⟨k, rfl, hk, rfl⟩ := hR
  obtain ⟨v, rfl, rfl⟩ := pd1 hv
  refine s_ret (e_ixL (r := kS) (as := ["arrow", "corner", "edge", "room"]) (a0 := kindS k) (EvN.evp (n_lst (a_cons e_str (a_cons e_str (a_cons e_str (a_cons e_str a_nil)))) (by decide))) (vI 0) (atI_nat ?_)) fun v' H2 e2 q => ⟨e2, q⟩
  have : k = 0 ∨ k = 1 ∨ k = 2 ∨ k = 3 := by omega
  rcases this with rfl | rfl | rfl | rfl <;> rfl
theorem ok_llen (F : Fun K "_law_lengths" "_law_lengths" (top 78) f fd) (T : Txt K mg) (hm : mg "_law_lengths" = some (.ref f)) (hb : Binds K fd ["_law_first", "_law_second"] []) (Cj : CLJoin P w K mg base) (Cb : CLBack P w K mg base) : Cal P w K mg base 2 "_law_lengths" ["_law_first", "_law_second"] (spM RLLen) := by
  refine Cal.pure F sc78 hm hb (fun ms m ⟨_, _, h, _⟩ => by rw [h]; rfl) (fun cdv A outer s H vs E ms m hr hv hR => ?_)
  obtain ⟨u, v, rfl, hu, hv0, hl, rfl⟩ := hR
  obtain ⟨x, y, rfl, q1, q2⟩ := pd2 hv
  have lj := joinL_len (backL_ne hu) hv0
  rw [backL_len] at lj
  refine s_set (i := 2) sc78.nd (e_call Cj hr (a_cons (e_call Cb hr (a_cons (vX (r := kL kI) 0 q1) a_nil) ⟨u, rfl, by omega, rfl⟩) (a_cons (vX (r := kL kI) 1 q2) a_nil)) ⟨_, _, rfl, backL_ne hu, hv0, by rw [backL_len]; omega, rfl⟩) (fun v2 H1 e1 q3 => ?_)
  have q3 : (kL kI).R H1 v2 (joinL (backL u) v) := q3
  generalize joinL (backL u) v = ts at q3 lj ⊢
  exact s_ret (EvN.evp (n_lst (r := kI) (as := [min ((ts.length : Int) - 1) 9, min (wsz ts) 13]) (a_cons (e_min2 rfl T.min (e_sub (e_lenL (r := kI) T.len (vX (r := kL kI) 2 q3)) e_int) e_int) (a_cons (e_min2 rfl T.min (e_sum (ns := ts.map fun (k : Int) => ((Int.natAbs k : Nat) : Int)) rfl T.sum (EvN.evp
    (n_lc (own := [("_law_k", 3)]) (r := kI) (as := ts) rfl sc78.nd (pi_list pE) (blkOk_by (N := N78) (sc := defScope (top 78)) (by decide +kernel)) (fun _ _ _ _ _ => pg_name (i := 3) sc78.nd rfl (.inl rfl))
      (src_list (vX (r := kL kI) 2 q3)) (fun (k : Int) => ((Int.natAbs k : Nat) : Int)) (fun z _ => [some x, some y, some v2, some z]) (by omega) (fun a y H' Q _ _ q => q) (fun _ _ => rfl)
      (fun a y H' _ _ hy => bE_of fun s H0 C cl fp => e_abs T.abs (e_var (i := 3) rfl (fun _ _ => hy)))))) e_int) a_nil)) (by simp))) fun v' H2 e2 q => ⟨e1.trans e2, q⟩
end
end Wf
/-! L4: the law's lowering, what it adds up to. -/
namespace Wf
open Wp
def swT (t : Tm) : Tm := (t.2.1, t.1, t.2.2)
def keyT (a : Int) (t : Tm) : Int := if a = 0 then t.1 else t.2.1
def loM (n : Nat) (high a : Int) (t : Tm) (m : Int) : Tm := if a = 0 then (high - n + 1 + m, t.2.1, -t.2.2 * Sc n m.toNat) else (t.1, high - n + 1 + m, -t.2.2 * Sc n m.toNat)
def loT (n : Nat) (high a : Int) (t : Tm) : Po := (iota 0 n).map (loM n high a t)
def loAll (n : Nat) (high a : Int) (f : Po) : Po := (f.filter fun t => decide (keyT a t = high)).flatMap (loT n high a)
def swA (a : Int) (φ : C) : C := if a = 0 then φ else sw φ
theorem swA_swA (a : Int) (φ : C) : swA a (swA a φ) = φ := by
  unfold swA; split
  · rfl
  · rfl
theorem iota_succ (lo : Int) (n : Nat) : iota lo (n + 1) = iota lo n ++ [lo + n] := by
  unfold iota; rw [List.range_succ, List.map_append]; rfl
theorem coef_run (b y : Int) (F : Int → Int) (i j : Int) : ∀ n : Nat, coef ((iota 0 n).map fun m => (b + m, y, F m)) i j = if j = y ∧ b ≤ i ∧ i < b + n then F (i - b) else 0
  | 0 => by rw [if_neg (by omega)]; rfl
  | n + 1 => by
    rw [iota_succ, List.map_append, coef_append, coef_run b y F i j n]
    simp only [List.map_cons, List.map_nil, coef_cons, coef_nil]
    by_cases h1 : j = y
    · subst h1
      by_cases h2 : i = b + n
      · subst h2
        rw [if_neg (by omega), if_pos (by omega), if_pos (by omega)]
        rw [show b + (n : Int) - b = 0 + n by omega]; omega
      · by_cases h3 : b ≤ i ∧ i < b + n
        · rw [if_pos ⟨rfl, h3⟩, if_neg (by omega), if_pos (by omega)]; omega
        · rw [if_neg (by omega), if_neg (by omega), if_neg (by omega)]; omega
    · rw [if_neg (by omega), if_neg (by omega), if_neg (by omega)]; omega
theorem coef_loT (n : Nat) (high : Int) (t : Tm) (i j : Int) : coef (loT n high 0 t) i j = if t.2.1 = j ∧ high - n + 1 ≤ i ∧ i ≤ high then - (Sc n (i - (high - n + 1)).toNat * t.2.2) else 0 := by
  have : loT n high 0 t = (iota 0 n).map fun m => (high - n + 1 + m, t.2.1, -t.2.2 * Sc n m.toNat) := by
    unfold loT loM; simp
  rw [this, coef_run (high - n + 1) t.2.1 (fun m => -t.2.2 * Sc n m.toNat)]
  by_cases h : t.2.1 = j ∧ high - n + 1 ≤ i ∧ i ≤ high
  · rw [if_pos h, if_pos (by omega), Int.neg_mul, Int.mul_comm]
  · rw [if_neg h, if_neg (by omega)]
theorem coef_loAll0 (n : Nat) (high : Int) (i j : Int) : ∀ f : Po, coef (loAll n high 0 f) i j = if high - n + 1 ≤ i ∧ i ≤ high then - (Sc n (i - (high - n + 1)).toNat * coef f high j) else 0
  | [] => by simp [loAll, coef]
  | t :: f => by
    have ih := coef_loAll0 n high i j f
    have e : loAll n high 0 (t :: f) = (if t.1 = high then loT n high 0 t else []) ++ loAll n high 0 f := by
      unfold loAll
      rw [List.filter_cons]
      by_cases h : t.1 = high
      · have hk : keyT 0 t = high := h
        rw [if_pos (decide_eq_true hk), if_pos h, List.flatMap_cons]
      · have hk : ¬ keyT 0 t = high := h
        rw [if_neg (by simpa using hk), if_neg h]; rfl
    rw [e, coef_append, ih, coef_cons]
    by_cases h : t.1 = high
    · rw [if_pos h, coef_loT]
      by_cases h2 : high - n + 1 ≤ i ∧ i ≤ high
      · rw [if_pos h2, if_pos h2]
        by_cases h3 : t.2.1 = j
        · rw [if_pos ⟨h3, h2⟩, if_pos ⟨h, h3⟩, Int.mul_add]; omega
        · rw [if_neg (by omega), if_neg (by omega), Int.zero_add, Int.zero_add]
      · rw [if_neg h2, if_neg h2, if_neg (by omega)]; rfl
    · rw [if_neg h]
      have hk : ¬ (t.1 = high ∧ t.2.1 = j) := fun q => h q.1
      rw [if_neg hk, coef_nil, Int.zero_add, Int.zero_add]
theorem loT_sw (n : Nat) (high : Int) (t : Tm) : loT n high 1 t = (loT n high 0 (swT t)).map swT := by
  unfold loT; rw [List.map_map]; apply List.map_congr_left; intro m _; unfold loM swT; simp
theorem loAll_sw (n : Nat) (high : Int) : ∀ f : Po, loAll n high 1 f = (loAll n high 0 (f.map swT)).map swT
  | [] => rfl
  | t :: f => by
    have ih := loAll_sw n high f
    unfold loAll at ih ⊢
    rw [List.map_cons, List.filter_cons, List.filter_cons]
    have hk : keyT 0 (swT t) = keyT 1 t := rfl
    rw [hk]
    by_cases h : keyT 1 t = high
    · rw [if_pos (decide_eq_true h), if_pos (decide_eq_true h), List.flatMap_cons, List.flatMap_cons, List.map_append, ih, loT_sw]
    · rw [if_neg (by simpa using h), if_neg (by simpa using h), ih]
theorem coef_swT (f : Po) (i j : Int) : coef (f.map swT) i j = coef f j i := coef_swap f i j
/-- one power gone -/
theorem coef_low (n high : Nat) (a : Int) (ha : a = 0 ∨ a = 1) (f : Po) : coef (f ++ loAll n high a f) = swA a (lowS n high (swA a (coef f))) := by
  rcases ha with rfl | rfl
  · funext i j
    rw [coef_append, coef_loAll0]
    show _ = lowS n high (coef f) i j
    unfold lowS
    by_cases h : (high : Int) - n + 1 ≤ i ∧ i ≤ high
    · rw [if_pos h, if_pos h]; omega
    · rw [if_neg h, if_neg h]; omega
  · funext i j
    rw [coef_append, loAll_sw, coef_swT, coef_loAll0, coef_swT]
    show _ = lowS n high (sw (coef f)) j i
    unfold lowS sw
    by_cases h : (high : Int) - n + 1 ≤ j ∧ j ≤ high
    · rw [if_pos h, if_pos h]; omega
    · rw [if_neg h, if_neg h]; omega
theorem swA_box {a : Int} {φ : C} {m : Nat} (h : Box φ m m) : Box (swA a φ) m m := by
  unfold swA; split
  · exact h
  · exact h.sw
theorem keyT_box {a : Int} {f : Po} (hc : Canon f) {m : Nat} (b : Box (coef f) m m) {t : Tm} (ht : t ∈ f) : 0 ≤ keyT a t ∧ keyT a t < m := by
  have := canon_box hc b ht
  unfold keyT; split <;> omega
/-- above the highest key nothing stands -/
theorem swA_hi {a : Int} (ha : a = 0 ∨ a = 1) {f : Po} {top : Int} (h : ∀ t ∈ f, keyT a t ≤ top) (i j : Int) (hi : top < i) : swA a (coef f) i j = 0 := by
  rcases ha with rfl | rfl
  · show coef f i j = 0
    by_cases q : coef f i j = 0
    · exact q
    · obtain ⟨t, ht, h1, h2⟩ := coef_mem_ne q
      have : t.1 ≤ top := h t ht
      omega
  · show coef f j i = 0
    by_cases q : coef f j i = 0
    · exact q
    · obtain ⟨t, ht, h1, h2⟩ := coef_mem_ne q
      have : t.2.1 ≤ top := h t ht
      omega
end Wf
/-! L5: the law's lowering, the def. -/
namespace Wf
open PySem PySem.Spec PyProof.Rows L2 Wp
def lowA (a : Int) (n : Nat) (φ : C) : C := swA a (lowX n 60 (swA a φ))
def RLLow (K : PySem.W.Frag) : List MP → MP → Prop := fun ms m => ∃ (φ : C) (n a : Int), ms = [(rC K).is φ, kI.is n, kI.is a] ∧ 1 ≤ n ∧ (a = 0 ∨ a = 1) ∧ Box φ 60 60 ∧ m = (rC K).is (lowA a n.toNat φ)
abbrev N73 : List Str := ["_law_f", "_law_n", "_law_across", "_law_left_here", "_law_top", "_law_row", "_law_high", "_law_found", "_law_i", "_law_j", "_law_c", "_law_m", "_law_k", "_law_term"]
theorem sc73 : FnScope N73 ["_law_f", "_law_n", "_law_across"] (defScope (top 73)) := ⟨rfl, rfl, rfl, by decide +kernel, rfl, by decide +kernel, by decide +kernel⟩
section
variable {X : Cx} {σ : L2.St} {H : Hp} {a b : Expr} {p pos : Pos}
theorem e_max {ns : List Int} (hc : X.calm = true) (hm : X.mg "max" = none) (ha : EvP (wE X a) σ H ((kL kI).is ns).P) (hne : ns ≠ []) (hg : Gl X "max" := by rfl) (h1 : starEach [a] X.env = (false, eval a X.env) :: starEach [] X.env := by rfl) (hpl : (backTo pos (starEach [] X.env)).any (·.1) = false := by rfl) :
    EvP (wE X (.Call (.Name "max" p) [a] [] pos)) σ H fun v _ => ∃ m : Int, v = .int m ∧ m ∈ ns ∧ ∀ y ∈ ns, y ≤ m :=
  e_bltn (cr_max hc) hm (by decide +kernel) (a_cons ha a_nil h1) (fun vs H1 e1 hv Q k => by
    obtain ⟨v, rfl, q, xs, rfl, hx, hp⟩ := pd1 hv
    refine ⟨q, ns, rfl, SqL.of (by rw [hx, pd_int.mp hp]), ?_, fun m h1 h2 => k _ _ ex_refl ⟨m, rfl, h1, h2⟩⟩
    exact List.length_pos_iff.mpr hne) hg (by decide) (by decide) h1 hpl
/-- term[across] -/
theorem e_key {t : Tm} {i : Int} (ha : EvP (wE X a) σ H ((kT3 X.K).is t).P) (hb : EvP (wE X b) σ H (kI.is i).P) (hi : i = 0 ∨ i = 1) (hs : PlainIx b := by exact fun _ _ => rfl) : EvP (wE X (.Subscript a b pos)) σ H (kI.is (keyT i t)).P :=
  .of (pe_ix ix_tup pE pE hs) fun H1 e1 Q k => ha H1 e1 _ fun v H2 e2 ⟨y, h1, h2⟩ => hb H2 (e1.trans e2) _ fun u H3 e3 eu => ⟨y, _, i, .int (keyT i t), h1, eu, ex_sqt e3 h2, by
    rcases hi with rfl | rfl <;> rfl, k _ _ (e2.trans e3) rfl⟩
end
section
variable {α : Type} {X : Cx} {σ : L2.St} {H H0 : Hp} {D : Ends} {rest : List Stmt} {e : Expr} {pos : Pos} {r : Rep α} {as : List α} {l : Addr}
/-- x = e, a list of one's own unseen meanwhile -/
theorem s_setH {i : Nat} {y : Str} {p' : Pos} {q : V → Hp → Prop} (hN : X.N.Nodup) (hl : OL r H0 H l as) (he : EvP (wE X e) σ (hd H l) q) (h : ∀ v H', OL r H0 H' l as → Ex (hd H l) (hd H' l) → q v (hd H' l) → wS X rest D (σ.set i (some v)) H') (hi : X.N[i]? = some y := by rfl) (hx : Loc X.env.scope y := by first | exact Or.inl rfl | exact Or.inr rfl)
    (hs : swapsWith e (some (.Name y p')) pos.line X.env = pure false := by rfl) (hf : X.fn y = true ∨ X.env.scope.names.lookup y = some .local := by first | exact .inl rfl | exact .inr rfl) : wS X (.Assign [.Name y p'] e pos :: rest) D σ H := by
  obtain ⟨xs, h1, h2⟩ := id hl.at'
  refine s_setW hN (wE.frame h1 trivial (EvP.use he fun v H' e' hv hn => h v _ ⟨hl.new, by rw [hd_upd hn]; exact hl.sub.trans e', xs, upd_same, by rw [hd_upd hn]; exact pd_mono h2 fun _ _ z => r.mono e' z⟩ (by rw [hd_upd hn]; exact e') (by rw [hd_upd hn]; exact hv))) hi hx hs hf
end
theorem loT_len (n : Nat) (high a : Int) (t : Tm) : (loT n high a t).length = n := by unfold loT; rw [List.length_map, iota_len]
theorem flat_len {n : Nat} {high a : Int} : ∀ f : Po, (f.flatMap (loT n high a)).length = f.length * n
  | [] => by simp
  | t :: f => by rw [List.flatMap_cons, List.length_append, loT_len, flat_len f, List.length_cons, Nat.succ_mul]; omega
section
variable {P : Program} {w : World} {K : PySem.W.Frag} {mg : Str → Option Value} {base : Heap} {f : Addr} {fd : FuncData}
theorem ok_llow (F : Fun K "_law_lowered" "_law_lowered" (top 73) f fd) (T : Txt K mg) (hm : mg "_law_lowered" = some (.ref f)) (hb : Binds K fd ["_law_f", "_law_n", "_law_across"] []) (Ct : CLTerms P w K mg base) (Cs : CLSums P w K mg base) (Cp : Cal P w K mg base 1 "_law_step" ["_law_n"] (spM RLStep)) :
    Cal P w K mg base 2 "_law_lowered" ["_law_f", "_law_n", "_law_across"] (spM (RLLow K)) := by
  refine Cal.pure F sc73 hm hb (fun ms m ⟨_, _, _, h, _⟩ => by rw [h]; rfl) (fun cdv A outer s H vs E ms m hr hv hR => ?_)
  obtain ⟨φ, n, a, rfl, hn1, ha, hbox, rfl⟩ := hR
  obtain ⟨v, vn, va, rfl, h0, rfl, rfl⟩ := pd3 hv
  obtain ⟨f1, hf1, hc1, rfl⟩ := h0
  have hlen1 := hc1.len hbox
  -- left = list(f)
  refine s_setN (i := 3) (r := kT3 K) (as := f1) sc73.nd (n_listL T.list (vX (r := rP K) 0 hf1)) (fun l xs H1 e1 hl hx => ?_)
  have o1 := OL.mk0 (r := kT3 K) e1 hl hx
  generalize upd H1 l (.lst xs) = H1' at o1
  -- top = max(..)
  refine s_set (i := 4) sc73.nd (e_max (ns := [0] ++ f1.map (keyT a)) rfl T.max (EvN.evp (n_cat (r := kI) (as := [0]) (bs := f1.map (keyT a)) (EvN.evp (n_lst (r := kI) (as := [0]) (a_cons e_int a_nil) (by decide))) (EvN.evp (n_lc (own := [("_law_term", 13)]) (r := kT3 K) (as := f1) rfl sc73.nd (pi_list pE) (blkOk_by (N := N73) (sc := defScope (top 73)) (by decide +kernel)) (fun _ _ _ _ _ => pg_name (i := 13) sc73.nd rfl (.inl rfl))
    (src_list (vX (r := kL (kT3 K)) (v := .ref l) 3 o1.list)) (keyT a) (fun z _ => [some v, some (.int n), some (.int a), some (.ref l), none, none, none, none, none, none, none, none, none, some z]) (by omega) (fun a y H' Q _ _ q => q) (fun _ _ => rfl)
    (fun t y H' _ _ hy => bE_of fun s H0 C cl fp => e_key (vX (r := kT3 K) 13 hy) (vI 2) ha))) (by simp; omega))) (by simp)) (fun v4 H2 e2 ⟨tp, hv4, ht1, ht2⟩ => ?_)
  subst hv4
  have htop0 : 0 ≤ tp := ht2 0 (by simp)
  have htop : tp < 60 := by
    rcases List.mem_append.mp ht1 with h | h
    · have : tp = 0 := by simpa using h
      omega
    · obtain ⟨t, ht, rfl⟩ := List.mem_map.mp h
      have := keyT_box (a := a) hc1 hbox ht
      omega
  have hkey : ∀ t ∈ f1, keyT a t ≤ tp := fun t ht => ht2 _ (List.mem_append_right _ (List.mem_map.mpr ⟨t, ht, rfl⟩))
  have hzero := swA_hi ha hkey
  have hlowX : ∀ p : Nat, lowX p 60 (swA a (coef f1)) = lowX p (tp + 1).toNat (swA a (coef f1)) := fun p => lowX_any (fun i j hi => hzero i j (by omega)) (by omega)
  have o2 := o1.mono e2
  refine s_when (t_gt (e_sub (vI 1) e_int) (vI 4)) (fun h H3 e3 => ?_) (fun h H3 e3 => ?_)
  · have h : tp < n - 1 := of_decide_eq_true h
    refine s_ret (vX (r := rP K) (v := .ref l) 3 (o2.mono e3).list) fun v' H4 e4 q => ⟨(o2.mono e3).ex.trans e4, f1, q, hc1, ?_⟩
    unfold lowA
    rw [hlowX, lowX_done (by omega), swA_swA]
  have h : ¬ tp < n - 1 := of_decide_eq_false h
  obtain ⟨p, rfl⟩ : ∃ p : Nat, n = (p : Int) := ⟨n.toNat, by omega⟩
  have hp60 : p ≤ 60 := by omega
  rw [show ((p : Int)).toNat = p by omega]
  unfold lowA
  rw [hlowX]
  -- row = step(n)
  refine s_setH (i := 5) sc73.nd (o2.mono e3) (e_call Cp hr (a_cons (vI 1) a_nil) ⟨_, rfl, by omega, by omega, rfl⟩) (fun vr H4 o4 e4 q4 => ?_)
  rw [show ((p : Int)).toNat = p by omega] at q4
  -- for high in reversed(range(n - 1, top + 1))
  refine s_forM rfl PassesOwn.never (pi_revR (by rfl) T.reversed (prg_2 (by rfl) T.range pE pE)) (pg_name (i := 6) sc73.nd rfl (.inr rfl)) (srcM_rev2 (Hb := H) (a := (p : Int) - 1) (b := tp + 1) (e_sub (vI 1) e_int) (e_add (vI 4) e_int) (by omega))
    (fun k σ' H' => ∃ (l : Addr) (g : Po) (s6 s7 s8 s9 s10 s11 s12 : Option V), σ' = [some v, some (.int (p : Int)), some (.int a), some (.ref l), some (.int tp), some vr, s6, s7, s8, s9, s10, s11, s12, none] ∧ OL (kT3 K) H H' l g ∧ (kL kI).R (hd H' l) vr (stepL p) ∧ Canon g ∧ Box (coef g) 60 60 ∧ lowX p ((tp + 1).toNat - k) (swA a (coef g)) = lowX p (tp + 1).toNat (swA a (coef f1)))
    (fun H5 e5 => ⟨l, f1, _, _, _, _, _, _, _, rfl, o4.mono e5, (by obtain ⟨xs, h1, _⟩ := o4.at'; exact (kL kI).mono (hd_ex e5 h1) q4), hc1, hbox, rfl⟩) (fun k σ' H' ⟨_, _, _, _, _, _, _, _, _, _, h, _⟩ => h.ex) ?_ ?_
  · rintro k hv_ x σ' H' hk hx ⟨l, g, s6, s7, s8, s9, s10, s11, s12, rfl, ho, hrow, hcg, hbg, hlo⟩
    obtain ⟨hkl, rfl⟩ := rev_get hk
    obtain rfl : x = .int ((p : Int) - 1 + (((tp + 1 - ((p : Int) - 1)).toNat - 1 - k : Nat) : Int)) := hx
    obtain ⟨high, hhi⟩ : ∃ high : Nat, (p : Int) - 1 + (((tp + 1 - ((p : Int) - 1)).toNat - 1 - k : Nat) : Int) = (high : Int) := ⟨((p : Int) - 1 + (((tp + 1 - ((p : Int) - 1)).toNat - 1 - k : Nat) : Int)).toNat, by omega⟩
    rw [hhi]
    have hh60 : high < 60 := by omega
    have hph : p ≤ high + 1 := by omega
    have hkk : (tp + 1).toNat - k = high + 1 := by omega
    have hgl := hcg.len hbg
    -- found
    refine s_setLcIf (i := 7) (rc := kT3 K) (own := [("_law_term", 13)]) (r := kT3 K) (as := g) rfl sc73.nd (pi_list pE) (blkOk_by (N := N73) (sc := defScope (top 73)) (by decide +kernel)) (fun _ _ _ _ _ => pg_name (i := 13) sc73.nd rfl (.inl rfl))
      (src_list (vX (r := kL (kT3 K)) (v := .ref l) 3 ho.list)) (fun t => decide (keyT a t = (high : Int))) id (fun z _ => [some v, some (.int (p : Int)), some (.int a), some (.ref l), some (.int tp), some vr, some (.int (high : Int)), s7, s8, s9, s10, s11, s12, some z]) (by omega) (fun a y H' Q _ _ q => q) (fun _ _ => rfl)
      (fun t y H' _ _ hy => bT_of fun s H0 C cl fp => t_eqI (e_key (vX (r := kT3 K) 13 hy) (vI 2) ha) (vI 6)) (fun t y H' _ _ hy _ => bE_of fun s H0 C cl fp => vX (r := kT3 K) 13 hy) fun fo xs H5 e5 hfn hfx => ?_
    rw [List.map_id] at hfx
    have ho5 := (ho.mono e5).mono (ex_new (o := .lst xs) hfn)
    have hfl : fo ≠ l := fun z => by
      obtain ⟨ys, h1, _⟩ := (ho.mono e5).at'
      rw [z, h1] at hfn; cases hfn
    have hfound : (kL (kT3 K)).R (hd (upd H5 fo (.lst xs)) l) (.ref fo) (g.filter fun t => decide (keyT a t = (high : Int))) := by
      obtain ⟨ys, h1, _⟩ := ho5.at'
      exact ⟨fo, xs, rfl, by rw [hd_ne hfl, upd_same], pd_mono hfx fun _ _ q => kT3_hd ((kT3 K).mono (ex_new hfn) q) h1⟩
    have hrow5 : (kL kI).R (hd (upd H5 fo (.lst xs)) l) vr (stepL p) := by
      obtain ⟨ys, h1, _⟩ := ho.at'
      exact (kL kI).mono (hd_ex (e5.trans (ex_new (o := .lst xs) hfn)) h1) hrow
    generalize upd H5 fo (.lst xs) = Hs at ho5 hfound hrow5
    have hfll := List.length_filter_le (fun t => decide (keyT a t = (high : Int))) g
    have hAll : loAll p high a g = (g.filter fun t => decide (keyT a t = (high : Int))).flatMap (loT p high a) := rfl
    generalize hfd : (g.filter fun t => decide (keyT a t = (high : Int))) = fd at hfound hfll hAll
    have oB : OL (kT3 K) (hd Hs l) Hs l g := ⟨hd_same, ex_refl, ho5.at'⟩
    have hbase : ∀ {H' : Hp} {as : Po}, OL (kT3 K) (hd Hs l) H' l as → OL (kT3 K) H H' l as := fun o => ⟨ho5.new, ho5.sub.trans o.sub, o.at'⟩
    -- for i, j, c in found
    refine s_forM rfl PassesOwn.never (pi_list pE) (pg3 (i := 8) (j := 9) (k := 10) rfl sc73.nd) (srcM_list (r := kT3 K) (Hb := hd Hs l) (v := .ref fo) (e_nm (i := 7) rfl) hfound ex_hd)
      (fun q σ' H' => ∃ (s8 s9 s10 s11 s12 : Option V), σ' = [some v, some (.int (p : Int)), some (.int a), some (.ref l), some (.int tp), some vr, some (.int (high : Int)), some (.ref fo), s8, s9, s10, s11, s12, none] ∧ OL (kT3 K) (hd Hs l) H' l (g ++ (fd.take q).flatMap (loT p high a)))
      (fun H6 e6 => ⟨_, _, _, _, _, rfl, by simpa using oB.mono e6⟩) (fun q σ' H' ⟨_, _, _, _, _, _, h⟩ => h.ex) ?_ ?_
    · rintro q t x σ' H' ht hx ⟨s8, s9, s10, s11, s12, rfl, hoq⟩
      refine g_t3 ((kT3 K).mono hoq.ex hx) ?_
      have hql : q < fd.length := (List.getElem?_eq_some_iff.mp ht).1
      have hfq : ((fd.take q).flatMap (loT p high a)).length ≤ 3600 * 60 := by
        rw [flat_len, List.length_take]
        exact Nat.mul_le_mul (by omega) hp60
      refine s_forM rfl PassesOwn.never (pi_range1 (by rfl) T.range pA) (pg_name (i := 11) sc73.nd rfl (.inl rfl)) (src_r1 (Hb := hd Hs l) (a_cons (vI 1) a_nil) (by omega) (by omega))
        (fun m σ' H' => ∃ (s11 s12 : Option V), σ' = [some v, some (.int (p : Int)), some (.int a), some (.ref l), some (.int tp), some vr, some (.int (high : Int)), some (.ref fo), some (.int t.1), some (.int t.2.1), some (.int t.2.2), s11, s12, none] ∧ OL (kT3 K) (hd Hs l) H' l (g ++ (fd.take q).flatMap (loT p high a) ++ ((iota 0 p).take m).map (loM p high a t)))
        (fun H6 e6 => ⟨_, _, rfl, by simpa using hoq.mono e6⟩) (fun m σ' H' ⟨_, _, _, h⟩ => h.ex) ?_ ?_
      · rintro m mv x σ' H' hm hx ⟨s11, s12, rfl, hom⟩
        obtain ⟨hmp, hmv⟩ := iota_get hm
        obtain rfl : x = .int mv := hx
        have hmp' : m < p := by omega
        have hrow' := (kL kI).mono hom.ex hrow5
        have hsc : (stepL p)[m]? = some (Sc p m) := by
          have : m < (stepL p).length := by rw [stepL_len]; exact hmp'
          unfold Sc
          rw [List.getD_eq_getElem?_getD, List.getElem?_eq_getElem this]; rfl
        have hmt : mv.toNat = m := by omega
        have hsm := Sc_small (p := p) (m := m) hp60
        refine s_set (i := 12) sc73.nd (e_add (e_add (e_sub (vI 6) (vI 1)) e_int) (vI 11)) (fun v12 H7 e7 hv12 => ?_)
        obtain rfl : v12 = .int ((high : Int) - p + 1 + mv) := hv12
        have hom7 := hom.mono e7
        have hrow7 := (kL kI).mono e7 hrow'
        have hz : (g ++ (fd.take q).flatMap (loT p high a) ++ ((iota 0 p).take m).map (loM p high a t)).length ≤ 1000000 := by
          have := List.length_take_le m (iota 0 p)
          simp only [List.length_append, List.length_map]; omega
        have hnext : g ++ (fd.take q).flatMap (loT p high a) ++ ((iota 0 p).take m).map (loM p high a t) ++ [loM p high a t mv] = g ++ (fd.take q).flatMap (loT p high a) ++ ((iota 0 p).take (m + 1)).map (loM p high a t) := by
          have hit : (iota 0 p)[m]? = some mv := by
            have e : ((p : Int)).toNat = p := by omega
            rw [e] at hm; exact hm
          rw [List.take_add_one, hit, List.map_append, List.append_assoc]; rfl
        have fin : ∀ {D : Ends} {H9 : Hp}, OL (kT3 K) (hd Hs l) H9 l (g ++ (fd.take q).flatMap (loT p high a) ++ ((iota 0 p).take m).map (loM p high a t) ++ [loM p high a t mv]) → OL (kT3 K) (hd Hs l) H9 l (g ++ (fd.take q).flatMap (loT p high a) ++ ((iota 0 p).take (m + 1)).map (loM p high a t)) := fun o => hnext ▸ o
        refine s_if (t_eqI (vI 2) e_int) (fun hd_ H8 e8 => ?_) (fun hd_ H8 e8 => ?_)
        · have ha0 : a = 0 := of_decide_eq_true hd_
          refine s_appO (b := loM p high a t mv) (q := ((kT3 K).is (loM p high a t mv)).P) (hom7.mono e8) (e_nm (i := 3) rfl) ?_ (fun v H' e' hv => ?_) hz fun H9 h9 => s_nil (s_nil ⟨_, _, rfl, fin (D := ⟨fun _ _ => True, fun _ _ => True, fun _ _ => True, fun _ _ => True⟩) h9⟩)
          · have : loM p high a t mv = ((high : Int) - p + 1 + mv, t.2.1, -t.2.2 * Sc p m) := by unfold loM; rw [if_pos ha0, hmt]
            rw [this]
            exact e_t3 (vI 12) (vI 9) (e_mul (e_neg (vI 10)) (e_ixL (r := kI) (i := mv) (a0 := Sc p m) (vX (r := kL kI) 5 ((kL kI).mono e8 hrow7)) (vI 11) (by rw [hmv, show (0 : Int) + (m : Int) = (m : Int) by omega]; exact atI_nat hsc)) (.inr hsm))
          · obtain ⟨ys, h1, _⟩ := ((hom7.mono e8).mono e').at'
            exact kT3_hd hv h1
        · have ha0 : ¬ a = 0 := of_decide_eq_false hd_
          refine s_appO (b := loM p high a t mv) (q := ((kT3 K).is (loM p high a t mv)).P) (hom7.mono e8) (e_nm (i := 3) rfl) ?_ (fun v H' e' hv => ?_) hz fun H9 h9 => s_nil (s_nil ⟨_, _, rfl, fin (D := ⟨fun _ _ => True, fun _ _ => True, fun _ _ => True, fun _ _ => True⟩) h9⟩)
          · have : loM p high a t mv = (t.1, (high : Int) - p + 1 + mv, -t.2.2 * Sc p m) := by unfold loM; rw [if_neg ha0, hmt]
            rw [this]
            exact e_t3 (vI 8) (vI 12) (e_mul (e_neg (vI 10)) (e_ixL (r := kI) (i := mv) (a0 := Sc p m) (vX (r := kL kI) 5 ((kL kI).mono e8 hrow7)) (vI 11) (by rw [hmv, show (0 : Int) + (m : Int) = (m : Int) by omega]; exact atI_nat hsc)) (.inr hsm))
          · obtain ⟨ys, h1, _⟩ := ((hom7.mono e8).mono e').at'
            exact kT3_hd hv h1
      · rintro σ' H' ⟨s11, s12, rfl, hom⟩
        have e1 : (iota 0 ((p : Int)).toNat).length = p := by rw [iota_len]; omega
        have e2 : (iota 0 p).take p = iota 0 p := List.take_of_length_le (by rw [iota_len]; exact Nat.le_refl _)
        rw [e1, e2] at hom
        refine s_nil ⟨_, _, _, _, _, rfl, ?_⟩
        rw [List.take_add_one, ht, List.flatMap_append, ← List.append_assoc]
        simpa [loT] using hom
    · rintro σ' H' ⟨s8, s9, s10, s11, s12, rfl, hoq⟩
      rw [List.take_length, ← hAll] at hoq
      have hlA : (loAll p high a g).length ≤ 3600 * 60 := by
        rw [hAll, flat_len]
        exact Nat.mul_le_mul (by omega) hp60
      obtain ⟨g2, hg1, hg2⟩ := canon_of (g ++ loAll p high a g)
      have hcl := coef_low p high a ha g
      have hle : (g ++ loAll p high a g).length ≤ 900000 := by rw [List.length_append]; omega
      refine s_setN (i := 3) (r := kT3 K) (as := g2) sc73.nd (n_call Ct hr (a_cons (m := (rD K (g ++ loAll p high a g).length).is (coef (g ++ loAll p high a g))) (e_call Cs hr (a_cons (vX (r := rP K) (v := .ref l) 3 hoq.list) a_nil) ⟨_, rfl, hle, rfl⟩) a_nil) ⟨_, _, rfl, hle, hg1, hg2⟩) (fun l2 xs2 H7 e7 hn7 hx7 => ?_)
      refine s_nil ⟨l2, g2, _, _, _, _, _, _, _, rfl, OL.mk0 ((hbase hoq).ex.trans e7) hn7 hx7, ?_, hg1, ?_, ?_⟩
      · rw [hd_upd hn7]
        exact (kL kI).mono (hoq.ex.trans e7) hrow5
      · rw [hg2, hcl]
        exact swA_box ((swA_box hbg).lowS hh60 hph)
      · rw [hg2, hcl, swA_swA, ← hlo, hkk, lowX_succ hph, show (tp + 1).toNat - (k + 1) = high by omega]
  · rintro σ' H' ⟨l, g, s6, s7, s8, s9, s10, s11, s12, rfl, ho, hrow, hcg, hbg, hlo⟩
    have e1 : (iota ((p : Int) - 1) (tp + 1 - ((p : Int) - 1)).toNat).reverse.length = (tp + 1 - ((p : Int) - 1)).toNat := by rw [List.length_reverse, iota_len]
    rw [e1, lowX_done (by omega)] at hlo
    refine s_ret (vX (r := rP K) (v := .ref l) 3 ho.list) fun v' H4 e4 q => ⟨ho.ex.trans e4, g, q, hcg, ?_⟩
    rw [← hlo, swA_swA]
end
end Wf
/-! L6: the law's rest and least table. -/
namespace Wf
open PySem PySem.Spec PyProof.Rows L2 Wp
def lastEq (r : List Bool) : Bool := r.getD (r.length - 1) false == r.getD (r.length - 2) false
def dcN : Nat → List (List Bool) → List (List Bool)
  | 0, rs => rs
  | n + 1, rs => if 1 ≤ n ∧ rs.all lastEq = true then dcN n (rs.map List.dropLast) else rs
def RLRest (K : PySem.W.Frag) : List MP → MP → Prop := fun ms m => ∃ (φ : C) (p q : Int), ms = [(rC K).is φ, kI.is p, kI.is q] ∧ 1 ≤ p ∧ 1 ≤ q ∧ Box φ 60 60 ∧ m = (rC K).is (fl p.toNat q.toNat φ)
def RLLeast (K : PySem.W.Frag) : List MP → MP → Prop := fun ms m => ∃ (rs : List (List Bool)) (n : Nat), ms = [(kL (kL kB)).is rs] ∧ rs ≠ [] ∧ (∀ r ∈ rs, r.length = n) ∧ 0 < n ∧ rs.length ≤ 1000 ∧ n ≤ 1000 ∧ m = (kTT K).is (dcN n (wcL rs))
theorem sc74 : FnScope ["_law_f", "_law_sides", "_law_around"] ["_law_f", "_law_sides", "_law_around"] (defScope (top 74)) := ⟨rfl, rfl, rfl, by decide +kernel, rfl, by decide +kernel, by decide +kernel⟩
abbrev N80 : List Str := ["_law_table", "_law_rows", "_law_row"]
theorem sc80 : FnScope N80 ["_law_table"] (defScope (top 80)) := ⟨rfl, rfl, rfl, by decide +kernel, rfl, by decide +kernel, by decide +kernel⟩
abbrev CLLow (P : Program) (w : World) (K : PySem.W.Frag) (mg : Str → Option Value) (base : Heap) := Cal P w K mg base 2 "_law_lowered" ["_law_f", "_law_n", "_law_across"] (spM (RLLow K))
theorem lowA_box {a : Int} {n : Nat} {φ : C} (h : Box φ 60 60) : Box (lowA a n φ) 60 60 := swA_box ((swA_box h).lowX (Nat.le_refl _))
theorem at_m1 {r : List Bool} (h : 0 < r.length) : atI r (-1) = some (r.getD (r.length - 1) false) := by
  unfold atI ixN
  rw [if_neg (by omega), if_pos (by omega)]
  show r[(-1 + (r.length : Int)).toNat]? = _
  rw [show (-1 + (r.length : Int)).toNat = r.length - 1 by omega, List.getD_eq_getElem?_getD, List.getElem?_eq_getElem (by omega)]; rfl
theorem at_m2 {r : List Bool} (h : 1 < r.length) : atI r (-2) = some (r.getD (r.length - 2) false) := by
  unfold atI ixN
  rw [if_neg (by omega), if_pos (by omega)]
  show r[(-2 + (r.length : Int)).toNat]? = _
  rw [show (-2 + (r.length : Int)).toNat = r.length - 2 by omega, List.getD_eq_getElem?_getD, List.getElem?_eq_getElem (by omega)]; rfl
section
variable {P : Program} {w : World} {K : PySem.W.Frag} {mg : Str → Option Value} {base : Heap} {f : Addr} {fd : FuncData}
theorem ok_lrest (F : Fun K "_law_rest" "_law_rest" (top 74) f fd) (hm : mg "_law_rest" = some (.ref f)) (hb : Binds K fd ["_law_f", "_law_sides", "_law_around"] []) (Cl : CLLow P w K mg base) : Cal P w K mg base 3 "_law_rest" ["_law_f", "_law_sides", "_law_around"] (spM (RLRest K)) := by
  refine Cal.pure F sc74 hm hb (fun ms m ⟨_, _, _, h, _⟩ => by rw [h]; rfl) (fun cdv A outer s H vs E ms m hr hv hR => ?_)
  obtain ⟨φ, p, q, rfl, hp, hq, hbx, rfl⟩ := hR
  obtain ⟨v, vp, vq, rfl, h0, rfl, rfl⟩ := pd3 hv
  exact s_ret (e_call Cl hr (a_cons (e_call Cl hr (a_cons (vX (r := rC K) 0 h0) (a_cons (vI 1) (a_cons e_int a_nil))) ⟨φ, p, 0, rfl, hp, .inl rfl, hbx, rfl⟩) (a_cons (vI 2) (a_cons e_int a_nil))) ⟨_, q, 1, rfl, hq, .inr rfl, lowA_box hbx, rfl⟩) fun v' H2 e2 z => ⟨e2, z⟩
theorem ok_lleast (F : Fun K "_law_least" "_law_least" (top 80) f fd) (T : Txt K mg) (hm : mg "_law_least" = some (.ref f)) (hb : Binds K fd ["_law_table"] []) : Cal P w K mg base 1 "_law_least" ["_law_table"] (spM (RLLeast K)) := by
  refine Cal.pure F sc80 hm hb (fun ms m ⟨_, _, h, _⟩ => by rw [h]; rfl) (fun cdv A outer s H vs E ms m hr hv hR => ?_)
  obtain ⟨rs, n, rfl, hne, hn, hn0, hl, hn1, rfl⟩ := hR
  obtain ⟨v, rfl, h0⟩ := pd1 hv
  refine s_setLc (i := 1) (rc := kL kB) (own := [("_law_row", 2)]) (r := kL kB) (as := rs) rfl sc80.nd (pi_list pE) (blkOk_by (N := N80) (sc := defScope (top 80)) (by decide +kernel)) (fun _ _ _ _ _ => pg_name (i := 2) sc80.nd rfl (.inl rfl))
    (src_list (vX (r := kL (kL kB)) 0 h0)) id (fun z _ => [some v, none, some z]) (by omega) (fun a y H' Q _ _ q => q) (fun _ _ => rfl)
    (fun t y H' _ _ hy => bE_of fun s H0 C cl fp => EvN.evp (n_listL T.list (vX (r := kL kB) 2 hy))) fun a xs H1 e1 han hx => ?_
  rw [List.map_id] at hx
  have hr1 : (kL (kL kB)).R (upd H1 a (.lst xs)) (.ref a) rs := ⟨a, xs, rfl, upd_same, pd_mono hx fun _ _ q => (kL kB).mono (ex_new han) q⟩
  have ex1 := e1.trans (ex_new (o := .lst xs) han)
  generalize upd H1 a (.lst xs) = H1' at hr1 ex1
  refine s_while PassesOwn.never (fun m σ' H' => ∃ (st : List (List Bool)) (vr : V), σ' = [some v, some vr, none] ∧ Ex H H' ∧ (kL (kL kB)).R H' vr st.reverse ∧ wcS st = wcS rs.reverse ∧ st ≠ [] ∧ st.length ≤ 1000 ∧ m = st.length) rs.length ⟨rs.reverse, _, rfl, ex1, by rw [List.reverse_reverse]; exact hr1, rfl, by simpa using hne, by simpa using hl, by simp⟩ ?_
  rintro m σ' H' ⟨st, vr, rfl, he, hq, hw, hst, hsl, rfl⟩
  -- behind the first loop
  have second : ∀ {H' : Hp} {vr : V}, Ex H H' → (kL (kL kB)).R H' vr (wcL rs) → ∀ (σ0 : L2.St), σ0 = [some v, some vr, none] → wS (cxOf CX0 P w K mg base N80 "_law_least" (defScope (top 80)) f cdv A outer s H E).nox ((defBody (top 80)).drop 2) { nx := fun _ H' => Ex H H' ∧ ((kTT K).is (dcN n (wcL rs))).P .non H', rt := fun v H' => Ex H H' ∧ ((kTT K).is (dcN n (wcL rs))).P v H' } σ0 H' := by
    intro H' vr he hq σ0 hσ
    subst hσ
    have w1 := wcL_ne hne
    have w2 : ∀ r ∈ wcL rs, r.length = n := fun r h => hn r (wcL_mem h)
    have w3 := wcL_len rs
    refine s_while PassesOwn.never (fun m σ' H' => ∃ (cs : List (List Bool)) (vr : V), σ' = [some v, some vr, none] ∧ Ex H H' ∧ (kL (kL kB)).R H' vr cs ∧ cs ≠ [] ∧ (∀ r ∈ cs, r.length = m) ∧ 0 < m ∧ cs.length ≤ 1000 ∧ dcN m cs = dcN n (wcL rs)) n ⟨wcL rs, vr, rfl, he, hq, w1, w2, hn0, by omega, rfl⟩ ?_
    rintro m σ' H' ⟨cs, vr, rfl, he, hq, hcn, hcl, hm0, hc1, hdc⟩
    obtain ⟨c0, ct, rfl⟩ : ∃ a r, cs = a :: r := by cases cs with | nil => exact absurd rfl hcn | cons a r => exact ⟨_, _, rfl⟩
    have h0l : c0.length = m := hcl c0 (by simp)
    obtain ⟨m, rfl⟩ : ∃ k, m = k + 1 := ⟨m - 1, by omega⟩
    refine ⟨decide (1 ≤ m) && (c0 :: ct).all lastEq, t_is (t_and (c := decide (1 ≤ m)) (d := (c0 :: ct).all lastEq) (t_is (t_gt (e_lenL (r := kB) (as := c0) T.len (e_ixL (r := kL kB) (vX (r := kL (kL kB)) 1 hq) e_int (at_head rfl))) e_int) ?_) (fun hm1 => t_val ?_)) rfl, fun h H2 e2 => ?_, fun h H2 e2 => ?_⟩
    · rw [h0l]; apply decide_eq_decide.mpr; omega
    · have hm1 : 1 ≤ m := of_decide_eq_true hm1
      have hall : (c0 :: ct).all lastEq = (((c0 :: ct).map lastEq).all id) := by rw [List.all_map]; rfl
      rw [hall]
      exact e_all (bs := (c0 :: ct).map lastEq) rfl T.all (EvN.evp (n_lc (own := [("_law_row", 2)]) (r := kL kB) (as := c0 :: ct) rfl sc80.nd (pi_list pE) (blkOk_by (N := N80) (sc := defScope (top 80)) (by decide +kernel)) (fun _ _ _ _ _ => pg_name (i := 2) sc80.nd rfl (.inl rfl))
        (src_list (vX (r := kL (kL kB)) 1 hq)) lastEq (fun z _ => [some v, some vr, some z]) (by omega) (fun a y H' Q _ _ q => q) (fun _ _ => rfl)
        (fun r y H' hr _ hy => bE_of fun s H0 C cl fp => e_eqB (e_ixL (r := kB) (vX (r := kL kB) 2 hy) (e_neg e_int) (at_m1 (by have := hcl r hr; omega))) (e_ixL (r := kB) (vX (r := kL kB) 2 hy) (e_neg e_int) (at_m2 (by have := hcl r hr; omega))))))
    · rw [Bool.and_eq_true] at h
      have hm1 : 1 ≤ m := of_decide_eq_true h.1
      refine s_setLc (i := 1) (rc := kL kB) (own := [("_law_row", 2)]) (r := kL kB) (as := c0 :: ct) rfl sc80.nd (pi_list pE) (blkOk_by (N := N80) (sc := defScope (top 80)) (by decide +kernel)) (fun _ _ _ _ _ => pg_name (i := 2) sc80.nd rfl (.inl rfl))
        (src_list (vX (r := kL (kL kB)) 1 ((kL (kL kB)).mono e2 hq))) List.dropLast (fun z _ => [some v, some vr, some z]) (by omega) (fun a y H' Q _ _ q => q) (fun _ _ => rfl)
        (fun r y H' hr _ hy => bE_of fun s H0 C cl fp => EvN.evp (EvN.cast (cut_init (fun z => by have := hcl r hr; rw [z] at this; simp at this)) (n_slice po_none (po_some pE) (vX (r := kL kB) 2 hy) o_none (o_some (e_neg e_int))))) fun a2 xs2 H3 e3 han2 hx2 => ?_
      refine s_nil ⟨m, Nat.lt_succ_self _, _, _, rfl, ((he.trans e2).trans e3).trans (ex_new han2), ⟨a2, xs2, rfl, upd_same, pd_mono hx2 fun _ _ q => (kL kB).mono (ex_new han2) q⟩, by simp, fun r hr => ?_, hm1, by rw [List.length_map]; exact hc1, ?_⟩
      · obtain ⟨r', hr', rfl⟩ := List.mem_map.mp hr
        rw [List.length_dropLast, hcl r' hr']; omega
      · rw [← hdc, dcN, if_pos ⟨hm1, h.2⟩]
    · have hres : dcN n (wcL rs) = c0 :: ct := by
        rw [← hdc, dcN, if_neg]
        intro z
        rw [z.2, decide_eq_true z.1] at h
        cases h
      rw [hres]
      refine s_ret (e_tupL (r := kT K kB) T.tuple (EvN.evp (EvN.cast (List.map_id _) (?_ : EvN _ _ _ (kT K kB) ((c0 :: ct).map id))))) fun v' H3 e3 q => ⟨(he.trans e2).trans e3, q⟩
      exact n_lc (own := [("_law_row", 2)]) (r := kL kB) (as := c0 :: ct) rfl sc80.nd (pi_list pE) (blkOk_by (N := N80) (sc := defScope (top 80)) (by decide +kernel)) (fun _ _ _ _ _ => pg_name (i := 2) sc80.nd rfl (.inl rfl))
        (src_list (vX (r := kL (kL kB)) 1 ((kL (kL kB)).mono e2 hq))) id (fun z _ => [some v, some vr, some z]) (by omega) (fun a y H' Q _ _ q => q) (fun _ _ => rfl)
        (fun r y H' hr _ hy => bE_of fun s H0 C cl fp => e_tupL (r := kB) T.tuple (vX (r := kL kB) 2 hy))
  rcases st with _ | ⟨x, _ | ⟨y, r⟩⟩
  · exact absurd rfl hst
  · refine ⟨false, t_and (c := false) (d := false) (t_is (t_gt (e_lenL (r := kL kB) (as := [x]) T.len (vX (r := kL (kL kB)) 1 hq)) e_int) rfl) (fun h => absurd h (by decide)), fun h => absurd h (by decide), fun _ H2 e2 => ?_⟩
    have : wcL rs = [x] := by unfold wcL; rw [← hw]; rfl
    exact second (he.trans e2) (by rw [this]; exact (kL (kL kB)).mono e2 hq) _ rfl
  · have hrev : (x :: y :: r).reverse = r.reverse ++ [y] ++ [x] := by simp
    have hdr : (x :: y :: r).reverse.dropLast = (y :: r).reverse := by rw [List.reverse_cons, List.dropLast_concat]
    refine ⟨decide (x = y), t_is (t_and (c := true) (d := decide (x = y)) (t_is (t_gt (e_lenL (r := kL kB) (as := (x :: y :: r).reverse) T.len (vX (r := kL (kL kB)) 1 hq)) e_int) (decide_eq_true (by simp; omega))) (fun _ => t_is (t_eqD (n := 1) (dL (daB K)) (dL (daB K)) hr.units
      (e_ixL (r := kL kB) (a0 := x) (vX (r := kL (kL kB)) 1 hq) (e_neg e_int) (at_last (by rw [hrev]; simp))) (e_ixL (r := kL kB) (a0 := y) (vX (r := kL (kL kB)) 1 hq) (e_neg e_int) (at_last2 hrev)) (shpL shpB) (shpL shpB) (by decide)) (eqvL eqvB x y))) (by simp), fun h H2 e2 => ?_, fun h H2 e2 => ?_⟩
    · have hxy : x = y := of_decide_eq_true h
      subst hxy
      refine s_set (i := 1) sc80.nd (EvN.evp (EvN.cast ((cut_init (by simp)).trans hdr) (n_slice po_none (po_some pE) (vX (r := kL (kL kB)) 1 ((kL (kL kB)).mono e2 hq)) o_none (o_some (e_neg e_int))))) (fun v1 H3 e3 q3 => ?_)
      exact s_nil ⟨(x :: r).length, by simp, x :: r, v1, rfl, (he.trans e2).trans e3, q3, by rw [← hw]; symm; rw [wcS, if_pos rfl], by simp, by simp at hsl ⊢; omega, rfl⟩
    · have hxy : x ≠ y := of_decide_eq_false h
      have : wcL rs = (x :: y :: r).reverse := by unfold wcL; rw [← hw, wcS, if_neg hxy]
      exact second (he.trans e2) (by rw [this]; exact (kL (kL kB)).mono e2 hq) _ rfl
end
end Wf
/-! M5: walks act on stacks; reduced walks. Plain Lean. -/
namespace Wf
def tS (k : Int) : List Int → List Int
  | [] => [k]
  | a :: r => (a + k) :: r
def gS : List Int → List Int
  | 0 :: a :: r => a :: r
  | st => 0 :: st
/-- all but the last are not 0 -/
def NZ : List Int → Prop
  | [] => False
  | [_] => True
  | a :: b :: r => a ≠ 0 ∧ NZ (b :: r)
def VS : List Int → Prop
  | [] => False
  | [_] => True
  | _ :: b :: r => NZ (b :: r)
theorem NZ.vs : ∀ {s : List Int}, NZ s → VS s
  | [], h => h
  | [_], _ => trivial
  | _ :: _ :: _, h => h.2
theorem tS_vs {k : Int} : ∀ {s : List Int}, VS s → VS (tS k s)
  | [], h => h.elim
  | [_], _ => trivial
  | _ :: _ :: _, h => h
theorem gS_pop {a : Int} {r : List Int} : gS (0 :: a :: r) = a :: r := rfl
theorem gS_push {s : List Int} (h : ∀ a r, s ≠ 0 :: a :: r) : gS s = 0 :: s := by
  unfold gS; split
  · exact absurd rfl (h _ _)
  · rfl
theorem gS_cases (s : List Int) : (∃ a r, s = 0 :: a :: r) ∨ ∀ a r, s ≠ 0 :: a :: r := by
  by_cases h : ∃ a r, s = 0 :: a :: r
  · exact .inl h
  · exact .inr fun a r e => h ⟨a, r, e⟩
theorem gS_vs {s : List Int} (h : VS s) : VS (gS s) := by
  rcases gS_cases s with ⟨a, r, rfl⟩ | hs
  · rw [gS_pop]; exact NZ.vs h
  · rw [gS_push hs]
    match s, h, hs with
    | [a], _, _ => trivial
    | a :: b :: r, h, hs => exact ⟨fun z => hs b r (by rw [z]), h⟩
theorem gS_gS {s : List Int} (h : VS s) : gS (gS s) = s := by
  rcases gS_cases s with ⟨a, r, rfl⟩ | hs
  · rw [gS_pop]
    refine gS_push fun b r' e => ?_
    injection e with e1 e2
    subst e1 e2
    exact h.1 rfl
  · rw [gS_push hs]
    match s, h with
    | a :: r, _ => rfl
theorem tS_add (j k : Int) : ∀ {s : List Int}, s ≠ [] → tS k (tS j s) = tS (j + k) s
  | [], h => absurd rfl h
  | a :: r, _ => by simp only [tS]; rw [Int.add_assoc]
theorem tS_zero : ∀ {s : List Int}, s ≠ [] → tS 0 s = s
  | [], h => absurd rfl h
  | a :: r, _ => by simp [tS]
theorem VS.ne {s : List Int} (h : VS s) : s ≠ [] := fun z => by rw [z] at h; exact h
theorem stp_eq {s : List Int} (h : s ≠ []) (k : Int) : stp s k = tS k (gS s) := by
  rcases gS_cases s with ⟨a, r, rfl⟩ | hs
  · rfl
  · rw [gS_push hs]
    unfold stp
    split
    · exact absurd rfl (hs _ _)
    · simp [tS]
/-- a walk acts -/
def act : List Int → List Int → List Int
  | [], s => s
  | k :: r, s => r.foldl (fun s k => tS k (gS s)) (tS k s)
theorem act_snoc {ts : List Int} (h : ts ≠ []) (k : Int) (s : List Int) : act (ts ++ [k]) s = tS k (gS (act ts s)) := by
  cases ts with
  | nil => exact absurd rfl h
  | cons a r => simp [act, List.foldl_append]
theorem act_one (k : Int) (s : List Int) : act [k] s = tS k s := rfl
theorem snoc_ind {Pr : List Int → Prop} (h1 : ∀ k, Pr [k]) (h2 : ∀ ts k, ts ≠ [] → Pr ts → Pr (ts ++ [k])) : ∀ ts, ts ≠ [] → Pr ts := by
  have : ∀ n (ts : List Int), ts.length = n + 1 → Pr ts := by
    intro n
    induction n with
    | zero =>
      intro ts h
      obtain ⟨a, rfl⟩ := List.length_eq_one_iff.mp h
      exact h1 a
    | succ n ih =>
      intro ts h
      have hne : ts ≠ [] := fun z => by rw [z] at h; simp at h
      have e := List.dropLast_concat_getLast hne
      rw [← e]
      have hl : ts.dropLast.length = n + 1 := by rw [List.length_dropLast, h]; rfl
      exact h2 _ _ (fun z => by rw [z] at hl; simp at hl) (ih _ hl)
  intro ts h
  have hp := List.length_pos_iff.mpr h
  exact this (ts.length - 1) ts (by omega)
theorem act_cons {w : List Int} (h : w ≠ []) (k : Int) (s : List Int) : act (k :: w) s = act w (gS (tS k s)) := by
  cases w with
  | nil => exact absurd rfl h
  | cons b r => rfl
theorem act_vs {ts : List Int} (h : ts ≠ []) {s : List Int} (hs : VS s) : VS (act ts s) := by
  refine snoc_ind (Pr := fun ts => VS (act ts s)) (fun k => tS_vs hs) (fun ts k h ih => ?_) ts h
  rw [act_snoc h]
  exact tS_vs (gS_vs ih)
theorem join_one (u : List Int) (a b : Int) : joinL (u ++ [a]) [b] = u ++ [a + b] := by
  unfold joinL; simp
theorem join_snoc (u : List Int) {v : List Int} (h : v ≠ []) (k : Int) : joinL u (v ++ [k]) = joinL u v ++ [k] := by
  cases v with
  | nil => exact absurd rfl h
  | cons b r => unfold joinL; simp
theorem act_join {u v : List Int} (hu : u ≠ []) (hv : v ≠ []) {s : List Int} (hs : VS s) : act (joinL u v) s = act v (act u s) := by
  refine snoc_ind (Pr := fun v => act (joinL u v) s = act v (act u s)) (fun b => ?_) (fun v k h ih => ?_) v hv
  · have e := List.dropLast_concat_getLast hu
    rw [← e, join_one]
    generalize u.dropLast = u' at *
    generalize u.getLast hu = a at *
    cases u' with
    | nil => simp only [List.nil_append, act_one]; rw [tS_add _ _ hs.ne]
    | cons c r => rw [act_snoc (by simp), act_snoc (by simp), act_one, tS_add _ _ (gS_vs (act_vs (by simp) hs)).ne]
  · rw [join_snoc u h, act_snoc joinL_ne, ih, act_snoc h]
theorem back_snoc (u : List Int) (k : Int) : backL (u ++ [k]) = -k :: backL u := by unfold backL; simp
theorem back_back (u : List Int) : backL (backL u) = u := by
  unfold backL
  rw [← List.map_reverse, List.reverse_reverse, List.map_map]
  have : ((fun k : Int => -k) ∘ fun k => -k) = id := by funext k; simp
  rw [this, List.map_id]
theorem act_back {u : List Int} (hu : u ≠ []) {s : List Int} (hs : VS s) : act (backL u) (act u s) = s := by
  refine snoc_ind (Pr := fun u => act (backL u) (act u s) = s) (fun k => ?_) (fun u k h ih => ?_) u hu
  · show tS (-k) (tS k s) = s
    rw [tS_add _ _ hs.ne, show k + -k = 0 by omega, tS_zero hs.ne]
  · have hv := gS_vs (act_vs h hs)
    rw [back_snoc, act_snoc h, act_cons (backL_ne h), tS_add _ _ hv.ne, show k + -k = 0 by omega, tS_zero hv.ne, gS_gS (act_vs h hs)]
    exact ih
theorem act_back' {u : List Int} (hu : u ≠ []) {s : List Int} (hs : VS s) : act u (act (backL u) s) = s := by
  have := act_back (backL_ne hu) hs
  rw [back_back] at this; exact this
theorem redS_snoc (ts : List Int) (k : Int) : redS (ts ++ [k]) = stp (redS ts) k := by simp [redS, List.foldl_append]
theorem redS_ne {ts : List Int} (h : ts ≠ []) : redS ts ≠ [] := by
  refine snoc_ind (Pr := fun ts => redS ts ≠ []) (fun k => ?_) (fun u k h ih => ?_) ts h
  · simp [redS, stp]
  · rw [redS_snoc]; exact stp_ne _ _
theorem vs0 : VS [0] := trivial
theorem redS_act {ts : List Int} (h : ts ≠ []) : redS ts = act ts [0] := by
  refine snoc_ind (Pr := fun ts => redS ts = act ts [0]) (fun k => ?_) (fun u k h ih => ?_) ts h
  · show [k] = [0 + k]; rw [Int.zero_add]
  · rw [redS_snoc, stp_eq (redS_ne h), ih, act_snoc h]
theorem redS_vs {ts : List Int} (h : ts ≠ []) : VS (redS ts) := by rw [redS_act h]; exact act_vs h vs0
theorem rd_act {u v : List Int} (hu : u ≠ []) (hv : v ≠ []) : rd u v = (act v (act (backL u) [0])).reverse := by
  unfold rd redL
  rw [redS_act joinL_ne, act_join (backL_ne hu) hv vs0]
/-- a common path goes -/
theorem rd_join {u w : List Int} (hu : u ≠ []) (hw : w ≠ []) : rd u (joinL u w) = redL w := by
  rw [rd_act hu joinL_ne, act_join hu hw (act_vs (backL_ne hu) vs0), act_back' hu vs0]
  unfold redL; rw [redS_act hw]
theorem rd_front {f u v : List Int} (hf : f ≠ []) (hu : u ≠ []) (hv : v ≠ []) : rd (joinL f u) (joinL f v) = rd u v := by
  have h1 := act_vs (backL_ne hu) vs0
  have h2 := act_vs (backL_ne hf) h1
  have e : act (backL (joinL f u)) [0] = act (backL f) (act (backL u) [0]) := by
    have h3 : act (joinL f u) (act (backL f) (act (backL u) [0])) = [0] := by
      rw [act_join hf hu h2, act_back' hf h1, act_back' hu vs0]
    have := act_back (u := joinL f u) joinL_ne h2
    rw [h3] at this; exact this
  rw [rd_act joinL_ne joinL_ne, rd_act hu hv, e, act_join hf hv h2, act_back' hf h1]
theorem A_cons (a : Int) {r : List Int} (h : r ≠ []) (st : List Int) : act (a :: r).reverse st = tS a (gS (act r.reverse st)) := by
  rw [List.reverse_cons, act_snoc (by simpa using h)]
theorem A_t (k : Int) {s st : List Int} (hs : VS s) (ht : VS st) : act (tS k s).reverse st = tS k (act s.reverse st) := by
  match s, hs with
  | [a], _ => show tS (a + k) st = tS k (tS a st); rw [tS_add _ _ ht.ne]
  | a :: b :: r, hs =>
    show act ((a + k) :: b :: r).reverse st = _
    rw [A_cons (a + k) (r := b :: r) (by simp), A_cons a (r := b :: r) (by simp), tS_add _ _ (gS_vs (act_vs (by simp) ht)).ne]
theorem A_g {s st : List Int} (hs : VS s) (ht : VS st) : act (gS s).reverse st = gS (act s.reverse st) := by
  rcases gS_cases s with ⟨a, r, rfl⟩ | h
  · have hv := act_vs (ts := (a :: r).reverse) (by simp) ht
    rw [gS_pop, A_cons 0 (by simp), tS_zero (gS_vs hv).ne, gS_gS hv]
  · have hv := act_vs (ts := s.reverse) (by simpa using hs.ne) ht
    rw [gS_push h, A_cons 0 hs.ne, tS_zero (gS_vs hv).ne]
/-- a walk and its reduced form act alike -/
theorem act_red {ts : List Int} (h : ts ≠ []) {st : List Int} (ht : VS st) : act (redL ts) st = act ts st := by
  unfold redL
  refine snoc_ind (Pr := fun ts => act (redS ts).reverse st = act ts st) (fun k => rfl) (fun u k h ih => ?_) ts h
  have hv := redS_vs h
  rw [redS_snoc, stp_eq hv.ne, A_t k (gS_vs hv) ht, A_g hv ht, ih, act_snoc h]
theorem red_fix : ∀ {s : List Int}, VS s → redS s.reverse = s
  | [], h => h.elim
  | [a], _ => by simp [redS, stp]
  | a :: b :: r, h => by
    have ih := red_fix (s := b :: r) (NZ.vs h)
    rw [List.reverse_cons, redS_snoc, ih, stp_eq (by simp), gS_push]
    · show [0 + a] ++ b :: r = _; rw [Int.zero_add]; rfl
    · intro c r' e
      injection e with e1 e2
      subst e1 e2
      exact h.1 rfl
theorem nz_iff : ∀ {s : List Int}, NZ s ↔ s ≠ [] ∧ ∀ x ∈ s.dropLast, x ≠ 0
  | [] => by simp [NZ]
  | [a] => by simp [NZ]
  | a :: b :: r => by
    have ih := nz_iff (s := b :: r)
    show a ≠ 0 ∧ NZ (b :: r) ↔ _
    rw [ih]
    simp
theorem vs_iff : ∀ {s : List Int}, VS s ↔ s ≠ [] ∧ ∀ x ∈ s.tail.dropLast, x ≠ 0
  | [] => by simp [VS]
  | [a] => by simp [VS]
  | a :: b :: r => by
    show NZ (b :: r) ↔ _
    rw [nz_iff]
    simp
theorem vs_back {s : List Int} (h : VS s) : VS (s.reverse.map fun k => -k) := by
  rw [vs_iff] at h ⊢
  refine ⟨by simpa using h.1, fun x hx => ?_⟩
  rw [← List.map_tail, ← List.map_dropLast] at hx
  obtain ⟨y, hy, rfl⟩ := List.mem_map.mp hx
  rw [List.tail_reverse, List.dropLast_reverse, List.mem_reverse] at hy
  have : y ∈ s.tail.dropLast := by rw [List.tail_dropLast] at hy; exact hy
  have := h.2 y this
  omega
/-- the other way round -/
theorem rd_swap {u v : List Int} (hu : u ≠ []) (hv : v ≠ []) : rd v u = backL (rd u v) := by
  have hv1 := act_vs (backL_ne hv) vs0
  have ht := act_vs hu hv1
  have hx : joinL (backL u) v ≠ [] := joinL_ne
  have hr : rd u v ≠ [] := by unfold rd redL; simpa using redS_ne hx
  have e1 : act (rd u v) (act u (act (backL v) [0])) = [0] := by
    unfold rd
    rw [act_red hx ht, act_join (backL_ne hu) hv ht, act_back hu hv1, act_back' hv vs0]
  have e2 : act (backL (rd u v)) [0] = act u (act (backL v) [0]) := by
    have := act_back hr ht
    rw [e1] at this; exact this
  have e3 : redS (backL (rd u v)) = (backL (rd u v)).reverse := by
    have h1 : VS (backL (rd u v)).reverse := by
      have h2 := vs_back (redS_vs hx)
      have e : ∀ s : List Int, (backL s.reverse).reverse = s.reverse.map fun k => -k := fun s => by
        unfold backL
        rw [List.reverse_reverse, ← List.map_reverse]
      unfold rd redL
      rw [e]; exact h2
    have := red_fix h1
    rw [List.reverse_reverse] at this; exact this
  rw [rd_act hv hu, ← e2, ← redS_act (backL_ne hr), e3, List.reverse_reverse]
/-! bounds -/
theorem tot_rev (s : List Int) : tot s.reverse = tot s := by unfold tot; rw [List.map_reverse, List.sum_reverse]
theorem tot_back (s : List Int) : tot (backL s) = tot s := by
  unfold backL
  rw [show tot (s.reverse.map fun k => -k) = tot s.reverse by unfold tot; rw [List.map_map]; congr 2; funext k; simp, tot_rev]
theorem tot_stp (s : List Int) (k : Int) : tot (stp s k) ≤ tot s + k.natAbs := by
  unfold stp
  split
  · rename_i a r
    rw [tot_cons, tot_cons, tot_cons]
    have := Int.natAbs_add_le a k
    omega
  · rw [tot_cons]; omega
theorem tot_red (ts : List Int) : tot (redL ts) ≤ tot ts := by
  unfold redL
  rw [tot_rev]
  have : ∀ (ts s : List Int), tot (ts.foldl stp s) ≤ tot s + tot ts := by
    intro ts
    induction ts with
    | nil => intro s; simp [tot]
    | cons k ts ih => intro s; have := ih (stp s k); have := tot_stp s k; rw [tot_cons, List.foldl_cons]; omega
  simpa [redS, tot] using this ts []
theorem tot_join (u v : List Int) : tot (joinL u v) ≤ tot u + tot v := by
  rcases List.eq_nil_or_concat u with rfl | ⟨u', a, rfl⟩
  · cases v with
    | nil => simp [joinL, tot]
    | cons b r => simp [joinL, tot]
  · cases v with
    | nil => simp [joinL, tot]
    | cons b r =>
      have := Int.natAbs_add_le a b
      simp [joinL, tot]; omega
end Wf
/-! M6: the numbers of a walk, of its reduced form, of the walk back; tight boxes. Plain Lean. -/
namespace Wf
def pm (x y : Nm) : Prop := x = y ∨ x = ng y
theorem pm.rfl' (x : Nm) : pm x x := .inl rfl
theorem pm.symm {x y : Nm} (h : pm x y) : pm y x := by
  rcases h with rfl | rfl
  · exact .inl rfl
  · exact .inr (ng_ng y).symm
theorem pm.trans {x y z : Nm} (h : pm x y) (h' : pm y z) : pm x z := by
  rcases h with rfl | rfl
  · exact h'
  · rcases h' with rfl | rfl
    · exact .inr rfl
    · exact .inl (ng_ng z)
theorem pm.map {f : Nm → Nm} (hf : ∀ x, f (ng x) = ng (f x)) {x y : Nm} (h : pm x y) : pm (f x) (f y) := by
  rcases h with rfl | rfl
  · exact .inl rfl
  · exact .inr (hf y)
theorem N_cons (a : Int) {r : List Int} (h : r ≠ []) : numL (a :: r).reverse = trn a (gn (numL r.reverse)) := by
  rw [List.reverse_cons, numL_snoc (by simpa using h)]
theorem N_t (k : Int) : ∀ {s : List Int}, s ≠ [] → numL (tS k s).reverse = trn k (numL s.reverse)
  | [], h => absurd rfl h
  | [a], _ => by show trn (a + k) one = trn k (trn a one); rw [trn_add]
  | a :: b :: r, _ => by
    show numL ((a + k) :: b :: r).reverse = _
    rw [N_cons (a + k) (r := b :: r) (by simp), N_cons a (r := b :: r) (by simp), trn_add]
theorem N_g {s : List Int} (h : s ≠ []) : pm (numL (gS s).reverse) (gn (numL s.reverse)) := by
  rcases gS_cases s with ⟨a, r, rfl⟩ | hs
  · rw [gS_pop, N_cons 0 (r := a :: r) (by simp), trn_zero, gn_gn]
    exact .inr (ng_ng _).symm
  · rw [gS_push hs, N_cons 0 h, trn_zero]
    exact .inl rfl
/-- a walk and its reduced form have one number, up to its sign -/
theorem num_red {ts : List Int} (h : ts ≠ []) : pm (numL ts) (numL (redL ts)) := by
  unfold redL
  refine snoc_ind (Pr := fun ts => pm (numL ts) (numL (redS ts).reverse)) (fun k => .inl rfl) (fun u k h ih => ?_) ts h
  have hv := redS_vs h
  rw [redS_snoc, stp_eq hv.ne, N_t k (gS_vs hv).ne, numL_snoc h]
  exact ((ih.map gn_ng).trans (N_g hv.ne).symm).map (trn_ng k)
/-! the walk back -/
def lt1 (n : Nm) : Nm := ⟨neg n.b, add n.a (my n.b), neg n.d, add n.c (my n.d)⟩
def lr1 (n : Nm) : Nm := ⟨add n.b (my n.a), neg n.a, add n.d (my n.c), neg n.c⟩
def lg (n : Nm) : Nm := ⟨sub (sub (mx n.b) n.c) (my n.d), n.d, add (add n.a (my n.b)) (mx n.d), neg n.b⟩
def bar (n : Nm) : Nm := ⟨add (add n.a (my n.b)) (mx n.d), neg n.b, neg n.c, neg n.d⟩
theorem lt_tl (n : Nm) : lt1 (tl n) = tl (lt1 n) := by
  apply Nm.ext' <;> funext i j <;> simp only [lt1, lr1, lg, bar, tl, tr, gn, ng, add, sub, neg, mx, my] <;> omega
theorem lt_tr (n : Nm) : lt1 (tr n) = tr (lt1 n) := by
  apply Nm.ext' <;> funext i j <;> simp only [lt1, lr1, lg, bar, tl, tr, gn, ng, add, sub, neg, mx, my] <;> omega
theorem lt_gn (n : Nm) : lt1 (gn n) = gn (lt1 n) := by
  apply Nm.ext' <;> funext i j <;> simp only [lt1, lr1, lg, bar, tl, tr, gn, ng, add, sub, neg, mx, my] <;> omega
theorem lr_tl (n : Nm) : lr1 (tl n) = tl (lr1 n) := by
  apply Nm.ext' <;> funext i j <;> simp only [lt1, lr1, lg, bar, tl, tr, gn, ng, add, sub, neg, mx, my] <;> omega
theorem lr_tr (n : Nm) : lr1 (tr n) = tr (lr1 n) := by
  apply Nm.ext' <;> funext i j <;> simp only [lt1, lr1, lg, bar, tl, tr, gn, ng, add, sub, neg, mx, my] <;> omega
theorem lr_gn (n : Nm) : lr1 (gn n) = gn (lr1 n) := by
  apply Nm.ext' <;> funext i j <;> simp only [lt1, lr1, lg, bar, tl, tr, gn, ng, add, sub, neg, mx, my] <;> omega
theorem lg_tl (n : Nm) : lg (tl n) = tl (lg n) := by
  apply Nm.ext' <;> funext i j <;> simp only [lt1, lr1, lg, bar, tl, tr, gn, ng, add, sub, neg, mx, my] <;> omega
theorem lg_tr (n : Nm) : lg (tr n) = tr (lg n) := by
  apply Nm.ext' <;> funext i j <;> simp only [lt1, lr1, lg, bar, tl, tr, gn, ng, add, sub, neg, mx, my] <;> omega
theorem lg_gn (n : Nm) : lg (gn n) = gn (lg n) := by
  apply Nm.ext' <;> funext i j <;> simp only [lt1, lr1, lg, bar, tl, tr, gn, ng, add, sub, neg, mx, my] <;> omega
theorem lt_ng (n : Nm) : lt1 (ng n) = ng (lt1 n) := by
  apply Nm.ext' <;> funext i j <;> simp only [lt1, lr1, lg, bar, tl, tr, gn, ng, add, sub, neg, mx, my] <;> omega
theorem lr_ng (n : Nm) : lr1 (ng n) = ng (lr1 n) := by
  apply Nm.ext' <;> funext i j <;> simp only [lt1, lr1, lg, bar, tl, tr, gn, ng, add, sub, neg, mx, my] <;> omega
theorem lg_ng (n : Nm) : lg (ng n) = ng (lg n) := by
  apply Nm.ext' <;> funext i j <;> simp only [lt1, lr1, lg, bar, tl, tr, gn, ng, add, sub, neg, mx, my] <;> omega
theorem bar_tl (n : Nm) : bar (tl n) = lr1 (bar n) := by
  apply Nm.ext' <;> funext i j <;> simp only [lt1, lr1, lg, bar, tl, tr, gn, ng, add, sub, neg, mx, my] <;> omega
theorem bar_tr (n : Nm) : bar (tr n) = lt1 (bar n) := by
  apply Nm.ext' <;> funext i j <;> simp only [lt1, lr1, lg, bar, tl, tr, gn, ng, add, sub, neg, mx, my] <;> omega
theorem bar_gn (n : Nm) : lg (bar n) = ng (bar (gn n)) := by
  apply Nm.ext' <;> funext i j <;> simp only [lt1, lr1, lg, bar, tl, tr, gn, ng, add, sub, neg, mx, my] <;> omega
theorem one_l : lt1 one = tl one ∧ lr1 one = tr one ∧ lg one = gn one ∧ bar one = one := by
  refine ⟨?_, ?_, ?_, ?_⟩ <;> apply Nm.ext' <;> funext i j <;> simp only [lt1, lr1, lg, bar, tl, tr, gn, ng, add, sub, neg, mx, my, one, zero] <;> omega
def itN (f : Nm → Nm) : Nat → Nm → Nm
  | 0, x => x
  | n + 1, x => f (itN f n x)
theorem itN_comm {f g : Nm → Nm} (h : ∀ x, f (g x) = g (f x)) (x : Nm) : ∀ n, itN f n (g x) = g (itN f n x)
  | 0 => rfl
  | n + 1 => by simp only [itN]; rw [itN_comm h x n, h]
theorem tls_it (x : Nm) : ∀ n, tls n x = itN tl n x
  | 0 => rfl
  | n + 1 => by simp only [tls, itN, tls_it x n]
theorem trs_it (x : Nm) : ∀ n, trs n x = itN tr n x
  | 0 => rfl
  | n + 1 => by simp only [trs, itN, trs_it x n]
def lnk (k : Int) (x : Nm) : Nm := if 0 < k then itN lt1 k.natAbs x else itN lr1 k.natAbs x
theorem trn_f {f : Nm → Nm} (h1 : ∀ x, f (tl x) = tl (f x)) (h2 : ∀ x, f (tr x) = tr (f x)) (k : Int) (x : Nm) : f (trn k x) = trn k (f x) := by
  unfold trn
  split
  · rw [tls_it, tls_it, itN_comm (g := f) (fun x => (h1 x).symm)]
  · rw [trs_it, trs_it, itN_comm (g := f) (fun x => (h2 x).symm)]
theorem lnk_f {g : Nm → Nm} (h1 : ∀ x, lt1 (g x) = g (lt1 x)) (h2 : ∀ x, lr1 (g x) = g (lr1 x)) (k : Int) (x : Nm) : lnk k (g x) = g (lnk k x) := by
  unfold lnk
  split
  · exact itN_comm h1 x _
  · exact itN_comm h2 x _
theorem lnk_trn (k j : Int) (x : Nm) : lnk k (trn j x) = trn j (lnk k x) := lnk_f (fun x => trn_f lt_tl lt_tr j x) (fun x => trn_f lr_tl lr_tr j x) k x
theorem it_one {f g : Nm → Nm} (h : ∀ x, f (g x) = g (f x)) (h1 : f one = g one) : ∀ n, itN f n one = itN g n one
  | 0 => rfl
  | n + 1 => by
    simp only [itN]
    rw [it_one h h1 n, ← itN_comm (f := g) (g := f) (fun x => (h x).symm), h1]
    exact itN_comm (fun _ => rfl) one n
theorem lnk_one (k : Int) : lnk k one = trn k one := by
  unfold lnk trn
  split
  · rw [tls_it]; exact it_one lt_tl one_l.1 _
  · rw [trs_it]; exact it_one lr_tr one_l.2.1 _
theorem num_cons {r : List Int} (h : r ≠ []) (k0 : Int) : numL (k0 :: r) = lnk k0 (lg (numL r)) := by
  refine snoc_ind (Pr := fun r => numL (k0 :: r) = lnk k0 (lg (numL r))) (fun k => ?_) (fun u k h ih => ?_) r h
  · show trn k (gn (trn k0 one)) = lnk k0 (lg (trn k one))
    rw [trn_f lg_tl lg_tr, lnk_trn, one_l.2.2.1, lnk_f lt_gn lr_gn, lnk_one]
  · rw [← List.cons_append, numL_snoc (by simp), ih, numL_snoc h, trn_f lg_tl lg_tr, lg_gn, lnk_trn, lnk_f lt_gn lr_gn]
theorem bar_it {f g : Nm → Nm} (h : ∀ x, bar (f x) = g (bar x)) (x : Nm) : ∀ n, bar (itN f n x) = itN g n (bar x)
  | 0 => rfl
  | n + 1 => by simp only [itN]; rw [h, bar_it h x n]
theorem bar_trn (k : Int) (x : Nm) : bar (trn k x) = lnk (-k) (bar x) := by
  unfold trn lnk
  by_cases h : 0 < k
  · rw [if_pos h, if_neg (by omega), tls_it, bar_it bar_tl, Int.natAbs_neg]
  · rw [if_neg h, trs_it, bar_it bar_tr]
    by_cases h0 : k = 0
    · subst h0; rfl
    · rw [if_pos (by omega), Int.natAbs_neg]
/-- the walk back: the inverse, up to its sign -/
theorem num_back {ts : List Int} (h : ts ≠ []) : pm (numL (backL ts)) (bar (numL ts)) := by
  refine snoc_ind (Pr := fun ts => pm (numL (backL ts)) (bar (numL ts))) (fun k => .inl ?_) (fun u k h ih => ?_) ts h
  · show trn (-k) one = bar (trn k one)
    rw [bar_trn, one_l.2.2.2, lnk_one]
  · rw [back_snoc, num_cons (backL_ne h), numL_snoc h, bar_trn]
    have h1 := (ih.map lg_ng).map (f := lnk (-k)) (fun x => lnk_f lt_ng lr_ng (-k) x)
    refine h1.trans (.inr ?_)
    rw [bar_gn, lnk_f lt_ng lr_ng]
/-! what is due -/
theorem pick_ng (n : Nm) (j : Int) : pick (ng n) j = neg (pick n j) := by
  unfold pick; split
  · rfl
  · split
    · rfl
    · split <;> rfl
theorem pick_bar (n : Nm) {j : Int} (h : j = 1 ∨ j = 2 ∨ j = 3) : pick (bar n) j = neg (pick n j) := by
  rcases h with rfl | rfl | rfl <;> rfl
theorem sw_neg (φ : C) : sw (neg φ) = neg (sw φ) := rfl
theorem fl_neg (p q : Nat) (φ : C) : fl p q (neg φ) = neg (fl p q φ) := by
  unfold fl
  rw [lowX_neg, sw_neg, lowX_neg, sw_neg]
theorem isZ_neg (φ : C) : isZ (neg φ) = isZ φ := by
  have e := neg_zero_iff φ
  cases h1 : isZ (neg φ) <;> cases h2 : isZ φ <;> simp_all [isZ]
theorem all_congr' {α : Type} {f g : α → Bool} : ∀ {l : List α}, (∀ j ∈ l, f j = g j) → l.all f = l.all g
  | [], _ => rfl
  | j :: l, h => by rw [List.all_cons, List.all_cons, h j (by simp), all_congr' fun i hi => h i (by simp [hi])]
theorem due_eq (k : Nat) (x : Nm) (p q : Nat) : dueB k x p q = (placesL k).all fun j => isZ (fl p q (pick x j)) := by
  unfold dueB partsL
  rw [List.all_map]; rfl
theorem due_all (k : Nat) (x y : Nm) (p q : Nat) (h : ∀ j, j = 1 ∨ j = 2 ∨ j = 3 → pick x j = pick y j ∨ pick x j = neg (pick y j)) : dueB k x p q = dueB k y p q := by
  rw [due_eq, due_eq]
  refine all_congr' fun j hj => ?_
  rcases h j (places_mem hj) with e | e
  · rw [e]
  · rw [e, fl_neg, isZ_neg]
theorem due_pm (k : Nat) {x y : Nm} (h : pm x y) (p q : Nat) : dueB k x p q = dueB k y p q := by
  refine due_all k x y p q fun j _ => ?_
  rcases h with rfl | rfl
  · exact .inl rfl
  · exact .inr (pick_ng y j)
theorem due_bar (k : Nat) (x : Nm) (p q : Nat) : dueB k (bar x) p q = dueB k x p q := due_all k _ _ p q fun j hj => .inr (pick_bar x hj)
theorem due_rd (k : Nat) (u v : List Int) (p q : Nat) : dueB k (numL (rd u v)) p q = dueB k (numL (joinL (backL u) v)) p q := (due_pm k (num_red joinL_ne) p q).symm
theorem due_back (k : Nat) {x : List Int} (h : x ≠ []) (p q : Nat) : dueB k (numL (backL x)) p q = dueB k (numL x) p q := (due_pm k (num_back h) p q).trans (due_bar k _ p q)
theorem due_swap (k : Nat) {u v : List Int} (hu : u ≠ []) (hv : v ≠ []) (p q : Nat) : dueB k (numL (rd v u)) p q = dueB k (numL (rd u v)) p q := by
  have hx : rd u v ≠ [] := by unfold rd redL; simpa using redS_ne (ts := joinL (backL u) v) joinL_ne
  rw [rd_swap hu hv, due_back k hx]
/-! tight boxes -/
structure NB2 (x : Nm) (ma mc y : Nat) : Prop where
  a : Box x.a ma y
  b : Box x.b ma y
  c : Box x.c mc y
  d : Box x.d mc y
theorem NB2.tl {x : Nm} {m y : Nat} (h : NB2 x (m + 1) m y) : NB2 (tl x) (m + 1) m (y + 1) :=
  ⟨(h.c.mx.mono (by omega) (by omega)).sub (h.b.mono (by omega) (by omega)), ((h.a.mono (by omega) (by omega)).add (h.b.my.mono (by omega) (by omega))).add (h.d.mx.mono (by omega) (by omega)),
   (h.c.my.mono (by omega) (by omega)).add (h.d.mono (by omega) (by omega)), h.c.neg.mono (by omega) (by omega)⟩
theorem NB2.tr {x : Nm} {m y : Nat} (h : NB2 x (m + 1) m y) : NB2 (tr x) (m + 1) m (y + 1) :=
  ⟨((h.a.my.mono (by omega) (by omega)).add (h.b.mono (by omega) (by omega))).sub (h.c.mx.mono (by omega) (by omega)), ((h.a.mono (by omega) (by omega)).add (h.d.mx.mono (by omega) (by omega))).neg,
   h.d.neg.mono (by omega) (by omega), (h.c.mono (by omega) (by omega)).add (h.d.my.mono (by omega) (by omega))⟩
theorem NB2.tls {x : Nm} {m y : Nat} (h : NB2 x (m + 1) m y) : ∀ k, NB2 (tls k x) (m + 1) m (y + k)
  | 0 => h
  | k + 1 => (NB2.tls h k).tl
theorem NB2.trs {x : Nm} {m y : Nat} (h : NB2 x (m + 1) m y) : ∀ k, NB2 (trs k x) (m + 1) m (y + k)
  | 0 => h
  | k + 1 => (NB2.trs h k).tr
theorem NB2.trn {x : Nm} {m y : Nat} (h : NB2 x (m + 1) m y) (k : Int) : NB2 (trn k x) (m + 1) m (y + k.natAbs) := by
  unfold Wf.trn; split
  · exact h.tls _
  · exact h.trs _
theorem NB2.gn {x : Nm} {m y : Nat} (h : NB2 x (m + 1) m y) : NB2 (gn x) (m + 2) (m + 1) y := ⟨h.c.neg.mono (by omega) (by omega), h.d.neg.mono (by omega) (by omega), h.a, h.b⟩
theorem num_tight {ts : List Int} (h : ts ≠ []) : NB2 (numL ts) ts.length (ts.length - 1) (tot ts + 1) := by
  refine snoc_ind (Pr := fun ts => NB2 (numL ts) ts.length (ts.length - 1) (tot ts + 1)) (fun k => ?_) (fun u k h ih => ?_) ts h
  · have : NB2 one (0 + 1) 0 1 := ⟨.unit (by omega) (by omega), .zero, .zero, .zero⟩
    have := this.trn k
    show NB2 (trn k one) 1 0 _
    rw [show tot [k] + 1 = 1 + k.natAbs by simp [tot]; omega]
    exact this
  · have hp := List.length_pos_iff.mpr h
    obtain ⟨m, hm⟩ : ∃ m, u.length = m + 1 := ⟨u.length - 1, by omega⟩
    rw [hm] at ih
    have := (NB2.gn ih).trn k
    rw [numL_snoc h, List.length_append, hm, tot_append]
    rw [show tot [k] = k.natAbs by simp [tot]]
    show NB2 _ (m + 1 + 1) (m + 1) _
    rw [show tot u + k.natAbs + 1 = tot u + 1 + k.natAbs by omega]
    exact this
theorem num_box2 {ts : List Int} (h : ts ≠ []) {k : Nat} {φ : C} (hφ : φ ∈ partsL k (numL ts)) : Box φ ts.length (tot ts + 1) := by
  have t := num_tight h
  obtain ⟨j, _, rfl⟩ := List.mem_map.mp hφ
  unfold pick
  split
  · exact t.a
  · split
    · exact t.b
    · split
      · exact t.c.mono (by omega) (by omega)
      · exact t.d.mono (by omega) (by omega)
/-- above the degrees a floor changes nothing -/
theorem fl_x {φ : C} {m n : Nat} (h : Box φ m n) (hm : m ≤ 60) {p : Nat} (hp : m < p) (q : Nat) : fl p q φ = fl (m + 1) q φ := by
  unfold fl
  rw [lowX_any (p := p) h.hi hm, lowX_any (p := m + 1) h.hi hm, lowX_done hp, lowX_done (p := m + 1) (m := m) (by omega)]
theorem fl_y {φ : C} {m n : Nat} (h : Box φ m n) (hm : m ≤ 60) (hn : n ≤ 60) {q : Nat} (hq : n < q) (p : Nat) : fl p q φ = fl p (n + 1) φ := by
  unfold fl
  rw [lowX_any (p := p) h.hi hm]
  have b := (h.lowX (p := p) (k := m) (Nat.le_refl _)).sw
  rw [lowX_any (p := q) b.hi hn, lowX_any (p := n + 1) b.hi hn, lowX_done hq, lowX_done (p := n + 1) (m := n) (by omega)]
theorem due_congr {k : Nat} {n : Nm} {p q p' q' : Nat} (h : ∀ φ ∈ partsL k n, fl p q φ = fl p' q' φ) : dueB k n p q = dueB k n p' q' := by
  unfold dueB
  generalize partsL k n = l at h
  induction l with
  | nil => rfl
  | cons φ l ih => rw [List.all_cons, List.all_cons, h φ (by simp), ih fun ψ hψ => h ψ (by simp [hψ])]
theorem due_x {ts : List Int} (h : ts ≠ []) (hl : ts.length ≤ 60) (k : Nat) {p p' : Nat} (hp : ts.length < p) (hp' : ts.length < p') (q : Nat) : dueB k (numL ts) p q = dueB k (numL ts) p' q :=
  due_congr fun φ hφ => (fl_x (num_box2 h hφ) hl hp q).trans (fl_x (num_box2 h hφ) hl hp' q).symm
theorem due_y {ts : List Int} (h : ts ≠ []) (hl : ts.length ≤ 60) (ht : tot ts + 1 ≤ 60) (k : Nat) {q q' : Nat} (hq : tot ts + 1 < q) (hq' : tot ts + 1 < q') (p : Nat) : dueB k (numL ts) p q = dueB k (numL ts) p q' :=
  due_congr fun φ hφ => (fl_y (num_box2 h hφ) hl ht hq p).trans (fl_y (num_box2 h hφ) hl ht hq' p).symm
end Wf
/-! M7: least tables. Plain Lean. -/
namespace Wf
open Wp
def tT (f : Nat → Nat → Bool) (h n : Nat) : List (List Bool) := (List.range h).map fun i => (List.range n).map (f i)
structure TR (f : Nat → Nat → Bool) (h : Nat) : Prop where
  pos : 1 ≤ h
  same : ∀ i, h - 1 ≤ i → ∀ j, f i j = f (h - 1) j
  tight : h = 1 ∨ ∃ j, f (h - 2) j ≠ f (h - 1) j
theorem TR.le {f : Nat → Nat → Bool} {h h' : Nat} (a : TR f h) (b : TR f h') : h' ≤ h := by
  by_cases q : h' ≤ h
  · exact q
  · exfalso
    have := a.pos
    rcases b.tight with e | ⟨j, e⟩
    · omega
    · apply e
      rw [a.same (h' - 2) (by omega) j, a.same (h' - 1) (by omega) j]
theorem TR.uniq {f : Nat → Nat → Bool} {h h' : Nat} (a : TR f h) (b : TR f h') : h = h' := Nat.le_antisymm (b.le a) (a.le b)
theorem tT_len (f : Nat → Nat → Bool) (h n : Nat) : (tT f h n).length = h := by simp [tT]
theorem tT_mem {f : Nat → Nat → Bool} {h n : Nat} {r : List Bool} (m : r ∈ tT f h n) : r.length = n := by
  unfold tT at m
  obtain ⟨i, _, rfl⟩ := List.mem_map.mp m
  simp
theorem tT_succ (f : Nat → Nat → Bool) (h n : Nat) : tT f (h + 1) n = tT f h n ++ [(List.range n).map (f h)] := by
  unfold tT; rw [List.range_succ, List.map_append]; rfl
theorem row_eq {f : Nat → Nat → Bool} {i i' n : Nat} : (List.range n).map (f i) = (List.range n).map (f i') ↔ ∀ j, j < n → f i j = f i' j := by
  rw [List.map_inj_left]
  exact ⟨fun h j hj => h j (List.mem_range.mpr hj), fun h j hj => h j (List.mem_range.mp hj)⟩
theorem wcL_app (l : List (List Bool)) (a : List Bool) : wcL (l ++ [a]) = if l.getLast? = some a then wcL l else l ++ [a] := by
  unfold wcL
  rw [List.reverse_append, List.reverse_cons, List.reverse_nil, List.nil_append]
  rcases List.eq_nil_or_concat l with rfl | ⟨l', b, rfl⟩
  · simp [wcS]
  · rw [List.concat_eq_append, List.reverse_append]
    show (wcS (a :: b :: l'.reverse)).reverse = _
    rw [wcS]
    by_cases h : a = b
    · subst h; rw [if_pos rfl, if_pos (by simp)]; simp
    · rw [if_neg h, if_neg (by simpa using Ne.symm h)]; simp
theorem wc_tT (f : Nat → Nat → Bool) (n : Nat) : ∀ h, 1 ≤ h → ∃ k, 1 ≤ k ∧ k ≤ h ∧ wcL (tT f h n) = tT f k n ∧ (∀ i, k - 1 ≤ i → i < h → ∀ j, j < n → f i j = f (k - 1) j) ∧ (k = 1 ∨ ∃ j, j < n ∧ f (k - 2) j ≠ f (k - 1) j)
  | 0, h => absurd h (by omega)
  | 1, _ => ⟨1, by omega, by omega, by simp [tT, wcL, wcS], fun i h1 h2 j _ => by rw [show i = 0 by omega], .inl rfl⟩
  | h + 2, _ => by
    obtain ⟨k, k1, k2, k3, k4, k5⟩ := wc_tT f n (h + 1) (by omega)
    rw [tT_succ, wcL_app]
    have hl : (tT f (h + 1) n).getLast? = some ((List.range n).map (f h)) := by rw [tT_succ]; simp
    rw [hl]
    by_cases e : (List.range n).map (f h) = (List.range n).map (f (h + 1))
    · rw [if_pos (by rw [e]), k3]
      have e' := row_eq.mp e
      refine ⟨k, k1, by omega, rfl, fun i h1 h2 j hj => ?_, k5⟩
      by_cases q : i = h + 1
      · subst q; rw [← e' j hj]; exact k4 h (by omega) (by omega) j hj
      · exact k4 i h1 (by omega) j hj
    · rw [if_neg (fun z => e (Option.some.inj z))]
      refine ⟨h + 2, by omega, by omega, by rw [← tT_succ], fun i h1 h2 j hj => by rw [show i = h + 2 - 1 by omega], .inr ?_⟩
      have : ¬ ∀ j, j < n → f h j = f (h + 1) j := fun z => e (row_eq.mpr z)
      obtain ⟨j, hj⟩ := Classical.not_forall.mp this
      obtain ⟨hj1, hj2⟩ := Classical.not_imp.mp hj
      exact ⟨j, hj1, hj2⟩
/-- what is the same from hb on, and from nb on -/
structure St (f : Nat → Nat → Bool) (hb nb : Nat) : Prop where
  h : ∀ i, hb ≤ i → ∀ j, f i j = f hb j
  n : ∀ j, nb ≤ j → ∀ i, f i j = f i nb
theorem wc_St {f : Nat → Nat → Bool} {hb nb h n : Nat} (s : St f hb nb) (hh : hb < h) (hn : nb < n) : ∃ k, TR f k ∧ k ≤ h ∧ wcL (tT f h n) = tT f k n := by
  obtain ⟨k, k1, k2, k3, k4, k5⟩ := wc_tT f n h (by omega)
  have key : ∀ i, k - 1 ≤ i → ∀ j, j < n → f i j = f (k - 1) j := fun i hi j hj => by
    by_cases q : i < h
    · exact k4 i hi q j hj
    · rw [s.h i (by omega) j, ← s.h (h - 1) (by omega) j]
      exact k4 (h - 1) (by omega) (by omega) j hj
  refine ⟨k, ⟨k1, fun i hi j => ?_, ?_⟩, k2, k3⟩
  · by_cases q : j < n
    · exact key i hi j q
    · rw [s.n j (by omega) i, s.n j (by omega) (k - 1)]
      exact key i hi nb hn
  · rcases k5 with e | ⟨j, _, e⟩
    · exact .inl e
    · exact .inr ⟨j, e⟩
theorem cols_tT (f : Nat → Nat → Bool) {h : Nat} (hh : 1 ≤ h) (n : Nat) : colsL (tT f h n) = tT (fun j i => f i j) n h := by
  have hd : ((tT f h n).headD []).length = n := by
    obtain ⟨k, rfl⟩ : ∃ k, h = k + 1 := ⟨h - 1, by omega⟩
    unfold tT
    rw [List.range_succ_eq_map]
    simp
  unfold colsL
  rw [hd]
  unfold tT
  apply List.map_congr_left
  intro j hj
  rw [List.map_map]
  apply List.map_congr_left
  intro i _
  have := List.mem_range.mp hj
  simp [List.getD_eq_getElem?_getD, this]
theorem St.flip {f : Nat → Nat → Bool} {hb nb : Nat} (s : St f hb nb) : St (fun j i => f i j) nb hb := ⟨s.n, s.h⟩
theorem TR.st {f : Nat → Nat → Bool} {hb nb k : Nat} (s : St f hb nb) (t : TR f k) : St f (k - 1) nb := ⟨t.same, s.n⟩
theorem least_tT {f : Nat → Nat → Bool} {hb nb h n : Nat} (s : St f hb nb) (hh : hb < h) (hn : nb < n) : ∃ k m, TR f k ∧ TR (fun j i => f i j) m ∧ leastT (tT f h n) = tT f k m := by
  obtain ⟨k, t1, k2, k3⟩ := wc_St s hh hn
  have p1 := t1.pos
  obtain ⟨m, t2, m2, m3⟩ := wc_St (h := n) (n := k) (t1.st s).flip hn (by omega)
  refine ⟨k, m, t1, t2, ?_⟩
  unfold leastT
  rw [k3, cols_tT f p1, m3, cols_tT _ t2.pos]
theorem least_any {f : Nat → Nat → Bool} {hb nb h n h' n' : Nat} (s : St f hb nb) (hh : hb < h) (hn : nb < n) (hh' : hb < h') (hn' : nb < n') : leastT (tT f h n) = leastT (tT f h' n') := by
  obtain ⟨k, m, t1, t2, e⟩ := least_tT s hh hn
  obtain ⟨k', m', t1', t2', e'⟩ := least_tT s hh' hn'
  rw [e, e', t1.uniq t1', t2.uniq t2']
/-! the law's way -/
theorem lastEq_row (g : Nat → Bool) (n : Nat) : lastEq ((List.range (n + 2)).map g) = (g (n + 1) == g n) := by
  unfold lastEq
  simp [List.getD_eq_getElem?_getD]
theorem dropLast_tT (f : Nat → Nat → Bool) (h n : Nat) : (tT f h (n + 1)).map List.dropLast = tT f h n := by
  unfold tT
  rw [List.map_map]
  apply List.map_congr_left
  intro i _
  show ((List.range (n + 1)).map (f i)).dropLast = _
  rw [List.range_succ, List.map_append]
  simp
theorem dc_tT (f : Nat → Nat → Bool) (h : Nat) : ∀ n, 1 ≤ n → ∃ k, 1 ≤ k ∧ k ≤ n ∧ dcN n (tT f h n) = tT f h k ∧ (∀ j, k - 1 ≤ j → j < n → ∀ i, i < h → f i j = f i (k - 1)) ∧ (k = 1 ∨ ∃ i, i < h ∧ f i (k - 2) ≠ f i (k - 1))
  | 0, h => absurd h (by omega)
  | 1, _ => ⟨1, by omega, by omega, by rw [dcN, if_neg (by omega)], fun j h1 h2 i _ => by rw [show j = 0 by omega], .inl rfl⟩
  | n + 2, _ => by
    obtain ⟨k, k1, k2, k3, k4, k5⟩ := dc_tT f h (n + 1) (by omega)
    have hall : (tT f h (n + 2)).all lastEq = true ↔ ∀ i, i < h → f i (n + 1) = f i n := by
      unfold tT
      rw [List.all_map, List.all_eq_true]
      constructor
      · intro z i hi
        have := z i (List.mem_range.mpr hi)
        simp only [Function.comp] at this
        rw [lastEq_row] at this
        simpa using this
      · intro z i hi
        simp only [Function.comp]
        rw [lastEq_row]
        simpa using z i (List.mem_range.mp hi)
    rw [dcN]
    by_cases e : ∀ i, i < h → f i (n + 1) = f i n
    · rw [if_pos ⟨by omega, hall.mpr e⟩, dropLast_tT, k3]
      refine ⟨k, k1, by omega, rfl, fun j h1 h2 i hi => ?_, k5⟩
      by_cases q : j = n + 1
      · subst q; rw [e i hi]; exact k4 n (by omega) (by omega) i hi
      · exact k4 j h1 (by omega) i hi
    · rw [if_neg (fun z => e (hall.mp z.2))]
      refine ⟨n + 2, by omega, by omega, rfl, fun j h1 h2 i hi => by rw [show j = n + 2 - 1 by omega], .inr ?_⟩
      obtain ⟨i, hi⟩ := Classical.not_forall.mp e
      obtain ⟨hi1, hi2⟩ := Classical.not_imp.mp hi
      exact ⟨i, hi1, fun z => hi2 z.symm⟩
theorem law_least {f : Nat → Nat → Bool} {hb nb h n : Nat} (s : St f hb nb) (hh : hb < h) (hn : nb < n) : dcN n (wcL (tT f h n)) = leastT (tT f h n) := by
  obtain ⟨k, m, t1, t2, e⟩ := least_tT s hh hn
  obtain ⟨k', t1', k2, k3⟩ := wc_St s hh hn
  rw [e, k3, ← t1.uniq t1']
  have p1 := t1.pos
  obtain ⟨m', m1, m2, m3, m4, m5⟩ := dc_tT f k n (by omega)
  rw [m3]
  have key : ∀ j, m' - 1 ≤ j → ∀ i, i < k → f i j = f i (m' - 1) := fun j hj i hi => by
    by_cases q : j < n
    · exact m4 j hj q i hi
    · rw [s.n j (by omega) i, ← s.n (n - 1) (by omega) i]
      exact m4 (n - 1) (by omega) (by omega) i hi
  have t3 : TR (fun j i => f i j) m' := ⟨m1, fun j hj i => by
    show f i j = f i (m' - 1)
    by_cases q : i < k
    · exact key j hj i q
    · rw [t1.same i (by omega) j, t1.same i (by omega) (m' - 1)]
      exact key j hj (k - 1) (by omega), by
    rcases m5 with e | ⟨i, _, e⟩
    · exact .inl e
    · exact .inr ⟨i, e⟩⟩
  rw [t2.uniq t3]
theorem in_tT {f : Nat → Nat → Bool} {hb nb h n : Nat} (s : St f hb nb) (hh : hb < h) (hn : nb < n) {p q : Int} (hp : 3 ≤ p) (hq : 3 ≤ q) : inT (leastT (tT f h n)) p q = f (p - 3).toNat (q - 3).toNat := by
  obtain ⟨k, m, t1, t2, e⟩ := least_tT s hh hn
  have p1 := t1.pos
  have p2 := t2.pos
  rw [e]
  have hi : ∃ i, i < k ∧ (min (p - 3) ((k : Int) - 1)).toNat = i ∧ ∀ j, f i j = f (p - 3).toNat j := by
    by_cases c : p - 3 ≤ (k : Int) - 1
    · exact ⟨(p - 3).toNat, by omega, by omega, fun j => rfl⟩
    · exact ⟨k - 1, by omega, by omega, fun j => (t1.same _ (by omega) j).symm⟩
  have hj : ∃ j, j < m ∧ (min (q - 3) ((m : Int) - 1)).toNat = j ∧ ∀ i, f i j = f i (q - 3).toNat := by
    by_cases c : q - 3 ≤ (m : Int) - 1
    · exact ⟨(q - 3).toNat, by omega, by omega, fun j => rfl⟩
    · exact ⟨m - 1, by omega, by omega, fun i => (t2.same _ (by omega) i).symm⟩
  obtain ⟨i, hi1, hi2, hi3⟩ := hi
  obtain ⟨j, hj1, hj2, hj3⟩ := hj
  have hrow : rowAt (tT f k m) p = (List.range m).map (f i) := by
    unfold rowAt
    rw [tT_len, hi2]
    unfold tT
    simp [List.getD_eq_getElem?_getD, hi1]
  unfold inT
  rw [if_neg (by omega), hrow, List.length_map, List.length_range, hj2, ← hi3, ← hj3]
  simp [List.getD_eq_getElem?_getD, hj1]
theorem in_low {rs : List (List Bool)} {p q : Int} (h : p < 3 ∨ q < 3) : inT rs p q = false := by unfold inT; rw [if_pos h]
/-- the tables are tables of what is due -/
noncomputable def dF (k : Nat) (n : Nm) : Nat → Nat → Bool := fun i j => dueB k n (i + 3) (j + 3)
theorem iota_map {α : Type} (n : Nat) (g : Int → α) : (iota 3 n).map g = (List.range n).map fun (i : Nat) => g (3 + (i : Int)) := by unfold iota; rw [List.map_map]; rfl
theorem tab_tT (k : Nat) (n : Nm) (P Q : Nat) : tab k n P Q = tT (dF k n) (P - 2) (Q - 2) := by
  unfold tab tT
  rw [iota_map]
  apply List.map_congr_left
  intro i _
  unfold rowP
  rw [iota_map]
  apply List.map_congr_left
  intro j _
  unfold dF
  rw [show (3 + (i : Int)).toNat = i + 3 by omega, show (3 + (j : Int)).toNat = j + 3 by omega]
theorem st_due (k : Nat) {ts : List Int} (h : ts ≠ []) (hl : ts.length ≤ 9) (ht : tot ts ≤ 12) : St (dF k (numL ts)) (ts.length - 2) (tot ts - 1) :=
  ⟨fun i hi j => due_x h (by omega) k (by omega) (by omega) _, fun j hj i => due_y h (by omega) (by omega) k (by omega) (by omega) _⟩
theorem dF_eq (k : Nat) {x y : Nm} (h : ∀ p q, dueB k x p q = dueB k y p q) : dF k x = dF k y := by
  funext i j; exact h _ _
end Wf
/-! L7: the law's pool: a list that changes while expressions are evaluated. -/
namespace Wf
open PySem PySem.Spec PyProof.Rows L2 Wp
def PlAt (H : Hp) (p : Addr) : Prop := ∃ (c n : Int) (b : Bool), H p = some (.lst [.int c, .int n, .bl b])
def EvQ (p : Addr) (te : TE) (σ : L2.St) (Hh : Hp) (q : V → Hp → Prop) : Prop := ∀ H1, Ex Hh (hd H1 p) → PlAt H1 p → ∀ Q : VK, (∀ v H2, Ex (hd H1 p) (hd H2 p) → PlAt H2 p → q v (hd H2 p) → Q v H2) → te σ H1 Q
def EvQA (p : Addr) (ta : TA) (σ : L2.St) (Hh : Hp) (ms : List MP) : Prop := ∀ H1, Ex Hh (hd H1 p) → PlAt H1 p → ∀ Q : List V → Hp → Prop, (∀ vs H2, Ex (hd H1 p) (hd H2 p) → PlAt H2 p → Paired (fun v (m : MP) => m.P v (hd H2 p)) vs ms → Q vs H2) → ta σ H1 Q
def EvQT (p : Addr) (tt : TT) (σ : L2.St) (Hh : Hp) (R : Bool → Prop) : Prop := ∀ H1, Ex Hh (hd H1 p) → PlAt H1 p → ∀ Q : Bool → Hp → Prop, (∀ b H2, Ex (hd H1 p) (hd H2 p) → PlAt H2 p → R b → Q b H2) → tt σ H1 Q
/-- some a with Pr -/
def mOf {α : Type} (r : Rep α) (Pr : α → Prop) : MP := ⟨fun v H => ∃ a, r.R H v a ∧ Pr a, fun e ⟨a, h1, h2⟩ => ⟨a, r.mono e h1, h2⟩⟩
def mRef (p : Addr) : MP := ⟨fun v _ => v = .ref p, fun _ h => h⟩
def spQ (R : List MP → MP → Prop) : Sp := fun vs H Q _ => ∃ p rest ms m, vs = V.ref p :: rest ∧ PlAt H p ∧ Paired (fun v (m : MP) => m.P v (hd H p)) rest ms ∧ R ms m ∧ ∀ v H', Ex (hd H p) (hd H' p) → PlAt H' p → m.P v (hd H' p) → Q v H'
section
variable {p : Addr} {X : Cx} {σ : L2.St} {Hh H : Hp} {q q' : V → Hp → Prop} {e a b : Expr} {es : List Expr} {pos pp : Pos} {te : TE} {m : MP} {ms : List MP}
theorem EvP.toQ (h : EvP (wE X e) σ Hh q) : EvQ p (wE X e) σ Hh q := fun H1 e1 ⟨c, n, b, hp⟩ Q k =>
  wE.frame hp trivial (h (hd H1 p) e1 _ fun v H' e' hv hn => k v _ (by rw [hd_upd hn]; exact e') ⟨c, n, b, upd_same⟩ (by rw [hd_upd hn]; exact hv))
theorem EvT.toQ {c : Bool} (h : EvT (wT X e) σ Hh c) : EvQT p (wT X e) σ Hh (fun b => b = c) := fun H1 e1 ⟨c', n, b, hp⟩ Q k =>
  wT.frame hp trivial (h (hd H1 p) e1 _ fun H' e' hn => k c _ (by rw [hd_upd hn]; exact e') ⟨c', n, b, upd_same⟩ rfl)
theorem EvQ.imp (h : EvQ p te σ Hh q) (m : ∀ v H', q v H' → q' v H') : EvQ p te σ Hh q' := fun H1 e1 hp Q k => h H1 e1 hp Q fun v H2 e2 h2 hv => k v H2 e2 h2 (m _ _ hv)
theorem EvQ.mono (h : EvQ p te σ Hh q) (e : Ex Hh H) : EvQ p te σ H q := fun H1 e1 hp Q k => h H1 (e.trans e1) hp Q k
theorem qa_nil : EvQA p (wA X []) σ Hh [] := fun H1 e1 hp Q k => wA.of pa_nil (k [] H1 ex_refl hp .nil)
theorem qa_cons (h : EvQ p (wE X e) σ Hh m.P) (ht : EvQA p (wA X es) σ Hh ms) (hs : starEach (e :: es) X.env = (false, eval e X.env) :: starEach es X.env := by rfl) : EvQA p (wA X (e :: es)) σ Hh (m :: ms) := fun H1 e1 hp Q k =>
  wA.of (pa_cons pE pA hs) (h H1 e1 hp _ fun v H2 e2 hp2 hv => ht H2 (e1.trans e2) hp2 _ fun vs H3 e3 hp3 hvs => k _ H3 (e2.trans e3) hp3 (.cons (m.mono e3 hv) hvs))
/-- ints -/
theorem q_op {op : Operator} {C : Int → Int → Prop} {g : Int → Int → Int} {Pa Pb Pr : Int → Prop} (ho : OpR X (binaryOp op) (L2.rI C fun i j => .int (g i j))) (ha : EvQ p (wE X a) σ Hh (mOf kI Pa).P) (hb : EvQ p (wE X b) σ Hh (mOf kI Pb).P) (hc : ∀ i j, Pa i → Pb j → C i j ∧ Pr (g i j)) :
    EvQ p (wE X (.BinOp a op b pos)) σ Hh (mOf kI Pr).P := fun H1 e1 hp Q k =>
  wE.of (pe_op ho pE pE) (ha H1 e1 hp _ fun v H2 e2 hp2 ⟨i, hv, hi⟩ => hb H2 (e1.trans e2) hp2 _ fun u H3 e3 hp3 ⟨j, hu, hj⟩ => ⟨i, j, hv, hu, (hc i j hi hj).1, k _ H3 (e2.trans e3) hp3 ⟨_, rfl, (hc i j hi hj).2⟩⟩)
theorem q_add {Pa Pb Pr : Int → Prop} (ha : EvQ p (wE X a) σ Hh (mOf kI Pa).P) (hb : EvQ p (wE X b) σ Hh (mOf kI Pb).P) (hc : ∀ i j, Pa i → Pb j → Pr (i + j)) : EvQ p (wE X (.BinOp a .Add b pos)) σ Hh (mOf kI Pr).P := fun H1 e1 hp Q k =>
  wE.of (pe_op op_add pE pE) (ha H1 e1 hp _ fun v H2 e2 hp2 ⟨i, hv, hi⟩ => hb H2 (e1.trans e2) hp2 _ fun u H3 e3 hp3 ⟨j, hu, hj⟩ => ⟨i, j, hv, hu, k _ H3 (e2.trans e3) hp3 ⟨_, rfl, hc i j hi hj⟩⟩)
theorem q_sub {Pa Pb Pr : Int → Prop} (ha : EvQ p (wE X a) σ Hh (mOf kI Pa).P) (hb : EvQ p (wE X b) σ Hh (mOf kI Pb).P) (hc : ∀ i j, Pa i → Pb j → Pr (i - j)) : EvQ p (wE X (.BinOp a .Sub b pos)) σ Hh (mOf kI Pr).P := fun H1 e1 hp Q k =>
  wE.of (pe_op op_sub pE pE) (ha H1 e1 hp _ fun v H2 e2 hp2 ⟨i, hv, hi⟩ => hb H2 (e1.trans e2) hp2 _ fun u H3 e3 hp3 ⟨j, hu, hj⟩ => ⟨i, j, hv, hu, k _ H3 (e2.trans e3) hp3 ⟨_, rfl, hc i j hi hj⟩⟩)
theorem EvP.qi {i : Int} {Pr : Int → Prop} (h : EvP (wE X e) σ Hh (kI.is i).P) (hi : Pr i) : EvQ p (wE X e) σ Hh (mOf kI Pr).P := EvP.toQ (h.imp fun v _ _ hv => ⟨i, hv, hi⟩)
theorem EvP.qm {α : Type} {r : Rep α} {i : α} {Pr : α → Prop} (h : EvP (wE X e) σ Hh (r.is i).P) (hi : Pr i) : EvQ p (wE X e) σ Hh (mOf r Pr).P := EvP.toQ (h.imp fun v _ _ hv => ⟨i, hv, hi⟩)
/-- e == n, e an int that draws -/
theorem qt_eq {Pa Pb : Int → Prop} (ha : EvQ p (wE X a) σ Hh (mOf kI Pa).P) (hb : EvQ p (wE X b) σ Hh (mOf kI Pb).P) : EvQT p (wT X (.Compare a [.Eq] [b] pos)) σ Hh fun _ => True := fun H1 e1 hp Q k =>
  wT.of (pt_cmpR op_eq pE pE (nomark _)) (ha H1 e1 hp _ fun v H2 e2 hp2 ⟨i, hv, hi⟩ => hb H2 (e1.trans e2) hp2 _ fun u H3 e3 hp3 ⟨j, hu, hj⟩ => by
    obtain rfl : v = .int i := hv
    obtain rfl : u = .int j := hu
    exact ⟨rfl, _, rfl, k _ H3 (e2.trans e3) hp3 trivial⟩)
theorem q_eq {Pa Pb : Int → Prop} (ha : EvQ p (wE X a) σ Hh (mOf kI Pa).P) (hb : EvQ p (wE X b) σ Hh (mOf kI Pb).P) : EvQ p (wE X (.Compare a [.Eq] [b] pos)) σ Hh (mOf kB fun _ => True).P := fun H1 e1 hp Q k =>
  wE.of (pe_cmpR op_eq pE pE (nomark _)) (ha H1 e1 hp _ fun v H2 e2 hp2 ⟨i, hv, hi⟩ => hb H2 (e1.trans e2) hp2 _ fun u H3 e3 hp3 ⟨j, hu, hj⟩ => by
    obtain rfl : v = .int i := hv
    obtain rfl : u = .int j := hu
    exact ⟨rfl, k _ H3 (e2.trans e3) hp3 ⟨_, rfl, trivial⟩⟩)
/-- [e, ..]: a new list -/
theorem q_list {es : List Expr} (h : EvQA p (wA X es) σ Hh ms) (hl : ms.length ≤ 1000) : EvQ p (wE X (.List es pos)) σ Hh fun v H' => ∃ l vs, v = .ref l ∧ H' l = some (.lst vs) ∧ Paired (fun v (m : MP) => m.P v H') vs ms := fun H1 e1 hp Q k =>
  wE.of (pe_lst pA) (h H1 e1 hp _ fun vs H2 e2 hp2 hvs => ⟨by rw [pd_len hvs]; exact Evl.sz_of (by omega), fun l hl => by
    obtain ⟨c, n, b, hpp⟩ := id hp2
    have hlp : l ≠ p := fun z => by rw [z, hpp] at hl; cases hl
    have e3 : Ex (hd H2 p) (hd (upd H2 l (.lst vs)) p) := hd_ex (ex_new hl) hpp
    exact k _ _ (e2.trans e3) ⟨c, n, b, by rw [upd_ne hlp.symm]; exact hpp⟩ ⟨l, vs, rfl, by rw [hd_ne hlp, upd_same], pd_mono hvs fun _ m z => m.mono e3 z⟩⟩)
/-- a call of a def that draws -/
theorem q_call {k : Nat} {x : Str} {ps : List Str} {R : List MP → MP → Prop} (C : Cal X.prog X.w X.K X.mg X.base k x ps (spQ R)) (hr : Room k X.A) (ha : EvQA p (wA X (e :: es)) σ Hh (mRef p :: ms)) (h : R ms m) (hg : Gl X x := by rfl) (hdb : (x == ("__debug__" : Str)) = false := by decide)
    (he : starEach (e :: es) X.env = (false, eval e X.env) :: starEach es X.env := by rfl) (hpl : (backTo pos (starEach es X.env)).any (·.1) = false := by rfl) : EvQ p (wE X (.Call (.Name x pp) (e :: es) [] pos)) σ Hh m.P := fun H1 e1 hp Q kk => by
  obtain ⟨f, fd, F, hm, kp, hb⟩ := C.ok
  refine wE.of (pe_call F hr hg hm kp hb .nil pass0 pA hdb he hpl) (ha H1 e1 hp _ fun vs H2 e2 hp2 hv => ?_)
  cases hv with
  | cons r1 hv =>
    rename_i v0 vs'
    obtain rfl : v0 = .ref p := r1
    exact ⟨p, vs', ms, m, by rw [List.append_nil], hp2, hv, h, fun v H' e3 hp3 hm => kk v H' (e2.trans e3) hp3 hm⟩
end
end Wf
/-! L8: statements that draw; the law's pool, take. -/
namespace Wf
open PySem PySem.Spec PyProof.Rows L2 Wp
section
variable {p : Addr} {X : Cx} {σ : L2.St} {Hh H : Hp} {D : Ends} {rest : List Stmt} {q : V → Hp → Prop} {e a b c : Expr} {es : List Expr} {pos pp : Pos} {m : MP} {ms : List MP} {t : TA}
/-- a call whose callee does not see the list at a -/
def tCallF (sp : Sp) (t : TA) : TE := fun σ H Q => t σ H fun vs H1 => ∃ a o, H1 a = some o ∧ Hid o ∧ sp vs (hd H1 a) (fun v H' => H' a = none → Q v (upd H' a o)) E0
theorem pe_callF {k : Nat} {x : Str} {f : Addr} {fd : FuncData} {ps : List Str} {sp : Sp} (F : FnOk X.prog X.w X.K X.mg X.base CX0 k f fd ps sp) (hr : Room k X.A) (hg : Gl X x) (hm : X.mg x = some (.ref f)) (hk : PySem.W.keepIn X.K (.ref f) = true) (hb : Binds X.K fd ps [])
    (ha : PA X (e :: es) t) (hdb : (x == ("__debug__" : Str)) = false) (he : starEach (e :: es) X.env = (false, eval e X.env) :: starEach es X.env) (hpl : (backTo pos (starEach es X.env)).any (·.1) = false) :
    PE X (.Call (.Name x pp) (e :: es) [] pos) (tCallF sp t) := by
  refine ⟨fun pins s σ H Q I h => ?_⟩
  refine wpAny_Call_Name_kw (ld_glob I hg hm ?_ hdb)
  refine PySem.W.callWith_K (h₀ := X.base) I.ok.mod.kin hk (thn (ha.run pos pins s σ H _ I h) fun us s1 ⟨vs, H1, I1, r, a, o, h1, p1, q⟩ => ⟨I1.kIn, ?_⟩) he hpl
  obtain ⟨ob, e1, nc, kk⟩ := hid_obj p1 (I1.hok a o h1)
  refine thn (run_fn (Q := fun v H' => H' a = none → Q v (upd H' a o)) F hr hb .nil pass0 (Inv.hide I1 h1 p1 e1 nc) r (by rw [List.append_nil]; exact q)) fun u s' ⟨v, H', J, r', q'⟩ => ⟨v, upd H' a o, Inv.unhide I1 h1 p1 J kk, r', q' (J.pin (a, ob) (by simp)).2.1⟩
/-- a call of a pure def, its arguments drawing -/
theorem q_callP {k : Nat} {x : Str} {ps : List Str} {R : List MP → MP → Prop} (C : Cal X.prog X.w X.K X.mg X.base k x ps (spM R)) (hr : Room k X.A) (ha : EvQA p (wA X (e :: es)) σ Hh ms) (h : ∀ (vs : List V) (H : Hp), Paired (fun v (m : MP) => m.P v H) vs ms → ∃ ms' m', Paired (fun v (m : MP) => m.P v H) vs ms' ∧ R ms' m' ∧ ∀ v H', m'.P v H' → m.P v H') (hg : Gl X x := by rfl) (hdb : (x == ("__debug__" : Str)) = false := by decide)
    (he : starEach (e :: es) X.env = (false, eval e X.env) :: starEach es X.env := by rfl) (hpl : (backTo pos (starEach es X.env)).any (·.1) = false := by rfl) : EvQ p (wE X (.Call (.Name x pp) (e :: es) [] pos)) σ Hh m.P := fun H1 e1 hp Q kk => by
  obtain ⟨f, fd, F, hm, kp, hb⟩ := C.ok
  refine wE.of (pe_callF F hr hg hm kp hb pA hdb he hpl) (ha H1 e1 hp _ fun vs H2 e2 hp2 hv => ?_)
  obtain ⟨c, n, b, hpp⟩ := id hp2
  obtain ⟨ms', m', h1, h2, h3⟩ := h vs _ hv
  exact ⟨p, _, hpp, trivial, ms', m', h1, h2, fun v H' e3 hm hn => kk v _ (by rw [hd_upd hn]; exact e2.trans e3) ⟨c, n, b, upd_same⟩ (by rw [hd_upd hn]; exact h3 v H' hm)⟩
theorem s_setQ {i : Nat} {y : Str} {p' : Pos} (hN : X.N.Nodup) (hpl : PlAt H p) (he : EvQ p (wE X e) σ (hd H p) q) (h : ∀ v H', Ex (hd H p) (hd H' p) → PlAt H' p → q v (hd H' p) → wS X rest D (σ.set i (some v)) H') (hi : X.N[i]? = some y := by rfl) (hx : Loc X.env.scope y := by first | exact Or.inl rfl | exact Or.inr rfl)
    (hs : swapsWith e (some (.Name y p')) pos.line X.env = pure false := by rfl) (hf : X.fn y = true ∨ X.env.scope.names.lookup y = some .local := by first | exact .inl rfl | exact .inr rfl) : wS X (.Assign [.Name y p'] e pos :: rest) D σ H :=
  s_setW hN (he H ex_refl hpl _ fun v H' e' h2 hv => h v H' e' h2 hv) hi hx hs hf
theorem s_retQ (hpl : PlAt H p) (he : EvQ p (wE X e) σ (hd H p) q) (h : ∀ v H', Ex (hd H p) (hd H' p) → PlAt H' p → q v (hd H' p) → D.rt v H') : wS X (.Return (some e) pos :: rest) D σ H :=
  s_ret' (he H ex_refl hpl _ h)
theorem s_whenQ {R : Bool → Prop} {body : List Stmt} (hpl : PlAt H p) (hc : EvQT p (wT X c) σ (hd H p) R) (h1 : R true → ∀ H', Ex (hd H p) (hd H' p) → PlAt H' p → wS X body { D with nx := wS X rest D } σ H') (h2 : R false → ∀ H', Ex (hd H p) (hd H' p) → PlAt H' p → wS X rest D σ H') : wS X (.If c body [] pos :: rest) D σ H :=
  wS.cons (ps_if pT pS pS) (hc H ex_refl hpl _ fun d H2 e2 hp2 hd => by
    cases d with
    | true => exact iteT (h1 hd H2 e2 hp2)
    | false => exact iteF (s_nil (h2 hd H2 e2 hp2)))
/-- xs[i] of a list as it stands -/
theorem e_ixV {l : Addr} {xs : List V} {i : Int} {x : V} (ha : EvP (wE X a) σ H fun v _ => v = .ref l) (hl : H l = some (.lst xs)) (hb : EvP (wE X b) σ H (kI.is i).P) (h : atI xs i = some x) (hs : PlainIx b := by exact fun _ _ => rfl) : EvP (wE X (.Subscript a b pos)) σ H fun v _ => v = x :=
  .of (pe_ix ix_list pE pE hs) fun H1 e1 Q k => ha H1 e1 _ fun v H2 e2 hv => hb H2 (e1.trans e2) _ fun u H3 e3 eu => ⟨l, xs, i, x, hv, eu, SqL.of (e3 _ _ (e2 _ _ (e1 _ _ hl))), h, k _ _ (e2.trans e3) rfl⟩
theorem e_fdivW {i j : Int} (ha : EvP (wE X a) σ H (kI.is i).P) (hb : EvP (wE X b) σ H (kI.is j).P) (hc : CDivW i j) : EvP (wE X (.BinOp a .FloorDiv b pos)) σ H (kI.is (i / j)).P := e_I op_fdivW ha hb hc
end
section
variable {P : Program} {w : World} {K : PySem.W.Frag} {mg : Str → Option Value} {base : Heap} {k : Nat} {x : Str} {N ps : List Str} {st : Stmt} {f : Addr} {fd : FuncData} {R : List MP → MP → Prop}
theorem Cal.pool (F : Fun K x x st f fd) (S : FnScope N ps (defScope st)) (hm : mg x = some (.ref f)) (hb : Binds K fd ps []) (hl : ∀ ms m, R ms m → ms.length + 1 = ps.length)
    (body : ∀ (cdv : Value) (A : Around) (outer : List Env) (s : Shared) (H : Hp) (p : Addr) (vs : List V) (E : XK) (ms : List MP) (m : MP), Room k (A.deeper (envOfC x (defScope st) s.heap.objs.size f cdv)) → PlAt H p → Paired (fun v (m : MP) => m.P v (hd H p)) vs ms → R ms m →
      wS (cxOf CX0 P w K mg base N x (defScope st) f cdv A outer s H E).nox (defBody st) { nx := fun _ _ => False, rt := fun v H' => Ex (hd H p) (hd H' p) ∧ PlAt H' p ∧ m.P v (hd H' p) } (start N (.ref p :: vs)) H) : Cal P w K mg base (k + 1) x ps (spQ R) :=
  .mk' F S hm hb (fun vs H Q E ⟨p, rest, ms, m, h0, _, h1, h2, _⟩ => by rw [h0, List.length_cons, pd_len h1]; exact hl ms m h2) fun cdv A outer s H vs Q E hr ⟨p, rest, ms, m, h0, hp, h1, h2, h3⟩ => by
    subst h0
    exact (body cdv A outer s H p rest E ms m hr hp h1 h2).mono (fun σ' H' q => q.elim) (fun v H' ⟨a, b, c⟩ => h3 v H' a b c) (fun _ _ q => q) fun _ _ q => q
end
def spPool : Sp := fun vs H Q _ => ∃ c : Int, vs = [V.int c] ∧ ∀ p H', Ex H (hd H' p) → H p = none → PlAt H' p → Q (.ref p) H'
def mI (lo hi : Int) : MP := mOf kI fun r => lo ≤ r ∧ r < hi
def RTake : List MP → MP → Prop := fun ms m => ∃ lim : Int, ms = [kI.is lim] ∧ 0 < lim ∧ lim < 10 ^ 50 ∧ m = mI 0 lim
abbrev N51 : List Str := ["_law_pool_here", "_law_limit", "_law_drawn", "_law_mixed"]
theorem sc50 : FnScope ["_law_cell_here"] ["_law_cell_here"] (defScope (top 50)) := ⟨rfl, rfl, rfl, by decide +kernel, rfl, by decide +kernel, by decide +kernel⟩
theorem sc51 : FnScope N51 ["_law_pool_here", "_law_limit"] (defScope (top 51)) := ⟨rfl, rfl, rfl, by decide +kernel, rfl, by decide +kernel, by decide +kernel⟩
section
variable {P : Program} {w : World} {K : PySem.W.Frag} {mg : Str → Option Value} {base : Heap} {f : Addr} {fd : FuncData}
theorem ok_lpool (F : Fun K "_law_pool" "_law_pool" (top 50) f fd) (hm : mg "_law_pool" = some (.ref f)) (hb : Binds K fd ["_law_cell_here"] []) : Cal P w K mg base 1 "_law_pool" ["_law_cell_here"] spPool := by
  refine Cal.mk' F sc50 hm hb (fun vs H Q E ⟨_, h, _⟩ => by rw [h]; rfl) (fun cdv A outer s H vs Q E hr hsp => ?_)
  obtain ⟨c, rfl, hQ⟩ := hsp
  refine s_ret' (wE.of (pe_lst pA) (EvA.use (a_cons (vI 0) (a_cons (m := kI.is 0) e_int (a_cons (e_ge (i := c) (j := 10 ^ 18) (vI 0) (e_pow e_int e_int (by refine ⟨?_, ?_, ?_⟩ <;> decide))) a_nil))) fun vs H2 e2 hvs => ⟨by rw [pd_len hvs]; exact Evl.sz_of (by simp), fun p hp => ?_⟩))
  obtain ⟨x, y, z, rfl, rfl, rfl, hz⟩ := pd3 hvs
  obtain rfl : z = .bl _ := hz
  exact hQ p _ (by rw [hd_upd hp]; exact e2) (Evl.fresh_back e2 hp) ⟨c, 0, _, upd_same⟩
theorem ok_ltake (F : Fun K "_law_take" "_law_take" (top 51) f fd) (T : Txt K mg) (hm : mg "_law_take" = some (.ref f)) (hb : Binds K fd ["_law_pool_here", "_law_limit"] []) : Cal P w K mg base 1 "_law_take" ["_law_pool_here", "_law_limit"] (spQ RTake) := by
  refine Cal.pool F sc51 hm hb (fun ms m ⟨_, h, _⟩ => by rw [h]; rfl) (fun cdv A outer s H p vs E ms m hr hp hv hR => ?_)
  obtain ⟨lim, rfl, hl0, hl1, rfl⟩ := hR
  obtain ⟨v, rfl, hv0⟩ := pd1 hv
  obtain rfl : v = .int lim := hv0
  obtain ⟨c, n, b, hpp⟩ := hp
  have up : ∀ {H1 : Hp} {o : HO}, Ex (hd H p) (hd H1 p) → Ex (hd H p) (hd (upd H1 p o) p) := fun {H1 o} e => by
    have : hd (upd H1 p o) p = hd H1 p := by
      funext z
      by_cases hz : z = p
      · subst hz; rw [hd_same, hd_same]
      · rw [hd_ne hz, hd_ne hz, upd_ne hz]
    rw [this]; exact e
  -- pool[1] = pool[1] + 1
  refine s_setIx (p := p) (n := 1) (j := 1) (q := fun v _ => v = .int (n + 1)) hpp (e_add (EvP.imp (e_ixV (x := .int n) (e_nm (i := 0) rfl) hpp e_int rfl) fun v _ _ h => h) e_int) (e_nm (i := 0) rfl) e_int rfl (fun v H' H'' _ h => h) fun v1 H1 e1 hv1 => ?_
  subst hv1
  have E1 : Ex (hd H p) (hd (upd H1 p (.lst ([V.int c, V.int n, V.bl b].set 1 (.int (n + 1))))) p) := up (hd_ex e1 hpp)
  have hp1 : (upd H1 p (.lst ([V.int c, V.int n, V.bl b].set 1 (.int (n + 1))))) p = some (.lst [.int c, .int (n + 1), .bl b]) := upd_same
  generalize upd H1 p (.lst ([V.int c, V.int n, V.bl b].set 1 (.int (n + 1)))) = H2 at E1 hp1
  refine s_when (d := b) (t_val (EvP.imp (e_ixV (x := .bl b) (e_nm (i := 0) rfl) hp1 e_int rfl) fun v _ _ h => h)) (fun hbt H3 e3 => ?_) (fun hbt H3 e3 => ?_)
  · have hp3 := e3 _ _ hp1
    have E3 := E1.trans (hd_ex e3 hp1)
    refine s_set (i := 2) sc51.nd (e_mod (i := c) (e_toInt T.int (EvP.imp (e_ixV (x := .int c) (e_nm (i := 0) rfl) hp3 e_int rfl) fun v _ _ h => h)) (vI 1) hl0) (fun v2 H4 e4 q2 => ?_)
    obtain rfl : v2 = .int (c % lim) := q2
    have hp4 := e4 _ _ hp3
    have E4 := E3.trans (hd_ex e4 hp3)
    have hcd : CDivW c lim := wide_div (b := 200) hl0 (by omega) (by decide) (by decide)
    refine s_setIx (p := p) (n := 0) (j := 0) (q := fun v _ => v = .int (c / lim)) hp4 (e_fdivW (e_toInt T.int (EvP.imp (e_ixV (x := .int c) (e_nm (i := 0) rfl) hp4 e_int rfl) fun v _ _ h => h)) (vI 1) hcd) (e_nm (i := 0) rfl) e_int rfl (fun v H' H'' _ h => h) fun v5 H5 e5 hv5 => ?_
    subst hv5
    have E5 : Ex (hd H p) (hd (upd H5 p (.lst ([V.int c, V.int (n + 1), V.bl b].set 0 (.int (c / lim))))) p) := up (E4.trans (hd_ex e5 hp4))
    have hp5 : (upd H5 p (.lst ([V.int c, V.int (n + 1), V.bl b].set 0 (.int (c / lim))))) p = some (.lst [.int (c / lim), .int (n + 1), .bl b]) := upd_same
    generalize upd H5 p (.lst ([V.int c, V.int (n + 1), V.bl b].set 0 (.int (c / lim)))) = H6 at E5 hp5
    refine s_ret (vI 2) fun v' H7 e7 q7 => ⟨E5.trans (hd_ex e7 hp5), ⟨_, _, _, e7 _ _ hp5⟩, c % lim, q7, ?_⟩
    exact ⟨Int.emod_nonneg _ (by omega), Int.emod_lt_of_pos _ hl0⟩
  · have hp3 := e3 _ _ hp1
    have E3 := E1.trans (hd_ex e3 hp1)
    refine s_set (i := 3) sc51.nd (e_mod (i := c * 7919 + (n + 1) * 104729 + 13) (j := 2147483647) (e_toInt T.int (e_add (e_add (e_mul (EvP.imp (e_ixV (x := .int c) (e_nm (i := 0) rfl) hp3 e_int rfl) fun v _ _ h => h) e_int (.inr (by decide))) (e_mul (EvP.imp (e_ixV (x := .int (n + 1)) (e_nm (i := 0) rfl) hp3 e_int rfl) fun v _ _ h => h) e_int (.inr (by decide)))) e_int)) e_int (by decide)) (fun v2 H4 e4 q2 => ?_)
    generalize hM : (c * 7919 + (n + 1) * 104729 + 13) % 2147483647 = M at q2
    obtain rfl : v2 = .int M := q2
    have hM0 : 0 ≤ M ∧ M < 2147483647 := by omega
    have hp4 := e4 _ _ hp3
    have E4 := E3.trans (hd_ex e4 hp3)
    refine s_ret (e_mod (i := M ^ (5 : Int).toNat % 2147483647 / 17) (e_fdiv (e_toInt T.int (e_mod (e_pow (vI 3) e_int ⟨by decide, by decide, by omega⟩) e_int (by decide))) e_int ⟨by decide, by decide⟩) (vI 1) hl0) fun v' H7 e7 q7 => ⟨E4.trans (hd_ex e7 hp4), ⟨_, _, _, e7 _ _ hp4⟩, _, q7, ?_⟩
    exact ⟨Int.emod_nonneg _ (by omega), Int.emod_lt_of_pos _ hl0⟩
end
end Wf
/-! L9: the law's random walks. -/
namespace Wf
open PySem PySem.Spec PyProof.Rows L2 Wp
section
variable {β : Type} {p : Addr} {X : Cx} {σ : L2.St} {Hh H : Hp} {elt tg iter : Expr} {pos : Pos} {scope : Scope} {own : List (Str × Nat)} {wi : TI} {g : TG} {as : List Int} {r : Rep β}
theorem pl_ex {H H' : Hp} (h : PlAt H p) (e : Ex H H') : PlAt H' p := by obtain ⟨c, n, b, h⟩ := h; exact ⟨c, n, b, e _ _ h⟩
theorem pl_hd {H H' : Hp} (h : PlAt H p) (e : Ex H H') : Ex (hd H p) (hd H' p) := by obtain ⟨c, n, b, h⟩ := h; exact hd_ex e h
/-- [elt for tg in iter], the elements drawing -/
theorem q_lc (hc : X.calm = true) (hN : X.N.Nodup) (hi : PI X tg iter wi) (ok : BlkOk X.N X.env.scope scope own)
    (hgP : ∀ (s : Shared) (H : Hp) (C : Addr) (cl : List (Str × Addr)) (fp : List Addr), PG (X.blk s H scope (compEnvC scope cl C X.env) fp) tg g) (src : ∀ H1, Ex Hh H1 → SrcM wi σ H1 (fun _ => none) kI as) (Pr : β → Prop) (sl : V → L2.St) (hlen : as.length ≤ 1000000)
    (hg : ∀ x H' (Q : L2.St → Hp → Prop), Q (sl x) H' → g x (wipe σ (own.map (·.2))) H' Q) (hw : ∀ x, wipe (sl x) (own.map (·.2)) = wipe σ (own.map (·.2)))
    (he : ∀ x H', Ex Hh H' → ∀ (s : Shared) (H0 : Hp) (C : Addr) (cl : List (Str × Addr)) (fp : List Addr), EvQ p (wE (X.blk s H0 scope (compEnvC scope cl C X.env) fp) elt) (sl x) H' (mOf r Pr).P) (hs : ∀ x, foldedSetIterable iter X.env x = pure x := by intro _; rfl) :
    EvQ p (wE X (.ListComp elt [⟨tg, iter, [], 0⟩] scope pos)) σ Hh (mOf (kL r) fun bs => bs.length = as.length ∧ ∀ b ∈ bs, Pr b).P := fun H1 e1 hp Q k => by
  refine wE.of (pe_lc hc hN hi ok hgP (fun _ _ _ _ _ => pts_nil) pbE hs) (src H1 (e1.trans ex_hd) _ fun J H2 xs G e2 hxs hwk hG D hD => ?_)
  have hp2 := pl_ex hp e2
  have e12 := pl_hd hp e2
  refine lc_it hwk (fun i H' => ∃ Hd acc bs, H' = upd Hd D (.lst acc) ∧ Hd D = none ∧ Ex (hd H2 p) (hd Hd p) ∧ PlAt Hd p ∧ Paired (r.R (hd Hd p)) acc bs ∧ bs.length = i ∧ ∀ b ∈ bs, Pr b) ⟨H2, [], [], rfl, hD, ex_refl, hp2, .nil, rfl, by simp⟩ ?_ ?_ ?_
  · rintro i H' hi ⟨Hd, acc, bs, rfl, hn, he2, hp', hx⟩
    exact hG _ (fun b o z => by cases z)
  · rintro i x H' H'' hi ⟨Hd, acc, bs, rfl, hn, he2, hp', hx, hl, hP⟩ ⟨rfl, hy⟩
    refine hg x _ _ ⟨hw x, ?_⟩
    unfold tYes
    dsimp only
    rw [if_pos rfl]
    refine (frE (X := X) (scope := scope) (e := elt)) upd_same trivial ?_
    rw [hd_upd hn]
    refine ⟨fun s H0 C cl fp => he x (hd Hd p) (e1.trans (e12.trans he2)) s H0 C cl fp Hd ex_refl hp' _ fun v H4 e4 hp4 ⟨b, hb, hPb⟩ hn4 => ⟨acc, upd_same, by rw [pd_len hx, hl, sizeLine_eq]; omega, H4, acc ++ [v], bs ++ [b], upd_upd, hn4, he2.trans e4, hp4, pd_app (pd_mono hx fun _ _ z => r.mono e4 z) (.cons hb .nil), by simp [hl], fun c hc => ?_⟩⟩
    rcases List.mem_append.mp hc with hc | hc
    · exact hP c hc
    · have : c = b := by simpa using hc
      rw [this]; exact hPb
  · rintro H' ⟨Hd, acc, bs, rfl, hn, he2, hp', hx, hl, hP⟩
    have hDp : D ≠ p := fun z => by obtain ⟨c, n, b, h⟩ := hp'; rw [z, h] at hn; cases hn
    have e5 : Ex (hd Hd p) (hd (upd Hd D (.lst acc)) p) := pl_hd hp' (ex_new hn)
    exact k _ _ ((e12.trans he2).trans e5) (pl_ex hp' (ex_new hn)) ⟨bs, ⟨D, acc, rfl, by rw [hd_ne hDp, upd_same], pd_mono hx fun _ _ z => r.mono e5 z⟩, hl, hP⟩
end
def WalkP (n m : Nat) (ts : List Int) : Prop := ts ≠ [] ∧ ts.length ≤ n ∧ ∀ k ∈ ts, k.natAbs ≤ m
theorem tot_le {m : Nat} : ∀ {ts : List Int}, (∀ k ∈ ts, k.natAbs ≤ m) → tot ts ≤ ts.length * m
  | [], _ => by simp [tot]
  | k :: ts, h => by
    have := tot_le (ts := ts) (m := m) fun j hj => h j (by simp [hj])
    have := h k (by simp)
    rw [tot_cons, List.length_cons, Nat.succ_mul]; omega
def RRand : List MP → MP → Prop := fun ms m => ∃ (G most : Nat), ms = [mI 0 (G + 1), kI.is (most : Int)] ∧ G ≤ 10 ∧ most ≤ 5 ∧ m = mOf (kL kI) (WalkP (G + 1) most)
def LoopP (ts : List Int) : Prop := ts ≠ [] ∧ ts.length ≤ 7 ∧ tot ts ≤ 10
def TailP (ts : List Int) : Prop := ts ≠ [] ∧ ts.length ≤ 2 ∧ tot ts ≤ 2
instance (ts : List Int) : Decidable (LoopP ts) := inferInstanceAs (Decidable (_ ∧ _ ∧ _))
def RLoop : List MP → MP → Prop := fun ms m => ms = [] ∧ m = mOf (kL kI) LoopP
def RTail : List MP → MP → Prop := fun ms m => ms = [] ∧ m = mOf (kL kI) TailP
def RSize : List MP → MP → Prop := fun ms m => ms = [] ∧ m = mOf kI fun r => 3 ≤ r
abbrev N66 : List Str := ["_law_pool_here", "_law_goes", "_law_most", "_law_k"]
theorem sc66 : FnScope N66 ["_law_pool_here", "_law_goes", "_law_most"] (defScope (top 66)) := ⟨rfl, rfl, rfl, by decide +kernel, rfl, by decide +kernel, by decide +kernel⟩
abbrev N70 : List Str := ["_law_pool_here", "_law_which", "_law_path"]
theorem sc70 : FnScope N70 ["_law_pool_here"] (defScope (top 70)) := ⟨rfl, rfl, rfl, by decide +kernel, rfl, by decide +kernel, by decide +kernel⟩
theorem sc71 : FnScope ["_law_pool_here", "_law_which"] ["_law_pool_here"] (defScope (top 71)) := ⟨rfl, rfl, rfl, by decide +kernel, rfl, by decide +kernel, by decide +kernel⟩
theorem sc77 : FnScope ["_law_pool_here", "_law_which"] ["_law_pool_here"] (defScope (top 77)) := ⟨rfl, rfl, rfl, by decide +kernel, rfl, by decide +kernel, by decide +kernel⟩
abbrev CTake (P : Program) (w : World) (K : PySem.W.Frag) (mg : Str → Option Value) (base : Heap) := Cal P w K mg base 1 "_law_take" ["_law_pool_here", "_law_limit"] (spQ RTake)
abbrev CRand (P : Program) (w : World) (K : PySem.W.Frag) (mg : Str → Option Value) (base : Heap) := Cal P w K mg base 2 "_law_random" ["_law_pool_here", "_law_goes", "_law_most"] (spQ RRand)
section
variable {p : Addr} {X : Cx} {σ : L2.St} {Hh : Hp} {e : Expr} {x : Str} {pos pp p1 : Pos}
/-- _law_take(pool, e) -/
theorem q_take {lim : Int} {i : Nat} (C : CTake X.prog X.w X.K X.mg X.base) (hr : Room 1 X.A) (hp : σ[i]? = some (some (.ref p))) (he : EvP (wE X e) σ Hh (kI.is lim).P) (h0 : 0 < lim) (h1 : lim < 10 ^ 50) (hg : Gl X "_law_take" := by rfl) (hN : X.N[i]? = some x := by rfl) (hv : Vis X.env.scope x := by first | exact Or.inl rfl | exact Or.inr (Or.inl rfl) | exact Or.inr (Or.inr rfl))
    (hd : (x == ("__debug__" : Str)) = false := by decide) (hcd : (x == ("__classdict__" : Str)) = false := by decide)
    (s1 : starEach [.Name x p1, e] X.env = (false, eval (.Name x p1) X.env) :: starEach [e] X.env := by rfl) (s2 : starEach [e] X.env = (false, eval e X.env) :: starEach [] X.env := by rfl) (hpl : (backTo pos (starEach [e] X.env)).any (·.1) = false := by rfl) :
    EvQ p (wE X (.Call (.Name "_law_take" pp) [.Name x p1, e] [] pos)) σ Hh (mI 0 lim).P :=
  q_call C hr (qa_cons (m := mRef p) (EvP.toQ (e_nm hp hN hv hd hcd)) (qa_cons (EvP.toQ he) qa_nil s2) s1) ⟨lim, rfl, h0, h1, rfl⟩ hg (by decide) s1 hpl
theorem q_name {i : Nat} (hp : σ[i]? = some (some (.ref p))) (hN : X.N[i]? = some x := by rfl) (hv : Vis X.env.scope x := by first | exact Or.inl rfl | exact Or.inr (Or.inl rfl) | exact Or.inr (Or.inr rfl)) (hd : (x == ("__debug__" : Str)) = false := by decide) (hcd : (x == ("__classdict__" : Str)) = false := by decide) : EvQ p (wE X (.Name x pp)) σ Hh (mRef p).P := EvP.toQ (e_nm hp hN hv hd hcd)
/-- [e], e an int that draws -/
theorem q_list1 {Pi : Int → Prop} {Pr : List Int → Prop} (h : EvQ p (wE X e) σ Hh (mOf kI Pi).P) (hP : ∀ i, Pi i → Pr [i]) (s : starEach [e] X.env = (false, eval e X.env) :: starEach [] X.env := by rfl) : EvQ p (wE X (.List [e] pos)) σ Hh (mOf (kL kI) Pr).P :=
  (q_list (qa_cons h qa_nil s) (by simp)).imp fun v H' ⟨l, vs, h1, h2, h3⟩ => by
    obtain ⟨u, rfl, i, hi, hi2⟩ := pd1 h3
    exact ⟨[i], ⟨l, [u], h1, h2, .cons hi .nil⟩, hP i hi2⟩
end
section
variable {P : Program} {w : World} {K : PySem.W.Frag} {mg : Str → Option Value} {base : Heap} {f : Addr} {fd : FuncData}
theorem ok_lrand (F : Fun K "_law_random" "_law_random" (top 66) f fd) (T : Txt K mg) (hm : mg "_law_random" = some (.ref f)) (hb : Binds K fd ["_law_pool_here", "_law_goes", "_law_most"] []) (Ct : CTake P w K mg base) : CRand P w K mg base := by
  refine Cal.pool F sc66 hm hb (fun ms m ⟨_, _, h, _⟩ => by rw [h]; rfl) (fun cdv A outer s H p vs E ms m hr hp hv hR => ?_)
  obtain ⟨G, most, rfl, hG, hmo, rfl⟩ := hR
  obtain ⟨vg, vm, rfl, ⟨g, hg0, hg⟩, hvm⟩ := pd2 hv
  obtain rfl : vg = .int g := hg0
  obtain rfl : vm = .int (most : Int) := hvm
  refine s_retQ hp (q_lc (own := [("_law_k", 3)]) (r := kI) (as := iota 0 (g + 1).toNat) rfl sc66.nd (pi_range1 (by rfl) T.range pA) (blkOk_by (N := N66) (sc := defScope (top 66)) (by decide +kernel)) (fun _ _ _ _ _ => pg_name (i := 3) sc66.nd rfl (.inl rfl))
    (fun H1 e1 => src_r1 (n := g + 1) (a_cons (e_add (vI 1) e_int) a_nil) (by omega) (by omega)) (fun k : Int => k.natAbs ≤ most) (fun z => [some (.ref p), some (.int g), some (.int (most : Int)), some z]) (by rw [iota_len]; omega) (fun x H' Q q => q) (fun _ => rfl)
    (fun x H' e1 s H0 C cl fp => q_sub (Pa := fun r => 0 ≤ r ∧ r < 2 * (most : Int) + 1) (Pb := fun r => r = most) (q_take (i := 0) Ct hr rfl (e_add (e_mul e_int (vI 2) (.inl (by decide))) e_int) (by omega) (by omega)) (EvP.qi (vI 2) rfl) (fun i j hi hj => by omega))) fun v H' e' hp' ⟨bs, h1, h2, h3⟩ => ⟨e', hp', bs, h1, ?_, ?_, h3⟩
  · intro z; rw [z, iota_len] at h2; simp at h2; omega
  · rw [h2, iota_len]; omega
end
end Wf
/-! L10: the law's loops, tails, sizes. -/
namespace Wf
open PySem PySem.Spec PyProof.Rows L2 Wp
theorem LoopP.of {ts : List Int} {n m : Nat} (h : WalkP n m ts) (hn : n ≤ 7) (hm : n * m ≤ 10) : LoopP ts := ⟨h.1, Nat.le_trans h.2.1 hn, Nat.le_trans (tot_le h.2.2) (Nat.le_trans (Nat.mul_le_mul_right m h.2.1) hm)⟩
section
variable {P : Program} {w : World} {K : PySem.W.Frag} {mg : Str → Option Value} {base : Heap} {f : Addr} {fd : FuncData}
section
variable {p : Addr} {X : Cx} {σ : L2.St} {Hh : Hp} {e : Expr} {es : List Expr} {x : Str} {pos pp p1 : Pos}
/-- _law_copies(ts, n), n drawing -/
theorem q_cop {a : Expr} {ts : List Int} {Pi : Int → Prop} (C : CLCop X.prog X.w X.K X.mg X.base) (hr : Room 2 X.A) (ha : EvP (wE X a) σ Hh ((kL kI).is ts).P) (he : EvQ p (wE X e) σ Hh (mOf kI Pi).P) (h0 : ts ≠ []) (h5 : ts.length ≤ 5) (hP : ∀ i, Pi i → 0 ≤ i ∧ i ≤ 10 ∧ LoopP (copL ts i.toNat)) (hg : Gl X "_law_copies" := by rfl)
    (s1 : starEach [a, e] X.env = (false, eval a X.env) :: starEach [e] X.env := by rfl) (s2 : starEach [e] X.env = (false, eval e X.env) :: starEach [] X.env := by rfl) (hpl : (backTo pos (starEach [e] X.env)).any (·.1) = false := by rfl) :
    EvQ p (wE X (.Call (.Name "_law_copies" pp) [a, e] [] pos)) σ Hh (mOf (kL kI) LoopP).P :=
  q_callP C hr (qa_cons (EvP.toQ ha) (qa_cons he qa_nil s2) s1) (fun vs H hv => by
    obtain ⟨u, v, rfl, h1, i, hi, hPi⟩ := pd2 hv
    obtain ⟨h2, h3, h4⟩ := hP i hPi
    exact ⟨[(kL kI).is ts, kI.is i], (kL kI).is (copL ts i.toNat), .cons h1 (.cons hi .nil), ⟨ts, i, rfl, h0, h5, h2, h3, rfl⟩, fun v H' hv => ⟨_, hv, h4⟩⟩) hg (by decide) s1 hpl
end
theorem cop_ok : (∀ i, 3 ≤ i ∧ i < 7 → LoopP (copL [1, 0] i)) ∧ (∀ i, 1 ≤ i ∧ i < 4 → LoopP (copL [1, -1, 0] i)) ∧ (∀ i, 3 ≤ i ∧ i < 6 → LoopP (copL [-1, 0] i)) ∧ (∀ i, 3 ≤ i ∧ i < 5 → LoopP (copL [2, 0] i)) := by
  refine ⟨fun i hi => ?_, fun i hi => ?_, fun i hi => ?_, fun i hi => ?_⟩
  · have : i = 3 ∨ i = 4 ∨ i = 5 ∨ i = 6 := by omega
    rcases this with rfl | rfl | rfl | rfl <;> decide
  · have : i = 1 ∨ i = 2 ∨ i = 3 := by omega
    rcases this with rfl | rfl | rfl <;> decide
  · have : i = 3 ∨ i = 4 ∨ i = 5 := by omega
    rcases this with rfl | rfl | rfl <;> decide
  · have : i = 3 ∨ i = 4 := by omega
    rcases this with rfl | rfl <;> decide
theorem ok_lloop (F : Fun K "_law_loop" "_law_loop" (top 70) f fd) (hm : mg "_law_loop" = some (.ref f)) (hb : Binds K fd ["_law_pool_here"] []) (Ct : CTake P w K mg base) (Cr : CRand P w K mg base) (Cc : CLCop P w K mg base) (Cj : CLJoin P w K mg base) (Cb : CLBack P w K mg base) : Cal P w K mg base 3 "_law_loop" ["_law_pool_here"] (spQ RLoop) := by
  refine Cal.pool F sc70 hm hb (fun ms m ⟨h, _⟩ => by rw [h]; rfl) (fun cdv A outer s H p vs E ms m hr hp hv hR => ?_)
  obtain ⟨rfl, rfl⟩ := hR
  cases hv
  refine s_setQ (i := 1) sc70.nd hp (q_take (i := 0) Ct (hr.mono (by decide)) rfl e_int (by decide) (by decide)) (fun v H1 e1 hp1 ⟨wh, hv, _⟩ => ?_)
  obtain rfl : v = .int wh := hv
  have L : ∀ {Hh : Hp} {l : List Int}, True := fun {_ _} => trivial
  refine s_whenQ hp1 (EvT.toQ (t_eqI (vI 1) e_int)) (fun _ H2 e2 hp2 => ?_) (fun _ H2 e2 hp2 => ?_)
  · refine s_retQ hp2 (q_cop (Pi := fun i => 3 ≤ i ∧ i < 7) Cc hr (EvN.evp (n_lst (r := kI) (as := [1, 0]) (a_cons e_int (a_cons e_int a_nil)) (by decide))) (q_add (Pa := fun i => i = 3) (EvP.qi e_int rfl) (q_take (i := 0) Ct (hr.mono (by decide)) rfl e_int (by decide) (by decide)) (fun i j hi hj => by omega)) (by decide) (by decide) (fun i hi => ⟨by omega, by omega, cop_ok.1 _ (by omega)⟩)) fun v H' e' hp' hq => ⟨(e1.trans e2).trans e', hp', hq⟩
  have e12 := e1.trans e2
  refine s_whenQ hp2 (EvT.toQ (t_eqI (vI 1) e_int)) (fun _ H3 e3 hp3 => ?_) (fun _ H3 e3 hp3 => ?_)
  · refine s_retQ hp3 (q_list1 (Pi := fun i => 3 ≤ i ∧ i ≤ 10) (q_add (Pa := fun i => i = 3) (EvP.qi e_int rfl) (q_take (i := 0) Ct (hr.mono (by decide)) rfl e_int (by decide) (by decide)) (fun i j hi hj => by omega)) (fun i hi => (⟨by simp, by simp, by simp [tot]; omega⟩ : LoopP [i]))) fun v H' e' hp' hq => ⟨(e12.trans e3).trans e', hp', hq⟩
  have e13 := e12.trans e3
  refine s_whenQ hp3 (EvT.toQ (t_eqI (vI 1) e_int)) (fun _ H4 e4 hp4 => ?_) (fun _ H4 e4 hp4 => ?_)
  · refine s_retQ hp4 (q_cop (Pi := fun i => 1 ≤ i ∧ i < 4) Cc hr (EvN.evp (n_lst (r := kI) (as := [1, -1, 0]) (a_cons e_int (a_cons (e_neg e_int) (a_cons e_int a_nil))) (by decide))) (q_add (Pa := fun i => i = 1) (EvP.qi e_int rfl) (q_take (i := 0) Ct (hr.mono (by decide)) rfl e_int (by decide) (by decide)) (fun i j hi hj => by omega)) (by decide) (by decide) (fun i hi => ⟨by omega, by omega, cop_ok.2.1 _ (by omega)⟩)) fun v H' e' hp' hq => ⟨(e13.trans e4).trans e', hp', hq⟩
  have e14 := e13.trans e4
  refine s_whenQ hp4 (EvT.toQ (t_eqI (vI 1) e_int)) (fun _ H5 e5 hp5 => ?_) (fun _ H5 e5 hp5 => ?_)
  · refine s_retQ hp5 (q_cop (Pi := fun i => 3 ≤ i ∧ i < 6) Cc hr (EvN.evp (n_lst (r := kI) (as := [-1, 0]) (a_cons (e_neg e_int) (a_cons e_int a_nil)) (by decide))) (q_add (Pa := fun i => i = 3) (EvP.qi e_int rfl) (q_take (i := 0) Ct (hr.mono (by decide)) rfl e_int (by decide) (by decide)) (fun i j hi hj => by omega)) (by decide) (by decide) (fun i hi => ⟨by omega, by omega, cop_ok.2.2.1 _ (by omega)⟩)) fun v H' e' hp' hq => ⟨(e14.trans e5).trans e', hp', hq⟩
  have e15 := e14.trans e5
  refine s_whenQ hp5 (EvT.toQ (t_eqI (vI 1) e_int)) (fun _ H6 e6 hp6 => ?_) (fun _ H6 e6 hp6 => ?_)
  · refine s_retQ hp6 (q_cop (Pi := fun i => 3 ≤ i ∧ i < 5) Cc hr (EvN.evp (n_lst (r := kI) (as := [2, 0]) (a_cons e_int (a_cons e_int a_nil)) (by decide))) (q_add (Pa := fun i => i = 3) (EvP.qi e_int rfl) (q_take (i := 0) Ct (hr.mono (by decide)) rfl e_int (by decide) (by decide)) (fun i j hi hj => by omega)) (by decide) (by decide) (fun i hi => ⟨by omega, by omega, cop_ok.2.2.2 _ (by omega)⟩)) fun v H' e' hp' hq => ⟨(e15.trans e6).trans e', hp', hq⟩
  have e16 := e15.trans e6
  refine s_whenQ hp6 (EvT.toQ (t_eqI (vI 1) e_int)) (fun _ H7 e7 hp7 => ?_) (fun _ H7 e7 hp7 => ?_)
  · refine s_setQ (i := 2) sc70.nd hp7 (q_call Cr hr (qa_cons (m := mRef p) (q_name (i := 0) rfl) (qa_cons (m := mI 0 2) (EvP.qi e_int (by decide)) (qa_cons (m := kI.is 1) (EvP.toQ e_int) qa_nil))) ⟨1, 1, rfl, by decide, by decide, rfl⟩) (fun v H8 e8 hp8 ⟨ts, hts, hw⟩ => ?_)
    have hlen := hw.2.1
    have htot := tot_le hw.2.2
    have hcl : (copL [1, 0] 3).length = 4 := by decide
    have hct : tot (copL [1, 0] 3) = 3 := by decide
    have l1 := joinL_len (u := ts) (v := copL [1, 0] 3) hw.1 (copL_ne _ _)
    have l2 := joinL_len (u := joinL ts (copL [1, 0] 3)) (v := backL ts) joinL_ne (backL_ne hw.1)
    have t1 := tot_join ts (copL [1, 0] 3)
    have t2 := tot_join (joinL ts (copL [1, 0] 3)) (backL ts)
    rw [tot_back] at t2
    rw [backL_len] at l2
    refine s_retQ hp8 (EvP.qm (r := kL kI) (i := joinL (joinL ts (copL [1, 0] 3)) (backL ts)) (Pr := LoopP) (e_call Cj (hr.mono (by decide)) (a_cons (e_call Cj (hr.mono (by decide)) (a_cons (vX (r := kL kI) 2 hts) (a_cons (e_call Cc hr (a_cons (EvN.evp (n_lst (r := kI) (as := [1, 0]) (a_cons e_int (a_cons e_int a_nil)) (by decide))) (a_cons (m := kI.is 3) e_int a_nil)) ⟨[1, 0], 3, rfl, by decide, by decide, by decide, by decide, rfl⟩) a_nil)) ⟨ts, copL [1, 0] 3, rfl, hw.1, copL_ne _ _, by omega, rfl⟩) (a_cons (e_call Cb (hr.mono (by decide)) (a_cons (vX (r := kL kI) 2 hts) a_nil) ⟨ts, rfl, by omega, rfl⟩) a_nil)) ⟨_, _, rfl, joinL_ne, backL_ne hw.1, by rw [backL_len]; omega, rfl⟩) ⟨joinL_ne, by omega, by omega⟩) fun v H' e' hp' hq => ⟨((e16.trans e7).trans e8).trans e', hp', hq⟩
  refine s_retQ hp7 ((q_call (m := mOf (kL kI) (WalkP 5 2)) Cr hr (qa_cons (m := mRef p) (q_name (i := 0) rfl) (qa_cons (m := mI 0 5) (q_take (i := 0) Ct (hr.mono (by decide)) rfl e_int (by decide) (by decide)) (qa_cons (m := kI.is 2) (EvP.toQ e_int) qa_nil))) ⟨4, 2, rfl, by decide, by decide, rfl⟩).imp (q' := (mOf (kL kI) LoopP).P) fun v H' ⟨ts, h1, h2⟩ => ⟨ts, h1, LoopP.of h2 (by decide) (by decide)⟩) fun v H' e' hp' hq => ⟨(e16.trans e7).trans e', hp', hq⟩
theorem ok_ltail (F : Fun K "_law_tail" "_law_tail" (top 71) f fd) (hm : mg "_law_tail" = some (.ref f)) (hb : Binds K fd ["_law_pool_here"] []) (Ct : CTake P w K mg base) : Cal P w K mg base 2 "_law_tail" ["_law_pool_here"] (spQ RTail) := by
  refine Cal.pool F sc71 hm hb (fun ms m ⟨h, _⟩ => by rw [h]; rfl) (fun cdv A outer s H p vs E ms m hr hp hv hR => ?_)
  obtain ⟨rfl, rfl⟩ := hR
  cases hv
  refine s_setQ (i := 1) sc71.nd hp (q_take (i := 0) Ct hr rfl e_int (by decide) (by decide)) (fun v H1 e1 hp1 ⟨wh, hv, _⟩ => ?_)
  obtain rfl : v = .int wh := hv
  refine s_whenQ hp1 (EvT.toQ (t_eqI (vI 1) e_int)) (fun _ H2 e2 hp2 => ?_) (fun _ H2 e2 hp2 => ?_)
  · refine s_retQ hp2 (q_list1 (Pi := fun i => -2 ≤ i ∧ i ≤ 2) (q_sub (Pb := fun i => i = 2) (q_take (i := 0) Ct hr rfl e_int (by decide) (by decide)) (EvP.qi e_int rfl) (fun i j hi hj => by omega)) (fun i hi => (⟨by simp, by simp, by simp [tot]; omega⟩ : TailP [i]))) fun v H' e' hp' hq => ⟨(e1.trans e2).trans e', hp', hq⟩
  have e12 := e1.trans e2
  refine s_whenQ hp2 (EvT.toQ (t_eqI (vI 1) e_int)) (fun _ H3 e3 hp3 => ?_) (fun _ H3 e3 hp3 => ?_)
  · exact s_retQ hp3 (EvP.qm (r := kL kI) (i := [0, 0]) (Pr := TailP) (EvN.evp (n_lst (a_cons e_int (a_cons e_int a_nil)) (by decide))) ⟨by decide, by decide, by decide⟩) fun v H' e' hp' hq => ⟨(e12.trans e3).trans e', hp', hq⟩
  have e13 := e12.trans e3
  refine s_whenQ hp3 (EvT.toQ (t_eqI (vI 1) e_int)) (fun _ H4 e4 hp4 => ?_) (fun _ H4 e4 hp4 => ?_)
  · exact s_retQ hp4 (EvP.qm (r := kL kI) (i := [1, 0]) (Pr := TailP) (EvN.evp (n_lst (a_cons e_int (a_cons e_int a_nil)) (by decide))) ⟨by decide, by decide, by decide⟩) fun v H' e' hp' hq => ⟨(e13.trans e4).trans e', hp', hq⟩
  exact s_retQ hp4 (EvP.qm (r := kL kI) (i := [0]) (Pr := TailP) (EvN.evp (n_lst (a_cons e_int a_nil) (by decide))) ⟨by decide, by decide, by decide⟩) fun v H' e' hp' hq => ⟨(e13.trans e4).trans e', hp', hq⟩
theorem ok_lsize (F : Fun K "_law_size" "_law_size" (top 77) f fd) (hm : mg "_law_size" = some (.ref f)) (hb : Binds K fd ["_law_pool_here"] []) (Ct : CTake P w K mg base) : Cal P w K mg base 2 "_law_size" ["_law_pool_here"] (spQ RSize) := by
  refine Cal.pool F sc77 hm hb (fun ms m ⟨h, _⟩ => by rw [h]; rfl) (fun cdv A outer s H p vs E ms m hr hp hv hR => ?_)
  obtain ⟨rfl, rfl⟩ := hR
  cases hv
  refine s_setQ (i := 1) sc77.nd hp (q_take (i := 0) Ct hr rfl e_int (by decide) (by decide)) (fun v H1 e1 hp1 ⟨wh, hv, _⟩ => ?_)
  obtain rfl : v = .int wh := hv
  refine s_whenQ hp1 (EvT.toQ (t_eqI (vI 1) e_int)) (fun _ H2 e2 hp2 => ?_) (fun _ H2 e2 hp2 => ?_)
  · exact s_retQ hp2 (q_add (Pa := fun i => i = 3) (EvP.qi e_int rfl) (q_take (i := 0) (lim := 10 ^ 40) Ct hr rfl (e_pow e_int e_int (by refine ⟨?_, ?_, ?_⟩ <;> decide)) (by decide) (by decide)) (fun i j hi hj => by omega)) fun v H' e' hp' hq => ⟨(e1.trans e2).trans e', hp', hq⟩
  · exact s_retQ hp2 (q_add (Pa := fun i => i = 3) (EvP.qi e_int rfl) (q_take (i := 0) Ct hr rfl e_int (by decide) (by decide)) (fun i j hi hj => by omega)) fun v H' e' hp' hq => ⟨(e1.trans e2).trans e', hp', hq⟩
end
end Wf
/-! L11: the law's pairs. -/
namespace Wf
open PySem PySem.Spec PyProof.Rows L2 Wp
structure PairP (u v : List Int) : Prop where
  hu : u ≠ []
  hv : v ≠ []
  lu : u.length ≤ 20
  lv : v.length ≤ 20
  tt : tot u + tot v ≤ 50
  l9 : (rd u v).length ≤ 9
  t12 : tot (rd u v) ≤ 12
theorem rd_ne {u v : List Int} : rd u v ≠ [] := by unfold rd redL; simpa using redS_ne (ts := joinL (backL u) v) joinL_ne
theorem PairP.two {u v : List Int} (h : PairP u v) : Two u v := ⟨h.hu, h.hv, by have := h.lu; have := h.lv; omega, rd_ne, h.l9, h.t12⟩
theorem PairP.swap {u v : List Int} (h : PairP u v) : PairP v u :=
  ⟨h.hv, h.hu, h.lv, h.lu, by have := h.tt; omega, by rw [rd_swap h.hu h.hv, backL_len]; exact h.l9, by rw [rd_swap h.hu h.hv, tot_back]; exact h.t12⟩
theorem rd_bound {u v : List Int} (hu : u ≠ []) (hv : v ≠ []) : (rd u v).length ≤ u.length + v.length - 1 ∧ tot (rd u v) ≤ tot u + tot v := by
  unfold rd
  have h1 := redL_len (joinL (backL u) v)
  have h2 := tot_red (joinL (backL u) v)
  have h3 := joinL_len (backL_ne hu) hv
  have h4 := tot_join (backL u) v
  rw [backL_len] at h3
  rw [tot_back] at h4
  omega
theorem rd_join2 {u l t : List Int} (hu : u ≠ []) (hl : l ≠ []) (ht : t ≠ []) : rd u (joinL (joinL u l) t) = redL (joinL l t) := by
  have h1 := act_vs (backL_ne hu) vs0
  rw [rd_act hu joinL_ne, act_join joinL_ne ht h1, act_join hu hl h1, act_back' hu vs0, ← act_join hl ht vs0]
  unfold redL; rw [redS_act joinL_ne]
theorem pair_a {u v : List Int} (hu : WalkP 3 1 u) (hv : WalkP 4 1 v) : PairP u v := by
  have b := rd_bound hu.1 hv.1
  have t1 := tot_le hu.2.2
  have t2 := tot_le hv.2.2
  have l1 := hu.2.1
  have l2 := hv.2.1
  exact ⟨hu.1, hv.1, by omega, by omega, by omega, by omega, by omega⟩
theorem pair_b {u l t : List Int} (hu : WalkP 3 1 u) (hl : LoopP l) (ht : TailP t) : PairP u (joinL (joinL u l) t) := by
  have t1 := tot_le hu.2.2
  have l1 := hu.2.1
  have l2 := joinL_len hu.1 hl.1
  have l3 := joinL_len (u := joinL u l) joinL_ne ht.1
  have t2 := tot_join u l
  have t3 := tot_join (joinL u l) t
  have e := rd_join2 hu.1 hl.1 ht.1
  have r1 := redL_len (joinL l t)
  have r2 := tot_red (joinL l t)
  have r3 := joinL_len hl.1 ht.1
  have r4 := tot_join l t
  have a1 := hl.2.1
  have a2 := hl.2.2
  have a3 := ht.2.1
  have a4 := ht.2.2
  exact ⟨hu.1, joinL_ne, by omega, by omega, by omega, by rw [e]; omega, by rw [e]; omega⟩
def PlanP (ts : List Int) : Prop := ts ≠ [] ∧ ts.length ≤ 9 ∧ tot ts ≤ 12
theorem pair_c {u t : List Int} (hu : WalkP 3 2 u) (ht : PlanP t) : PairP u (joinL u t) := by
  have t1 := tot_le hu.2.2
  have l1 := hu.2.1
  have l2 := joinL_len hu.1 ht.1
  have t2 := tot_join u t
  have e := rd_join hu.1 ht.1
  have r1 := redL_len t
  have r2 := tot_red t
  have a1 := ht.2.1
  have a2 := ht.2.2
  exact ⟨hu.1, joinL_ne, by omega, by omega, by omega, by rw [e]; omega, by rw [e]; omega⟩
/-- [first, second] -/
def kPr : Rep (List Int × List Int) := ⟨fun H v a => ∃ l x y, v = .ref l ∧ H l = some (.lst [x, y]) ∧ (kL kI).R H x a.1 ∧ (kL kI).R H y a.2, fun e ⟨l, x, y, h1, h2, h3, h4⟩ => ⟨l, x, y, h1, e _ _ h2, (kL kI).mono e h3, (kL kI).mono e h4⟩⟩
/-- [kind, turns] -/
def kPlan : Rep (Nat × List Int) := ⟨fun H v a => ∃ l y, v = .ref l ∧ H l = some (.lst [.int (a.1 : Int), y]) ∧ (kL kI).R H y a.2, fun e ⟨l, y, h1, h2, h4⟩ => ⟨l, y, h1, e _ _ h2, (kL kI).mono e h4⟩⟩
/-- [kind, pair] -/
def kKP : Rep (Nat × List Int × List Int) := ⟨fun H v a => ∃ l y, v = .ref l ∧ H l = some (.lst [.int (a.1 : Int), y]) ∧ kPr.R H y a.2, fun e ⟨l, y, h1, h2, h4⟩ => ⟨l, y, h1, e _ _ h2, kPr.mono e h4⟩⟩
def PPr (a : List Int × List Int) : Prop := PairP a.1 a.2
def RPair : List MP → MP → Prop := fun ms m => ms = [] ∧ m = mOf kPr PPr
def RPlan : List MP → MP → Prop := fun ms m => ms = [] ∧ m = mOf kKP fun a => a.1 < 4 ∧ PPr a.2
def planL : List (Nat × List Int) := [(2, [1, 1, 1, 1, 1, 1, 1, 1, 1]), (3, [0, 12]), (3, [12, 0]), (2, [12, 0])] ++ [(3, [1, 1, 1, 1, 1, 1, 1, 1, 1]), (2, [9, 0]), (1, [0, 12]), (2, [0, 12])]
instance (ts : List Int) : Decidable (PlanP ts) := inferInstanceAs (Decidable (_ ∧ _ ∧ _))
theorem plan_ok : ∀ a ∈ planL, a.1 < 4 ∧ PlanP a.2 := by decide
theorem sc72 : FnScope ["_law_pool_here", "_law_first"] ["_law_pool_here"] (defScope (top 72)) := ⟨rfl, rfl, rfl, by decide +kernel, rfl, by decide +kernel, by decide +kernel⟩
abbrev N79 : List Str := ["_law_pool_here", "_law_plans", "_law_kind_here", "_law_turns", "_law_path", "_law_pair_here"]
theorem sc79 : FnScope N79 ["_law_pool_here"] (defScope (top 79)) := ⟨rfl, rfl, rfl, by decide +kernel, rfl, by decide +kernel, by decide +kernel⟩
section
variable {p : Addr} {X : Cx} {σ : L2.St} {Hh H : Hp} {D : Ends} {rest : List Stmt} {e a b : Expr} {es : List Expr} {x : Str} {pos pp p1 : Pos} {ms : List MP} {m1 m2 : MP}
theorem e_lstM {es : List Expr} (h : EvA (wA X es) σ H ms) (hl : ms.length ≤ 1000) : EvP (wE X (.List es pos)) σ H fun v H' => ∃ p vs, v = .ref p ∧ H' p = some (.lst vs) ∧ Paired (fun v (m : MP) => m.P v H') vs ms :=
  .of (pe_lst pA) fun H1 e1 Q k => h H1 e1 _ fun vs H2 e2 hvs => ⟨by rw [pd_len hvs]; exact Evl.sz_of (by omega), fun p hp => k _ _ (e2.trans (ex_new hp)) ⟨p, vs, rfl, upd_same, pd_mono hvs fun _ m z => m.mono (ex_new hp) z⟩⟩
theorem e_plan {k : Nat} {ts : List Int} (ha : EvP (wE X a) σ H (kI.is (k : Int)).P) (hb : EvP (wE X b) σ H ((kL kI).is ts).P) (s1 : starEach [a, b] X.env = (false, eval a X.env) :: starEach [b] X.env := by rfl) (s2 : starEach [b] X.env = (false, eval b X.env) :: starEach [] X.env := by rfl) : EvP (wE X (.List [a, b] pos)) σ H (kPlan.is (k, ts)).P :=
  (e_lstM (a_cons ha (a_cons hb a_nil s2) s1) (by simp)).imp fun v H' _ ⟨l, vs, h1, h2, h3⟩ => by
    obtain ⟨u, w, rfl, rfl, hw⟩ := pd2 h3
    exact ⟨l, w, h1, h2, hw⟩
theorem e_pr {u w : List Int} (ha : EvP (wE X a) σ H ((kL kI).is u).P) (hb : EvP (wE X b) σ H ((kL kI).is w).P) (s1 : starEach [a, b] X.env = (false, eval a X.env) :: starEach [b] X.env := by rfl) (s2 : starEach [b] X.env = (false, eval b X.env) :: starEach [] X.env := by rfl) : EvP (wE X (.List [a, b] pos)) σ H (kPr.is (u, w)).P :=
  (e_lstM (a_cons ha (a_cons hb a_nil s2) s1) (by simp)).imp fun v H' _ ⟨l, vs, h1, h2, h3⟩ => by
    obtain ⟨x, y, rfl, hx, hy⟩ := pd2 h3
    exact ⟨l, x, y, h1, h2, hx, hy⟩
theorem e_kp {k : Nat} {uw : List Int × List Int} (ha : EvP (wE X a) σ H (kI.is (k : Int)).P) (hb : EvP (wE X b) σ H (kPr.is uw).P) (s1 : starEach [a, b] X.env = (false, eval a X.env) :: starEach [b] X.env := by rfl) (s2 : starEach [b] X.env = (false, eval b X.env) :: starEach [] X.env := by rfl) : EvP (wE X (.List [a, b] pos)) σ H (kKP.is (k, uw)).P :=
  (e_lstM (a_cons ha (a_cons hb a_nil s2) s1) (by simp)).imp fun v H' _ ⟨l, vs, h1, h2, h3⟩ => by
    obtain ⟨u, w, rfl, rfl, hw⟩ := pd2 h3
    exact ⟨l, w, h1, h2, hw⟩
theorem e_rep9 (ha : EvP (wE X a) σ H ((kL kI).is [1]).P) (hb : EvP (wE X b) σ H (kI.is 9).P) : EvP (wE X (.BinOp a .Mult b pos)) σ H ((kL kI).is [1, 1, 1, 1, 1, 1, 1, 1, 1]).P :=
  .of (pe_op op_rep pE pE) fun H1 e1 Q k => ha H1 e1 _ fun v H2 e2 ⟨l, xs, hv, hx, hp⟩ => hb H2 (e1.trans e2) _ fun u H3 e3 hu => by
    obtain rfl := pd_int.mp hp
    exact ⟨l, 9, _, hv, hu, e3 _ _ hx, by decide, by decide, by decide, fun p hp' => k _ _ ((e2.trans e3).trans (ex_new hp')) ⟨p, _, rfl, upd_same, pd_int.mpr rfl⟩⟩
/-- xs[i], i drawing -/
theorem q_ixL {α : Type} {r : Rep α} {as : List α} {Pi : Int → Prop} {Pr : α → Prop} (ha : EvP (wE X a) σ Hh ((kL r).is as).P) (hb : EvQ p (wE X b) σ Hh (mOf kI Pi).P) (h : ∀ i, Pi i → ∃ a0, atI as i = some a0 ∧ Pr a0) (hs : PlainIx b := by exact fun _ _ => rfl) : EvQ p (wE X (.Subscript a b pos)) σ Hh (mOf r Pr).P := fun H1 e1 hp Q k =>
  wE.of (pe_ix ix_list pE pE hs) (EvP.toQ ha H1 e1 hp _ fun v H2 e2 hp2 hv => hb H2 (e1.trans e2) hp2 _ fun u H3 e3 hp3 ⟨i, hu, hi⟩ => by
    obtain ⟨a0, h1, h2⟩ := h i hi
    obtain ⟨l, xs, rfl, hx, hpd⟩ := (kL r).mono e3 hv
    obtain ⟨x, hx2, hr⟩ := at_map hpd h1
    exact ⟨l, xs, i, x, rfl, hu, SqL.of (ex_hd _ _ hx), hx2, k _ H3 (e2.trans e3) hp3 ⟨a0, hr, h2⟩⟩)
/-- x, y = e: a list of two -/
theorem s_unpQ2 {tgs : List Expr} {t : TGs} {kk : Nat} {tpos : Pos} {q : V → V → Hp → Prop} (hc : X.calm = true) (hpl : PlAt H p) (he : EvQ p (wE X e) σ (hd H p) fun v H' => ∃ y u w, v = .ref y ∧ H' y = some (.lst [u, w]) ∧ q u w H') (hg : PGs X tgs t)
    (h : ∀ u w H', Ex (hd H p) (hd H' p) → PlAt H' p → q u w (hd H' p) → t [u, w] σ H' (wS X rest D))
    (hn : (assignEach tgs X.env).length = 2 := by rfl) (hst : (assignEach tgs X.env).findIdx? (·.1) = none := by rfl) (hs : swapsWithSole [.Tuple tgs kk tpos] e pos.line X.env = pure false := by rfl) (hw : swappedStores [.Tuple tgs kk tpos] e X.env = pure none := by rfl)
    (h1 : (assignEach [.Tuple tgs kk tpos] X.env).map (·.2) = [assign (.Tuple tgs kk tpos) X.env] := by rfl) : wS X (.Assign [.Tuple tgs kk tpos] e pos :: rest) D σ H :=
  wS.cons (ps_asg pE (pg_unl hc hg hn hst) hs hw h1) (he H ex_refl hpl _ fun v H2 e2 hp2 ⟨y, u, w, hv, hy, hq⟩ => ⟨y, _, hv, SqL.of (ex_hd _ _ hy), rfl, h u w H2 e2 hp2 hq⟩)
theorem e_revPr {uw : List Int × List Int} {k : Nat} {p1 p2 p3 : Pos} (ha : EvP (wE X a) σ H (kPr.is uw).P) : EvP (wE X (.Subscript a (.Slice none none (some (.UnaryOp .USub (.Constant (.int 1) k p1) p2)) p3) pos)) σ H (kPr.is (uw.2, uw.1)).P :=
  .of (pe_revL pE) fun H1 e1 Q k => ha H1 e1 _ fun v H2 e2 ⟨l, x, y, hv, hl, hx, hy⟩ => ⟨l, _, hv, SqL.of hl, fun p hp => k _ _ (e2.trans (ex_new hp)) ⟨p, y, x, rfl, upd_same, (kL kI).mono (ex_new hp) hy, (kL kI).mono (ex_new hp) hx⟩⟩
end
section
variable {P : Program} {w : World} {K : PySem.W.Frag} {mg : Str → Option Value} {base : Heap} {f : Addr} {fd : FuncData}
theorem ok_lpair (F : Fun K "_law_pair" "_law_pair" (top 72) f fd) (hm : mg "_law_pair" = some (.ref f)) (hb : Binds K fd ["_law_pool_here"] []) (Ct : CTake P w K mg base) (Cr : CRand P w K mg base) (Cl : Cal P w K mg base 3 "_law_loop" ["_law_pool_here"] (spQ RLoop)) (Ca : Cal P w K mg base 2 "_law_tail" ["_law_pool_here"] (spQ RTail)) (Cj : CLJoin P w K mg base) :
    Cal P w K mg base 4 "_law_pair" ["_law_pool_here"] (spQ RPair) := by
  refine Cal.pool F sc72 hm hb (fun ms m ⟨h, _⟩ => by rw [h]; rfl) (fun cdv A outer s H p vs E ms m hr hp hv hR => ?_)
  obtain ⟨rfl, rfl⟩ := hR
  cases hv
  refine s_setQ (i := 1) sc72.nd hp (q_call (m := mOf (kL kI) (WalkP 3 1)) Cr (hr.mono (by decide)) (qa_cons (m := mRef p) (q_name (i := 0) rfl) (qa_cons (m := mI 0 3) (q_take (i := 0) Ct (hr.mono (by decide)) rfl e_int (by decide) (by decide)) (qa_cons (m := kI.is 1) (EvP.toQ e_int) qa_nil))) ⟨2, 1, rfl, by decide, by decide, rfl⟩) (fun v H1 e1 hp1 ⟨u, hq, hu⟩ => ?_)
  refine s_whenQ hp1 (qt_eq (Pb := fun _ => True) (q_take (i := 0) Ct (hr.mono (by decide)) rfl e_int (by decide) (by decide)) (EvP.qi e_int trivial)) (fun _ H2 e2 hp2 => ?_) (fun _ H2 e2 hp2 => ?_)
  · refine s_retQ hp2 ((q_list (qa_cons (m := (kL kI).is u) (EvP.toQ (vX (r := kL kI) 1 ((kL kI).mono e2 hq))) (qa_cons (q_call (m := mOf (kL kI) (WalkP 4 1)) Cr (hr.mono (by decide)) (qa_cons (m := mRef p) (q_name (i := 0) rfl) (qa_cons (m := mI 0 4) (q_take (i := 0) Ct (hr.mono (by decide)) rfl e_int (by decide) (by decide)) (qa_cons (m := kI.is 1) (EvP.toQ e_int) qa_nil))) ⟨3, 1, rfl, by decide, by decide, rfl⟩) qa_nil)) (by simp)).imp (q' := (mOf kPr PPr).P) fun v H' ⟨l, vs, h1, h2, h3⟩ => ?_) fun v H' e' hp' hq => ⟨(e1.trans e2).trans e', hp', hq⟩
    obtain ⟨x, y, rfl, hx, w', hy, hw'⟩ := pd2 h3
    exact ⟨(u, w'), ⟨l, x, y, h1, h2, hx, hy⟩, pair_a hu hw'⟩
  · have hul := hu.2.1
    refine s_retQ hp2 ((q_list (qa_cons (m := (kL kI).is u) (EvP.toQ (vX (r := kL kI) 1 ((kL kI).mono e2 hq))) (qa_cons (q_callP (m := mOf (kL kI) fun w' => ∃ l t, LoopP l ∧ TailP t ∧ w' = joinL (joinL u l) t) Cj (hr.mono (by decide)) (qa_cons (q_callP (m := mOf (kL kI) fun w' => ∃ l, LoopP l ∧ w' = joinL u l) Cj (hr.mono (by decide)) (qa_cons (m := (kL kI).is u) (EvP.toQ (vX (r := kL kI) 1 ((kL kI).mono e2 hq))) (qa_cons (q_call (m := mOf (kL kI) LoopP) Cl hr (qa_cons (m := mRef p) (q_name (i := 0) rfl) qa_nil) ⟨rfl, rfl⟩) qa_nil)) ?_)
      (qa_cons (q_call (m := mOf (kL kI) TailP) Ca (hr.mono (by decide)) (qa_cons (m := mRef p) (q_name (i := 0) rfl) qa_nil) ⟨rfl, rfl⟩) qa_nil)) ?_) qa_nil)) (by simp)).imp (q' := (mOf kPr PPr).P) fun v H' ⟨l, vs, h1, h2, h3⟩ => ?_) fun v H' e' hp' hq => ⟨(e1.trans e2).trans e', hp', hq⟩
    · intro vs H hvs
      obtain ⟨x, y, rfl, hx, l, hy, hl⟩ := pd2 hvs
      have := hl.2.1
      exact ⟨[(kL kI).is u, (kL kI).is l], (kL kI).is (joinL u l), .cons hx (.cons hy .nil), ⟨u, l, rfl, hu.1, hl.1, by omega, rfl⟩, fun v H' hv => ⟨_, hv, l, hl, rfl⟩⟩
    · intro vs H hvs
      obtain ⟨x, y, rfl, ⟨w', hx, l, hl, rfl⟩, t, hy, ht⟩ := pd2 hvs
      have l1 := joinL_len hu.1 hl.1
      have := hl.2.1
      have := ht.2.1
      exact ⟨[(kL kI).is (joinL u l), (kL kI).is t], (kL kI).is (joinL (joinL u l) t), .cons hx (.cons hy .nil), ⟨_, t, rfl, joinL_ne, ht.1, by omega, rfl⟩, fun v H' hv => ⟨_, hv, l, t, hl, ht, rfl⟩⟩
    · obtain ⟨x, y, rfl, hx, w', hy, l', t, hl, ht, rfl⟩ := pd2 h3
      exact ⟨(u, _), ⟨l, x, y, h1, h2, hx, hy⟩, pair_b hu hl ht⟩
theorem ok_lplan (F : Fun K "_law_planned" "_law_planned" (top 79) f fd) (hm : mg "_law_planned" = some (.ref f)) (hb : Binds K fd ["_law_pool_here"] []) (Ct : CTake P w K mg base) (Cr : CRand P w K mg base) (Cj : CLJoin P w K mg base) : Cal P w K mg base 3 "_law_planned" ["_law_pool_here"] (spQ RPlan) := by
  refine Cal.pool F sc79 hm hb (fun ms m ⟨h, _⟩ => by rw [h]; rfl) (fun cdv A outer s H p vs E ms m hr hp hv hR => ?_)
  obtain ⟨rfl, rfl⟩ := hR
  cases hv
  have E1 : ∀ {X : Cx} {σ : L2.St} {H : Hp} {p1 p2 p3 p4 p5 : Pos} {k : Nat}, True := fun {_ _ _ _ _ _ _ _ _} => trivial
  refine s_setQ (i := 1) sc79.nd hp (EvP.toQ (EvN.evp (n_lst (r := kPlan) (as := [(2, [1, 1, 1, 1, 1, 1, 1, 1, 1]), (3, [0, 12]), (3, [12, 0]), (2, [12, 0])])
    (a_cons (e_plan e_int (e_rep9 (EvN.evp (n_lst (r := kI) (as := [1]) (a_cons e_int a_nil) (by decide))) e_int)) (a_cons (e_plan e_int (EvN.evp (n_lst (r := kI) (as := [0, 12]) (a_cons e_int (a_cons e_int a_nil)) (by decide)))) (a_cons (e_plan e_int (EvN.evp (n_lst (r := kI) (as := [12, 0]) (a_cons e_int (a_cons e_int a_nil)) (by decide)))) (a_cons (e_plan e_int (EvN.evp (n_lst (r := kI) (as := [12, 0]) (a_cons e_int (a_cons e_int a_nil)) (by decide)))) a_nil)))) (by decide)))) (fun v1 H1 e1 hp1 q1 => ?_)
  refine s_setQ (i := 1) sc79.nd hp1 (EvP.toQ (EvN.evp (n_cat (r := kPlan) (as := [(2, [1, 1, 1, 1, 1, 1, 1, 1, 1]), (3, [0, 12]), (3, [12, 0]), (2, [12, 0])]) (bs := [(3, [1, 1, 1, 1, 1, 1, 1, 1, 1]), (2, [9, 0]), (1, [0, 12]), (2, [0, 12])]) (vX (r := kL kPlan) 1 q1) (EvN.evp (n_lst (r := kPlan)
    (a_cons (e_plan e_int (e_rep9 (EvN.evp (n_lst (r := kI) (as := [1]) (a_cons e_int a_nil) (by decide))) e_int)) (a_cons (e_plan e_int (EvN.evp (n_lst (r := kI) (as := [9, 0]) (a_cons e_int (a_cons e_int a_nil)) (by decide)))) (a_cons (e_plan e_int (EvN.evp (n_lst (r := kI) (as := [0, 12]) (a_cons e_int (a_cons e_int a_nil)) (by decide)))) (a_cons (e_plan e_int (EvN.evp (n_lst (r := kI) (as := [0, 12]) (a_cons e_int (a_cons e_int a_nil)) (by decide)))) a_nil)))) (by decide))) (by decide)))) (fun v2 H2 e2 hp2 q2 => ?_)
  have q2 : (kL kPlan).R (hd H2 p) v2 planL := q2
  refine s_unpQ2 (q := fun u w' H' => ∃ a : Nat × List Int, u = .int (a.1 : Int) ∧ (kL kI).R H' w' a.2 ∧ a.1 < 4 ∧ PlanP a.2) rfl hp2 ((q_ixL (Pr := fun a => a ∈ planL) (vX (r := kL kPlan) 1 q2) (q_take (i := 0) Ct (hr.mono (by decide)) rfl e_int (by decide) (by decide)) (fun i hi => ?_)).imp fun v H' ⟨a, ⟨l, y, h1, h2, h3⟩, ha⟩ => ⟨l, _, y, h1, h2, a, rfl, h3, plan_ok a ha⟩) (pgs2 (i := 2) (j := 3) sc79.nd) (fun u w' H3 e3 hp3 ⟨a, hu, hw, hk, ht⟩ => g2 ?_)
  · have : i < (planL.length : Int) := hi.2
    exact ⟨_, getD_at (d := (0, [])) hi.1 this, by
      rw [List.getD_eq_getElem?_getD, List.getElem?_eq_getElem (by omega)]; exact List.getElem_mem _⟩
  subst hu
  refine s_setQ (i := 4) sc79.nd hp3 (q_call (m := mOf (kL kI) (WalkP 3 2)) Cr hr (qa_cons (m := mRef p) (q_name (i := 0) rfl) (qa_cons (m := mI 0 3) (q_take (i := 0) Ct (hr.mono (by decide)) rfl e_int (by decide) (by decide)) (qa_cons (m := kI.is 2) (EvP.toQ e_int) qa_nil))) ⟨2, 2, rfl, by decide, by decide, rfl⟩) (fun v4 H4 e4 hp4 ⟨u, hq, hu⟩ => ?_)
  have hul := hu.2.1
  have htl := ht.2.1
  refine s_setQ (i := 5) sc79.nd hp4 (EvP.toQ (e_pr (vX (r := kL kI) 4 hq) (e_call Cj (hr.mono (by decide)) (a_cons (vX (r := kL kI) 4 hq) (a_cons (vX (r := kL kI) 3 ((kL kI).mono e4 hw)) a_nil)) ⟨u, a.2, rfl, hu.1, ht.1, by omega, rfl⟩))) (fun v5 H5 e5 hp5 q5 => ?_)
  have hpr := pair_c hu ht
  have e05 := (((e1.trans e2).trans e3).trans e4).trans e5
  refine s_whenQ hp5 (qt_eq (Pb := fun _ => True) (q_take (i := 0) Ct (hr.mono (by decide)) rfl e_int (by decide) (by decide)) (EvP.qi e_int trivial)) (fun _ H6 e6 hp6 => ?_) (fun _ H6 e6 hp6 => ?_)
  · refine s_setQ (i := 5) sc79.nd hp6 (EvP.toQ (e_revPr (vX (r := kPr) 5 (kPr.mono e6 q5)))) (fun v7 H7 e7 hp7 q7 => s_nil ?_)
    exact s_retQ hp7 (EvP.qm (r := kKP) (Pr := fun (b : Nat × List Int × List Int) => b.1 < 4 ∧ PPr b.2) (e_kp (k := a.1) (vI 2) (vX (r := kPr) 5 q7)) ⟨hk, hpr.swap⟩) fun v H' e' hp' hq => ⟨((e05.trans e6).trans e7).trans e', hp', hq⟩
  · exact s_retQ hp6 (EvP.qm (r := kKP) (Pr := fun (b : Nat × List Int × List Int) => b.1 < 4 ∧ PPr b.2) (e_kp (k := a.1) (vI 2) (vX (r := kPr) 5 (kPr.mono e6 q5))) ⟨hk, hpr⟩) fun v H' e' hp' hq => ⟨(e05.trans e6).trans e', hp', hq⟩
end
end Wf
/-! L12: behind; rules for the law's body. -/
namespace Wf
open PySem PySem.Spec PyProof.Rows L2 Wp
/-- what where tells -/
noncomputable def told (k : Nat) (u v : List Int) : List (List Bool) := leastT (tab k (numL (rd u v)) (max 3 ((rd u v).length + 1)) (max 3 (tot (rd u v) + 2)))
theorem told_front (k : Nat) {f u v : List Int} (hf : f ≠ []) (hu : u ≠ []) (hv : v ≠ []) : told k (joinL f u) (joinL f v) = told k u v := by unfold told; rw [rd_front hf hu hv]
theorem rW_hd {K : PySem.W.Frag} {C : Addr} {H : Hp} {v : V} {ts : List Int} {a : Addr} {xs : List V} (h : (rW K C).R H v ts) (ha : H a = some (.lst xs)) : (rW K C).R (hd H a) v ts := by
  obtain ⟨p, dx, t, h1, h2, h3⟩ := h
  refine ⟨p, dx, t, h1, by rw [hd_ne (fun z => by rw [z, ha] at h2; cases h2)]; exact h2, ?_⟩
  rcases h3 with (h3 | ⟨ob, h3⟩) | h3
  · exact .inl (.inl (by rw [hd_ne (fun z => by rw [z, ha] at h3; cases h3)]; exact h3))
  · exact .inl (.inr ⟨ob, by rw [hd_ne (fun z => by rw [z, ha] at h3; cases h3)]; exact h3⟩)
  · exact .inr h3
section
variable {p : Addr} {X : Cx} {σ : L2.St} {Hh H : Hp} {D : Ends} {rest : List Stmt} {e a b c : Expr} {es : List Expr} {x : Str} {pos pp p1 apos cpos : Pos} {ms : List MP} {m1 m2 : MP}
theorem e_pr0 {uw : List Int × List Int} {i : Expr} (ha : EvP (wE X a) σ H (kPr.is uw).P) (hb : EvP (wE X b) σ H (kI.is 0).P) (hs : PlainIx b := by exact fun _ _ => rfl) : EvP (wE X (.Subscript a b pos)) σ H ((kL kI).is uw.1).P :=
  .of (pe_ix ix_list pE pE hs) fun H1 e1 Q k => ha H1 e1 _ fun v H2 e2 ⟨l, x, y, hv, hl, hx, hy⟩ => hb H2 (e1.trans e2) _ fun u H3 e3 eu => ⟨l, _, 0, x, hv, eu, SqL.of (e3 _ _ hl), rfl, k _ _ (e2.trans e3) ((kL kI).mono e3 hx)⟩
theorem e_pr1 {uw : List Int × List Int} {i : Expr} (ha : EvP (wE X a) σ H (kPr.is uw).P) (hb : EvP (wE X b) σ H (kI.is 1).P) (hs : PlainIx b := by exact fun _ _ => rfl) : EvP (wE X (.Subscript a b pos)) σ H ((kL kI).is uw.2).P :=
  .of (pe_ix ix_list pE pE hs) fun H1 e1 Q k => ha H1 e1 _ fun v H2 e2 ⟨l, x, y, hv, hl, hx, hy⟩ => hb H2 (e1.trans e2) _ fun u H3 e3 eu => ⟨l, _, 1, y, hv, eu, SqL.of (e3 _ _ hl), rfl, k _ _ (e2.trans e3) ((kL kI).mono e3 hy)⟩
theorem pr_list {H : Hp} {v : V} {uw : List Int × List Int} (h : kPr.R H v uw) : (kL (kL kI)).R H v [uw.1, uw.2] := by
  obtain ⟨l, x, y, h1, h2, h3, h4⟩ := h
  exact ⟨l, _, h1, h2, .cons h3 (.cons h4 .nil)⟩
theorem e_rep1 {n : Int} (ha : EvP (wE X a) σ H ((kL kI).is [1]).P) (hb : EvP (wE X b) σ H (kI.is n).P) (h0 : 0 ≤ n) (h1 : n ≤ 1000) : EvP (wE X (.BinOp a .Mult b pos)) σ H ((kL kI).is (List.replicate n.toNat 1)).P :=
  .of (pe_op op_rep pE pE) fun H1 e1 Q k => ha H1 e1 _ fun v H2 e2 ⟨l, xs, hv, hx, hp⟩ => hb H2 (e1.trans e2) _ fun u H3 e3 hu => by
    obtain rfl := pd_int.mp hp
    refine ⟨l, n, _, hv, hu, e3 _ _ hx, by omega, by omega, by rw [sizeLine_eq]; simp; omega, fun p hp' => k _ _ ((e2.trans e3).trans (ex_new hp')) ⟨p, _, rfl, upd_same, pd_int.mpr ?_⟩⟩
    generalize n.toNat = m
    induction m with
    | zero => rfl
    | succ m ih => rw [List.replicate_succ, List.replicate_succ, List.flatten_cons, ih]; rfl
/-- two drawn tests and more, all true -/
theorem q_and3T (ha : EvQ p (wE X a) σ Hh fun v _ => v = .bl true) (hb : EvQ p (wE X b) σ Hh fun v _ => v = .bl true) (hc : EvQ p (wE X c) σ Hh fun v _ => v = .bl true) : EvQ p (wE X (.BoolOp .And [a, b, c] pos)) σ Hh fun v _ => v = .bl true := fun H1 e1 hp Q k =>
  wE.of (pe_and pE (pe_and pE (pe_one pE))) (ha H1 e1 hp _ fun v H2 e2 hp2 hv => ⟨true, hv, iteT (hb H2 (e1.trans e2) hp2 _ fun u H3 e3 hp3 hu => ⟨true, hu, iteT (hc H3 ((e1.trans e2).trans e3) hp3 _ fun w H4 e4 hp4 hw => k w H4 ((e2.trans e3).trans e4) hp4 hw)⟩)⟩)
theorem q_eqF {C : Addr} {k : Nat} {rs rs' : List (List Bool)} (O : Own X.prog X.w X.K X.mg X.base k C "__eq__" ["self", "other"] (spM (REq X.K C))) (hr : Room k X.A) (W : TxtF X.K C) (ha : EvQ p (wE X a) σ Hh ((rF X.K C).is rs).P) (hb : EvP (wE X b) σ Hh ((rF X.K C).is rs').P) :
    EvQ p (wE X (.Compare a [.Eq] [b] pos)) σ Hh fun v _ => v = .bl (decide (rs = rs')) := fun H1 e1 hp Q k =>
  wE.of (pe_cmpR (eq_own O hr W.nf) pE pE (nomark _)) (ha H1 e1 hp _ fun v H2 e2 hp2 hv => EvP.toQ hb H2 (e1.trans e2) hp2 _ fun u H3 e3 hp3 hu => by
    have hv3 := (rF X.K C).mono (e3.trans ex_hd) hv
    have hu3 := (rF X.K C).mono ex_hd hu
    obtain ⟨y, dx, t, rfl, h2, h3⟩ := id hu3
    obtain ⟨y', dx', t', rfl, h2', h3'⟩ := id hv3
    exact ⟨y', dx', _, y, dx, _, rfl, h2', rfl, h2, [(rF X.K C).is rs, (rF X.K C).is rs'], _, .cons hv3 (.cons hu3 .nil), ⟨rs, rs', rfl, rfl⟩, fun w H4 e4 hw => k w H4 ((e2.trans e3).trans (pl_hd hp3 e4)) (pl_ex hp3 e4) hw⟩)
theorem t_eqF {C : Addr} {k : Nat} {rs rs' : List (List Bool)} (O : Own X.prog X.w X.K X.mg X.base k C "__eq__" ["self", "other"] (spM (REq X.K C))) (hr : Room k X.A) (W : TxtF X.K C) (ha : EvP (wE X a) σ H ((rF X.K C).is rs).P) (hb : EvP (wE X b) σ H ((rF X.K C).is rs').P) :
    EvT (wT X (.Compare a [.Eq] [b] pos)) σ H (decide (rs = rs')) :=
  .of (pt_cmpR (eq_own O hr W.nf) pE pE (nomark _)) fun H1 e1 Q k => ha H1 e1 _ fun v H2 e2 hv => hb H2 (e1.trans e2) _ fun u H3 e3 hu => by
    have hv3 := (rF X.K C).mono e3 hv
    obtain ⟨y, dx, t, rfl, h2, h3⟩ := id hu
    obtain ⟨y', dx', t', rfl, h2', h3'⟩ := id hv3
    exact ⟨y', dx', _, y, dx, _, rfl, h2', rfl, h2, [(rF X.K C).is rs, (rF X.K C).is rs'], _, .cons hv3 (.cons hu .nil), ⟨rs, rs', rfl, rfl⟩, fun w H4 e4 hw => ⟨decide (rs = rs'), hw, k H4 ((e2.trans e3).trans e4)⟩⟩
/-- o.append(e), e a new list -/
theorem s_appN {α : Type} {r : Rep α} {as : List α} {xs : List V} {l : Addr} (hl : H l = some (.lst xs)) (ho : EvP (wE X a) σ H fun v _ => v = .ref l) (he : EvN (wE X e) σ H r as) (hz : xs.length ≤ 1000000) (k : ∀ q ys H', Ex H H' → H' q = none → Paired (r.R H') ys as → wS X rest D σ (upd (upd H' q (.lst ys)) l (.lst (xs ++ [.ref q]))))
    (hbase : attributeBase a "append" X.env (eval a X.env) = eval a X.env := by rfl)
    (hfew : ((backTo cpos (starEach [e] X.env)).all (fun x => !x.1) && (backToKw cpos (keywordEach [] X.env)).all (fun x => x.1.isSome) && decide (([e] : List Expr).length + ([] : List Keyword).length + (if ([] : List Keyword).isEmpty then 0 else 1) < 30)) = true := by rfl)
    (hline : (apos.endLine == cpos.line) = true := by rfl) (hs : starEach [e] X.env = (false, eval e X.env) :: starEach [] X.env := by rfl) (hplain : (backTo cpos (starEach [] X.env)).any (·.1) = false := by rfl)
    (hsw : swapsWith (.Call (.Attribute a "append" apos) [e] [] cpos) none pos.line X.env = pure false := by rfl) : wS X (.Expr (.Call (.Attribute a "append" apos) [e] [] cpos) pos :: rest) D σ H :=
  wS.cons (ps_expr (pe_bm PySem.F.plainAttrs_list PySem.F.slot_list_append PySem.F.type_list_append mt_append pE (pa_cons pE pa_nil hs) hbase hfew hline hs hplain) hsw)
    (ho H ex_refl _ fun u H1 e1 hu => by
      subst hu
      exact ⟨.inl ⟨rfl, _, SqL.of (e1 _ _ hl)⟩, he H1 e1 _ fun q ys H2 e2 hq hys => ⟨l, xs, .ref q, rfl, rfl, (ex_new hq) _ _ (e2 _ _ (e1 _ _ hl)), by rw [sizeLine_eq]; omega, k q ys H2 (e1.trans e2) hq hys⟩⟩)
end
def RBehind (K : PySem.W.Frag) (CF : Addr) : List MP → MP → Prop := fun ms m => ∃ (k : Nat) (uw : List Int × List Int), ms = [kI.is (k : Int), kPr.is uw] ∧ k < 4 ∧ PPr uw ∧ m = (rF K CF).is (told k uw.1 uw.2)
abbrev N81 : List Str := ["_law_pool_here", "_law_kind_here", "_law_pair_here", "_law_front", "_law_walks", "_law_turns"]
theorem sc81 : FnScope N81 ["_law_pool_here", "_law_kind_here", "_law_pair_here"] (defScope (top 81)) := ⟨rfl, rfl, rfl, by decide +kernel, rfl, by decide +kernel, by decide +kernel⟩
abbrev CLKind (P : Program) (w : World) (K : PySem.W.Frag) (mg : Str → Option Value) (base : Heap) := Cal P w K mg base 1 "_law_kind" ["_law_k"] (spM RLKind)
abbrev CWhere (P : Program) (w : World) (K : PySem.W.Frag) (mg : Str → Option Value) (base : Heap) (C CF : Addr) := Cal P w K mg base 7 "where" ["kind", "first", "second"] (spM (RWhere K C CF))
section
variable {P : Program} {w : World} {K : PySem.W.Frag} {mg : Str → Option Value} {base : Heap} {f : Addr} {fd : FuncData} {C CF : Addr}
theorem two_front {f u v : List Int} (hf : f ≠ []) (hl : f.length ≤ 160) (h : PairP u v) : Two (joinL f u) (joinL f v) := by
  have l1 := joinL_len hf h.hu
  have l2 := joinL_len hf h.hv
  have := h.lu
  have := h.lv
  have e := rd_front hf h.hu h.hv
  exact ⟨joinL_ne, joinL_ne, by omega, rd_ne, by rw [e]; exact h.l9, by rw [e]; exact h.t12⟩
theorem ok_lbehind (F : Fun K "_law_behind" "_law_behind" (top 81) f fd) (hm : mg "_law_behind" = some (.ref f)) (hb : Binds K fd ["_law_pool_here", "_law_kind_here", "_law_pair_here"] []) (Ct : CTake P w K mg base) (Cj : CLJoin P w K mg base) (Ck : CLKind P w K mg base) (Cw : CWhere P w K mg base C CF) (M : MWalk P w K mg base C) :
    Cal P w K mg base 8 "_law_behind" ["_law_pool_here", "_law_kind_here", "_law_pair_here"] (spQ (RBehind K CF)) := by
  refine Cal.pool F sc81 hm hb (fun ms m ⟨_, _, h, _⟩ => by rw [h]; rfl) (fun cdv A outer s H p vs E ms m hr hp hv hR => ?_)
  obtain ⟨k, ⟨u, w'⟩, rfl, hk, hpp, rfl⟩ := hR
  obtain ⟨vk, vp, rfl, hvk, q0⟩ := pd2 hv
  obtain rfl : vk = .int (k : Int) := hvk
  have fin : ∀ (fr : List Int) (vf : V) (H1 : Hp) (σ1 : L2.St), fr ≠ [] → fr.length ≤ 160 → Ex (hd H p) (hd H1 p) → PlAt H1 p → (kL kI).R (hd H1 p) vf fr → σ1 = [some (.ref p), some (.int (k : Int)), some vp, some vf, none, none] →
      wS (cxOf CX0 P w K mg base N81 "_law_behind" (defScope (top 81)) f cdv A outer s H E).nox ((defBody (top 81)).drop 2) { nx := fun _ _ => False, rt := fun v H' => Ex (hd H p) (hd H' p) ∧ PlAt H' p ∧ ((rF K CF).is (told k u w')).P v (hd H' p) } σ1 H1 := by
    intro fr vf H1 σ1 hfr hfl e1 hp1 qf hσ
    subst hσ
    have q0' := kPr.mono (e1.trans ex_hd) q0
    have qf' := (kL kI).mono ex_hd qf
    have lu := hpp.lu
    have lv := hpp.lv
    refine s_setLc (i := 4) (rc := rW K C) (own := [("_law_turns", 5)]) (r := kL kI) (as := [u, w']) rfl sc81.nd (pi_list pE) (blkOk_by (N := N81) (sc := defScope (top 81)) (by decide +kernel)) (fun _ _ _ _ _ => pg_name (i := 5) sc81.nd rfl (.inl rfl))
      (src_list (vX (r := kL (kL kI)) 2 (pr_list q0'))) (joinL fr) (fun z _ => [some (.ref p), some (.int (k : Int)), some vp, some vf, none, some z]) (by simp) (fun a y H' Q _ _ q => q) (fun _ _ => rfl)
      (fun t y H' ht e2 hy => bE_of fun s H0 C cl fp => ?_) fun al xs H2 e2 hal hx => ?_
    · have hts : t ≠ [] ∧ t.length ≤ 20 := by
        simp only [List.mem_cons, List.not_mem_nil, or_false] at ht
        rcases ht with rfl | rfl
        · exact ⟨hpp.hu, lu⟩
        · exact ⟨hpp.hv, lv⟩
      have l1 := joinL_len hfr hts.1
      exact e_walk M (hr.mono (by decide)) (.inl (e_call Cj (hr.mono (by decide)) (a_cons (vX (r := kL kI) 3 ((kL kI).mono e2 qf')) (a_cons (vX (r := kL kI) 5 hy) a_nil)) ⟨fr, t, rfl, hfr, hts.1, by omega, rfl⟩)) (by omega)
    · obtain ⟨c, n, b, hpc⟩ := id (pl_ex hp1 e2)
      have hne : al ≠ p := fun z => by rw [z, hpc] at hal; cases hal
      have hp2 := pl_ex (pl_ex hp1 e2) (ex_new (o := .lst xs) hal)
      have e12 := pl_hd hp1 (e2.trans (ex_new (o := .lst xs) hal))
      have hw2 : (kL (rW K C)).R (hd (upd H2 al (.lst xs)) p) (.ref al) [joinL fr u, joinL fr w'] := ⟨al, xs, rfl, by rw [hd_ne hne, upd_same], pd_mono hx fun _ _ q => rW_hd ((rW K C).mono (ex_new hal) q) ((ex_new hal) _ _ hpc)⟩
      generalize upd H2 al (.lst xs) = H3 at hp2 e12 hw2
      have ht := two_front hfr hfl hpp
      refine s_retQ hp2 (EvP.toQ (e_call Cw hr (a_cons (e_call Ck (hr.mono (by decide)) (a_cons (vI 1) a_nil) ⟨k, rfl, hk, rfl⟩) (a_cons (e_ixL (r := rW K C) (a0 := joinL fr u) (vX (r := kL (rW K C)) (v := .ref al) 4 hw2) e_int rfl) (a_cons (e_ixL (r := rW K C) (a0 := joinL fr w') (vX (r := kL (rW K C)) (v := .ref al) 4 hw2) e_int rfl) a_nil))) ⟨k, _, _, rfl, hk, ht, rfl⟩)) fun v' H' e' hp' hq => ⟨(e1.trans e12).trans e', hp', ?_⟩
      have e := told_front k hfr hpp.hu hpp.hv
      unfold told at e ⊢
      rw [← e]; exact hq
  refine s_setQ (i := 3) sc81.nd hp ((q_list (qa_cons (m := mI 0 (10 ^ 30)) (q_take (i := 0) Ct (hr.mono (by decide)) rfl (e_pow (i := 10) (j := 30) e_int e_int (by refine ⟨?_, ?_, ?_⟩ <;> decide)) (by decide) (by decide)) (qa_cons (m := kI.is 0) (EvP.toQ e_int) qa_nil)) (by simp)).imp (q' := (mOf (kL kI) fun ts => ts ≠ [] ∧ ts.length = 2).P) fun v H' ⟨l, vs, h1, h2, h3⟩ => ?_) (fun v1 H1 e1 hp1 ⟨fr, q1, hfr, hfl⟩ => ?_)
  · obtain ⟨x, y, rfl, ⟨i, hx, _⟩, hy⟩ := pd2 h3
    exact ⟨[i, 0], ⟨l, _, h1, h2, .cons hx (.cons hy .nil)⟩, by simp, rfl⟩
  refine s_whenQ hp1 (qt_eq (Pb := fun _ => True) (q_take (i := 0) Ct (hr.mono (by decide)) rfl e_int (by decide) (by decide)) (EvP.qi e_int trivial)) (fun _ H2 e2 hp2 => ?_) (fun _ H2 e2 hp2 => ?_)
  · refine s_setQ (i := 3) sc81.nd hp2 (EvP.toQ (EvN.evp (n_cat (e_rep1 (n := 150) (EvN.evp (n_lst (r := kI) (as := [1]) (a_cons e_int a_nil) (by decide))) e_int (by decide) (by decide)) (vX (r := kL kI) 3 ((kL kI).mono e2 q1)) (by rw [List.length_replicate, hfl]; decide)))) (fun v3 H3 e3 hp3 q3 => s_nil ?_)
    exact fin (List.replicate 150 1 ++ fr) v3 H3 _ (by simp) (by rw [List.length_append, List.length_replicate, hfl]; decide) ((e1.trans e2).trans e3) hp3 q3 rfl
  · exact fin fr v1 H2 _ hfr (by omega) (e1.trans e2) hp2 ((kL kI).mono e2 q1) rfl
end
end Wf
/-! L13: the script; the law. -/
namespace Wf
open PySem PySem.Spec PyProof.Rows L2 Wp
/-- the script -/
def kSq (K : PySem.W.Frag) : Rep (List Int) := ⟨fun H v ns => ∃ a, v = .ref a ∧ SqL K H a (ns.map V.int), fun e ⟨a, h1, h2⟩ => ⟨a, h1, Evl.ex_l e h2⟩⟩
section
variable {p : Addr} {X : Cx} {σ : L2.St} {H : Hp} {a b : Expr} {pos pp : Pos} {ns : List Int} {i : Int}
theorem e_lenSq (hm : X.mg "len" = none) (ha : EvP (wE X a) σ H ((kSq X.K).is ns).P) (hg : Gl X "len" := by rfl) (h1 : starEach [a] X.env = (false, eval a X.env) :: starEach [] X.env := by rfl) (hpl : (backTo pos (starEach [] X.env)).any (·.1) = false := by rfl) : EvP (wE X (.Call (.Name "len" pp) [a] [] pos)) σ H (kI.is ns.length).P :=
  e_bltn call_len_seq hm boot_len (a_cons ha a_nil h1) (fun vs H1 e1 hv Q k => by
    obtain ⟨v, rfl, q, rfl, hx⟩ := pd1 hv
    exact ⟨q, _, rfl, .inl hx, k _ _ ex_refl (by rw [List.length_map]; rfl)⟩) hg (by decide) (by decide) h1 hpl
theorem e_ixSq {x : Int} (ha : EvP (wE X a) σ H ((kSq X.K).is ns).P) (hb : EvP (wE X b) σ H (kI.is i).P) (h : atI ns i = some x) (hs : PlainIx b := by exact fun _ _ => rfl) : EvP (wE X (.Subscript a b pos)) σ H (kI.is x).P :=
  .of (pe_ix ix_list pE pE hs) fun H1 e1 Q k => ha H1 e1 _ fun v H2 e2 ⟨q, hv, hx⟩ => hb H2 (e1.trans e2) _ fun u H3 e3 eu => by
    obtain ⟨y, hy, hr⟩ := at_map (r := kI) (H := H3) (pd_int.mpr rfl) h
    exact ⟨q, _, i, y, hv, eu, Evl.ex_l e3 hx, hy, k _ _ (e2.trans e3) hr⟩
theorem n_sliceSq {lo hi : Option Expr} {tl th : TO} {l u : Option Int} {p2 : Pos} (hl : PO X lo tl) (hu : PO X hi th) (ha : EvP (wE X a) σ H ((kSq X.K).is ns).P) (h1 : EvO tl σ H l) (h2 : EvO th σ H u) : EvN (wE X (.Subscript a (.Slice lo hi none p2) pos)) σ H kI (cut ns l u) :=
  .of (pe_slice sl_list pE hl hu) fun H1 e1 Q k => ha H1 e1 _ fun v H2 e2 ⟨q, ev, hx⟩ => h1 H2 (e1.trans e2) _ fun H3 e3 => h2 H3 ((e1.trans e2).trans e3) _ fun H4 e4 =>
    ⟨q, _, ev, Evl.ex_l e4 (Evl.ex_l e3 hx), fun l hl => k l _ H4 ((e2.trans e3).trans e4) hl (pd_cut (r := kI) (H := H4) (pd_int.mpr rfl))⟩
end
def RLCellS (K : PySem.W.Frag) : List MP → MP → Prop := fun ms m => ∃ u : List Int, ms = [(kSq K).is u, kI.is 0] ∧ m = kI.is (u.getD 0 0)
section
variable {P : Program} {w : World} {K : PySem.W.Frag} {mg : Str → Option Value} {base : Heap} {f : Addr} {fd : FuncData} {C CF : Addr}
theorem ok_lcellS (F : Fun K "_law_cell" "_law_cell" (top 52) f fd) (T : Txt K mg) (hm : mg "_law_cell" = some (.ref f)) (hb : Binds K fd ["_law_script", "_law_k"] []) : Cal P w K mg base 1 "_law_cell" ["_law_script", "_law_k"] (spM (RLCellS K)) := by
  refine Cal.pure F sc52 hm hb (fun ms m ⟨_, h, _⟩ => by rw [h]; rfl) (fun cdv A outer s H vs E ms m hr hv hR => ?_)
  obtain ⟨u, rfl, rfl⟩ := hR
  obtain ⟨v, k, rfl, h0, rfl⟩ := pd2 hv
  refine s_when (t_lt (vI 1) (e_lenSq T.len (vX (r := kSq K) 0 h0))) (fun h H2 e2 => ?_) (fun h H2 e2 => ?_)
  · have h : (0 : Int) < u.length := of_decide_eq_true h
    exact s_ret (e_ixSq (vX (r := kSq K) 0 ((kSq K).mono e2 h0)) (vI 1) (getD_at (d := 0) (by omega) h)) fun v' H3 e3 q => ⟨e2.trans e3, q⟩
  · have h : ¬ (0 : Int) < u.length := of_decide_eq_false h
    have hu : u = [] := List.length_eq_zero_iff.mp (by omega)
    subst hu
    exact s_ret e_int fun v' H3 e3 q => ⟨e2.trans e3, q⟩
end
def spLaw (K : PySem.W.Frag) : Sp := fun vs H Q _ => ∃ (a : Addr) (ns : List Int), vs = [.ref a] ∧ SqL K H a (ns.map V.int) ∧ ns.length ≤ 63 ∧ ∀ H', Q (.bl true) H'
abbrev N82 : List Str := ["_law_script", "_law_pool_here", "_law_kind_here", "_law_pair_here", "_law_planned_here", "_law_number_here", "_law_places", "_law_told", "_law_lengths_here", "_law_wide", "_law_table", "_law_sides", "_law_left_here", "_law_around", "_law_due", "_law_cell_here", "_law_walks", "_law_at", "_law_part"]
theorem sc82 : FnScope N82 ["_law_script"] (defScope (top 82)) := ⟨rfl, rfl, rfl, by decide +kernel, rfl, by decide +kernel, by decide +kernel⟩
/-! ### the plain side of the law -/
theorem told_eq (k : Nat) {u v : List Int} (h : PairP u v) : told k u v = leastT (tT (dF k (numL (joinL (backL u) v))) (max 3 ((rd u v).length + 1) - 2) (max 3 (tot (rd u v) + 2) - 2)) := by
  unfold told
  rw [tab_tT, dF_eq k (fun p q => due_rd k u v p q)]
theorem st_pair (k : Nat) {u v : List Int} (h : PairP u v) : St (dF k (numL (joinL (backL u) v))) ((rd u v).length - 2) (tot (rd u v) - 1) := by
  have := st_due k rd_ne h.l9 h.t12
  rw [dF_eq k (fun p q => due_rd k u v p q)] at this
  exact this
theorem told_swap (k : Nat) {u v : List Int} (h : PairP u v) : told k v u = told k u v := by
  unfold told
  rw [tab_tT, tab_tT, dF_eq k (fun p q => due_swap k h.hu h.hv p q), rd_swap h.hu h.hv, backL_len, tot_back]
theorem told_in (k : Nat) {u v : List Int} (h : PairP u v) {p q : Int} (hp : 3 ≤ p) (hq : 3 ≤ q) : inT (told k u v) p q = dueB k (numL (joinL (backL u) v)) p.toNat q.toNat := by
  rw [told_eq k h, in_tT (st_pair k h) (by omega) (by omega) hp hq]
  unfold dF
  rw [show (p - 3).toNat + 3 = p.toNat by omega, show (q - 3).toNat + 3 = q.toNat by omega]
theorem told_low (k : Nat) {u v : List Int} {p q : Int} (h : p < 3 ∨ q < 3) : inT (told k u v) p q = false := in_low h
theorem leastT_shape {f : Nat → Nat → Bool} {hb nb h n : Nat} (s : St f hb nb) (hh : hb < h) (hn : nb < n) : leastT (tT f h n) ≠ [] ∧ ∀ r ∈ leastT (tT f h n), r ≠ [] := by
  obtain ⟨k, m, t1, t2, e⟩ := least_tT s hh hn
  rw [e]
  have := t1.pos
  have := t2.pos
  refine ⟨fun z => ?_, fun r hr z => ?_⟩
  · have := congrArg List.length z; rw [tT_len] at this; simp at this; omega
  · have := tT_mem hr; rw [z] at this; simp at this; omega
theorem told_shape (k : Nat) {u v : List Int} (h : PairP u v) : told k u v ≠ [] ∧ ∀ r ∈ told k u v, r ≠ [] := by
  rw [told_eq k h]
  exact leastT_shape (st_pair k h) (by omega) (by omega)
/-- the lengths that the law takes -/
def l0 (u v : List Int) : Int := min (((joinL (backL u) v).length : Int) - 1) 9
def l1 (u v : List Int) : Int := min (wsz (joinL (backL u) v)) 13
theorem l_ok {u v : List Int} (h : PairP u v) : 0 ≤ l0 u v ∧ l0 u v ≤ 9 ∧ ((rd u v).length : Int) - 1 ≤ l0 u v ∧ 0 ≤ l1 u v ∧ l1 u v ≤ 13 ∧ ((tot (rd u v) : Nat) : Int) ≤ l1 u v := by
  have e1 := redL_len (joinL (backL u) v)
  have e2 := tot_red (joinL (backL u) v)
  have e3 : (rd u v).length ≤ (joinL (backL u) v).length := e1
  have e4 : tot (rd u v) ≤ tot (joinL (backL u) v) := e2
  have := List.length_pos_iff.mpr (rd_ne (u := u) (v := v))
  have := h.l9
  have := h.t12
  unfold l0 l1
  rw [wsz_tot]
  omega
theorem told_least (k : Nat) {u v : List Int} (h : PairP u v) : dcN (l1 u v + 1).toNat (wcL (tab k (numL (joinL (backL u) v)) (l0 u v + 3).toNat (l1 u v + 3).toNat)) = told k u v := by
  have l := l_ok h
  have := List.length_pos_iff.mpr (rd_ne (u := u) (v := v))
  rw [told_eq k h, tab_tT, show (l1 u v + 1).toNat = (l1 u v + 3).toNat - 2 by omega, law_least (st_pair k h) (by omega) (by omega)]
  exact least_any (st_pair k h) (by omega) (by omega) (by omega) (by omega)
end Wf
/-! L14: the law's body, its end. -/
namespace Wf
open PySem PySem.Spec PyProof.Rows L2 Wp
structure LawC (P : Program) (w : World) (K : PySem.W.Frag) (mg : Str → Option Value) (base : Heap) (C CF : Addr) : Prop where
  T : Txt K mg
  WF : TxtF K CF
  hF : mg "Floors" = some (.ref CF)
  pool : Cal P w K mg base 1 "_law_pool" ["_law_cell_here"] spPool
  take : CTake P w K mg base
  cell : Cal P w K mg base 1 "_law_cell" ["_law_script", "_law_k"] (spM (RLCellS K))
  size : Cal P w K mg base 2 "_law_size" ["_law_pool_here"] (spQ RSize)
  pair : Cal P w K mg base 4 "_law_pair" ["_law_pool_here"] (spQ RPair)
  plan : Cal P w K mg base 3 "_law_planned" ["_law_pool_here"] (spQ RPlan)
  num : Cal P w K mg base 5 "_law_number" ["_law_turns"] (spM (RLNum K))
  back : CLBack P w K mg base
  join : CLJoin P w K mg base
  kind : CLKind P w K mg base
  len : Cal P w K mg base 2 "_law_lengths" ["_law_first", "_law_second"] (spM RLLen)
  low : CLLow P w K mg base
  rest : Cal P w K mg base 3 "_law_rest" ["_law_f", "_law_sides", "_law_around"] (spM (RLRest K))
  least : Cal P w K mg base 1 "_law_least" ["_law_table"] (spM (RLLeast K))
  wher : CWhere P w K mg base C CF
  same : CalK P w K mg base 7 "same" 3 ["kind", "first", "second", "p", "q"] ["p", "q"] (spM (RSame K C))
  behind : Cal P w K mg base 8 "_law_behind" ["_law_pool_here", "_law_kind_here", "_law_pair_here"] (spQ (RBehind K CF))
  oin : Own P w K mg base 1 CF "__contains__" ["self", "floor"] (spM (RIn K CF))
  oeq : Own P w K mg base 1 CF "__eq__" ["self", "other"] (spM (REq K CF))
  walk : MWalk P w K mg base C
/-- what stands in the law's body -/
structure Bas (K : PySem.W.Frag) (CF : Addr) (B : Hp) (k : Nat) (u v ns : List Int) (vs vp vn vpl vt vl : V) : Prop where
  sq : (kSq K).R B vs ns
  pr : kPr.R B vp (u, v)
  nm : (rNl K).R B vn (numL (joinL (backL u) v))
  pl : (kL kI).R B vpl (placesL k)
  td : (rF K CF).R B vt (told k u v)
  ln : (kL kI).R B vl [l0 u v, l1 u v]
theorem Bas.mono {K : PySem.W.Frag} {CF : Addr} {B B' : Hp} {k : Nat} {u v ns : List Int} {vs vp vn vpl vt vl : V} (h : Bas K CF B k u v ns vs vp vn vpl vt vl) (e : Ex B B') : Bas K CF B' k u v ns vs vp vn vpl vt vl :=
  ⟨(kSq K).mono e h.sq, kPr.mono e h.pr, (rNl K).mono e h.nm, (kL kI).mono e h.pl, (rF K CF).mono e h.td, (kL kI).mono e h.ln⟩
theorem pair_nb {u v : List Int} (h : PairP u v) : NB (numL (joinL (backL u) v)) 60 60 := by
  have := tot_join (backL u) v
  rw [tot_back] at this
  have := h.tt
  exact (numL_box joinL_ne).mono (by omega) (by omega)
theorem places_len (k : Nat) : (placesL k).length ≤ 3 := by unfold placesL; split <;> decide
section
variable {P : Program} {w : World} {K : PySem.W.Frag} {mg : Str → Option Value} {base : Heap} {f : Addr} {fd : FuncData} {C CF : Addr}
variable {cdv : Value} {A : Around} {outer : List Env} {s : Shared} {H0 : Hp} {E : XK}
abbrev XL (P : Program) (w : World) (K : PySem.W.Frag) (mg : Str → Option Value) (base : Heap) (f : Addr) (cdv : Value) (A : Around) (outer : List Env) (s : Shared) (H0 : Hp) (E : XK) : Cx := (cxOf CX0 P w K mg base N82 "law" (defScope (top 82)) f cdv A outer s H0 E).nox
set_option maxHeartbeats 1000000 in
theorem law_end (G : LawC P w K mg base C CF) (hr : Room 8 (A.deeper (envOfC "law" (defScope (top 82)) s.heap.objs.size f cdv))) {D : Ends} (hD : ∀ H', D.rt (.bl true) H') {k : Nat} (hk : k < 4) {u v ns : List Int} (hp : PairP u v) {vs vp vn vpl vt vl : V} {pl : Bool} {a9 a10 a11 a12 a13 a14 a15 a16 a17 a18 : Option V} {H : Hp} {p : Addr} (hpl : PlAt H p) (hB : Bas K CF (hd H p) k u v ns vs vp vn vpl vt vl) :
    wS (XL P w K mg base f cdv A outer s H0 E) ((defBody (top 82)).drop 14) D [some vs, some (.ref p), some (.int (k : Int)), some vp, some (.bl pl), some vn, some vpl, some vt, some vl, a9, a10, a11, a12, a13, a14, a15, a16, a17, a18] H := by
  have hsh := told_shape k hp
  have hnb := pair_nb hp
  have h2 := hp.two
  refine s_forP rfl PassesOwn.never (pi_list pE) (pg_name (i := 15) sc82.nd rfl (.inl rfl)) (src_list (r := kI) (as := cut ns (some 1) (some 6)) (EvN.evp (n_sliceSq (po_some pE) (po_some pE) (vX (r := kSq K) 0 ((kSq K).mono ex_hd hB.sq)) (o_some e_int) (o_some e_int))))
    (fun i σ' H' => ∃ (p' : Addr) (a11 a13 a14 a15 a16 : Option V), σ' = [some vs, some (.ref p'), some (.int (k : Int)), some vp, some (.bl pl), some vn, some vpl, some vt, some vl, a9, a10, a11, a12, a13, a14, a15, a16, a17, a18] ∧ PlAt H' p' ∧ Ex (hd H p) (hd H' p'))
    (fun H2 e2 => ⟨p, _, _, _, _, _, rfl, pl_ex hpl e2, pl_hd hpl e2⟩) (fun i σ' H' H'' ⟨p', b1, b2, b3, b4, b5, h1, h2, h3⟩ e => ⟨p', b1, b2, b3, b4, b5, h1, pl_ex h2 e, h3.trans (pl_hd h2 e)⟩) ?_ ?_
  · rintro i c x σ' H' hi hx ⟨p', b11, b13, b14, b15, b16, rfl, hp', he⟩ Hb eb
    obtain rfl : x = .int c := hx
    refine s_setW (i := 1) sc82.nd (w_call G.pool (hr.mono (by decide)) (wA.of (pa_cons pE pa_nil) ?_))
    refine EvP.use (vI 15 (n := c)) fun z H1 e1 hz => ?_
    subst hz
    refine ⟨c, rfl, fun q H2 e2 hq hq2 => ?_⟩
    have E2 : Ex (hd H p) (hd H2 q) := he.trans (ex_hd.trans (e1.trans e2))
    have eb2 : Ex Hb (hd H2 q) := eb.trans (e1.trans e2)
    refine s_setQ (i := 11) sc82.nd hq2 (q_call G.size (hr.mono (by decide)) (qa_cons (m := mRef q) (q_name (i := 1) rfl) qa_nil) ⟨rfl, rfl⟩) (fun v3 H3 e3 hq3 ⟨sd, hv3, hsd⟩ => ?_)
    obtain rfl : v3 = .int sd := hv3
    refine s_setQ (i := 13) sc82.nd hq3 (q_call G.size (hr.mono (by decide)) (qa_cons (m := mRef q) (q_name (i := 1) rfl) qa_nil) ⟨rfl, rfl⟩) (fun v4 H4 e4 hq4 ⟨ar, hv4, har⟩ => ?_)
    obtain rfl : v4 = .int ar := hv4
    have B4 := hB.mono (E2.trans (e3.trans e4))
    have hL := num_listL B4.nm
    refine s_setQ (i := 14) sc82.nd hq4 (EvP.toQ (e_all (bs := (placesL k).map fun j => isZ (fl sd.toNat ar.toNat (pick (numL (joinL (backL u) v)) j))) rfl G.T.all (EvN.evp
      (n_lc (own := [("_law_at", 17)]) (r := kI) (as := placesL k) rfl sc82.nd (pi_list pE) (blkOk_by (N := N82) (sc := defScope (top 82)) (by decide +kernel)) (fun _ _ _ _ _ => pg_name (i := 17) sc82.nd rfl (.inl rfl))
        (src_list (vX (r := kL kI) 6 B4.pl)) (fun j => isZ (fl sd.toNat ar.toNat (pick (numL (joinL (backL u) v)) j))) (fun z _ => [some vs, some (.ref q), some (.int (k : Int)), some vp, some (.bl pl), some vn, some vpl, some vt, some vl, a9, a10, some (.int sd), a12, some (.int ar), b14, some (.int c), b16, some z, a18]) (Nat.le_trans (places_len k) (by decide)) (fun a z H' Q _ _ q => q) (fun _ _ => rfl)
        (fun j z H' hj e6 hz => bE_of fun s H0 C cl fp => e_eqNil hr.units (e_call G.rest (hr.mono (by decide)) (a_cons (e_ixL (r := rC K) (vX (r := kL (rC K)) 5 ((kL (rC K)).mono e6 hL)) (e_v (i := 17) (m := kI.is j) rfl hz) (pick_at (places_mem hj))) (a_cons (vI 11) (a_cons (vI 13) a_nil))) ⟨_, sd, ar, rfl, by omega, by omega, pick_box hnb j, rfl⟩)))))) (fun v5 H5 e5 hq5 h5 => ?_)
    have hdu : ((placesL k).map fun j => isZ (fl sd.toNat ar.toNat (pick (numL (joinL (backL u) v)) j))).all id = dueB k (numL (joinL (backL u) v)) sd.toNat ar.toNat := by
      rw [due_eq, List.all_map]; rfl
    rw [hdu] at h5
    generalize hdd : dueB k (numL (joinL (backL u) v)) sd.toNat ar.toNat = due at h5
    obtain rfl : v5 = .bl due := h5
    have B5 := B4.mono e5
    have lu := hp.lu
    have lv := hp.lv
    refine s_setQ (i := 16) sc82.nd hq5 (EvP.toQ (EvN.evp (n_lst (r := rW K C) (as := [u, v]) (a_cons (e_walk G.walk (hr.mono (by decide)) (.inl (e_pr0 (i := .Name "x" ⟨0, 0, 0, 0⟩) (uw := (u, v)) (vX (r := kPr) 3 B5.pr) e_int)) (by omega)) (a_cons (e_walk G.walk (hr.mono (by decide)) (.inl (e_pr1 (i := .Name "x" ⟨0, 0, 0, 0⟩) (uw := (u, v)) (vX (r := kPr) 3 B5.pr) e_int)) (by omega)) a_nil)) (by simp)))) (fun v6 H6 e6 hq6 h6 => ?_)
    have B6 := B5.mono e6
    have hin : inT (told k u v) sd ar = due := (told_in k hp hsd har).trans hdd
    refine s_whenQ hq6 (EvT.toQ (t_neB (e_inF G.oin (hr.mono (by decide)) (e_t2 (vI 11) (vI 13)) (vX (r := rF K CF) 7 B6.td) hsh.1 hsh.2) (e_v (i := 14) (m := kB.is due) rfl rfl))) (fun hb => absurd hb (by rw [hin]; cases due <;> decide)) (fun _ H7 e7 hq7 => ?_)
    have h7 := (kL (rW K C)).mono e7 h6
    have hsame : dueB k (numL (rd u v)) sd.toNat ar.toNat = due := (due_rd k u v _ _).trans hdd
    refine s_whenQ hq7 (EvT.toQ (t_neB (e_callK2 G.same (hr.mono (by decide)) (a_cons (e_call G.kind (hr.mono (by decide)) (a_cons (vI 2) a_nil) ⟨k, rfl, hk, rfl⟩) (a_cons (e_ixL (r := rW K C) (a0 := u) (vX (r := kL (rW K C)) 16 h7) e_int rfl) (a_cons (e_ixL (r := rW K C) (a0 := v) (vX (r := kL (rW K C)) 16 h7) e_int rfl) a_nil))) rfl (vI 11) (vI 13) ⟨k, u, v, sd, ar, rfl, hk, h2, hsd, har, rfl⟩) (e_v (i := 14) (m := kB.is due) rfl rfl))) (fun hb => absurd hb (by rw [hsame]; cases due <;> decide)) (fun _ H8 e8 hq8 => ?_)
    have e28 := ((((e3.trans e4).trans e5).trans e6).trans e7).trans e8
    exact s_nil ⟨(eb2.trans e28).trans ex_hd, q, _, _, _, _, _, rfl, hq8, E2.trans e28⟩
  · rintro σ' H' ⟨p', b11, b13, b14, b15, b16, rfl, hp', he⟩
    have B := hB.mono he
    refine s_retQ hp' (q_and3T ?_ ?_ ?_) fun v' H2 e2 hq2 hv => by subst hv; exact hD _
    · refine EvP.toQ ((e_not (e_inF G.oin (hr.mono (by decide)) (e_t2 (i := 2) (j := 5) e_int e_int) (vX (r := rF K CF) 7 B.td) hsh.1 hsh.2)).imp fun v _ _ h => ?_)
      rw [told_low k (.inl (by decide))] at h; exact h
    · refine EvP.toQ ((e_not (e_inF G.oin (hr.mono (by decide)) (e_t2 (i := 4) (j := 0) e_int e_int) (vX (r := rF K CF) 7 B.td) hsh.1 hsh.2)).imp fun v _ _ h => ?_)
      rw [told_low k (.inr (by decide))] at h; exact h
    · refine (q_eqF G.oeq (hr.mono (by decide)) G.WF (q_call G.behind hr (qa_cons (m := mRef p') (q_name (i := 1) rfl) (qa_cons (m := kI.is (k : Int)) (EvP.toQ (vI 2)) (qa_cons (m := kPr.is (u, v)) (EvP.toQ (vX (r := kPr) 3 B.pr)) qa_nil))) ⟨k, (u, v), rfl, hk, hp, rfl⟩) (vX (r := rF K CF) 7 B.td)).imp fun v _ h => ?_
      rw [decide_eq_true rfl] at h; exact h
end
end Wf
/-! L15: the law's table. -/
namespace Wf
open PySem PySem.Spec PyProof.Rows L2 Wp
section
variable {P : Program} {w : World} {K : PySem.W.Frag} {mg : Str → Option Value} {base : Heap} {f : Addr} {fd : FuncData} {C CF : Addr}
variable {cdv : Value} {A : Around} {outer : List Env} {s : Shared} {H0 : Hp} {E : XK}
/-- e, the list at l unseen meanwhile: its answer is told without the list -/
theorem EvP.hideP {X : Cx} {σ : L2.St} {Hh H : Hp} {e : Expr} {q : V → Hp → Prop} {l : Addr} {o : HO} (h : EvP (wE X e) σ Hh q) (e0 : Ex Hh (hd H l)) (hl : H l = some o) (hid : Hid o) : EvP (wE X e) σ H fun v H' => H' l = some o ∧ q v (hd H' l) := fun H1 e1 Q k =>
  wE.frame (e1 _ _ hl) hid (h (hd H1 l) (e0.trans (hd_ex e1 hl)) _ fun v H' e' hv hn => k v _ (fun b ob hb => by
    by_cases hbl : b = l
    · subst hbl; rw [e1 _ _ hl] at hb; rw [upd_same]; exact hb
    · rw [upd_ne hbl]; exact e' _ _ (by rw [hd_ne hbl]; exact hb)) ⟨upd_same, by rw [hd_upd hn]; exact hv⟩)
def rHid (K : PySem.W.Frag) (l : Addr) (xs : List V) : Rep Wf.C := ⟨fun H v φ => H l = some (.lst xs) ∧ (rC K).R (hd H l) v φ, fun e ⟨h1, h2⟩ => ⟨e _ _ h1, (rC K).mono (hd_ex e h1) h2⟩⟩
theorem EvP.hidC {X : Cx} {σ : L2.St} {Hh H : Hp} {e : Expr} {φ : Wf.C} {l : Addr} {xs : List V} (h : EvP (wE X e) σ Hh ((rC X.K).is φ).P) (e0 : Ex Hh (hd H l)) (hl : H l = some (.lst xs)) : EvP (wE X e) σ H ((rHid X.K l xs).is φ).P := EvP.hideP h e0 hl trivial
/-- the inner list done: it is the table's next row -/
theorem ol_next {H Hx H' : Hp} {tb ro : Addr} {xs : List V} {rows : List (List Bool)} {bs : List Bool} (o : OL (kL kB) H Hx tb rows) (hx : Hx tb = some (.lst xs)) {H4 : Hp} (e4 : Ex Hx H4) (hro : H4 ro = none) {ys : List V}
    (o2 : OL kB (hd (upd (upd H4 ro (.lst ys)) tb (.lst (xs ++ [.ref ro]))) ro) H' ro bs) : OL (kL kB) H H' tb (rows ++ [bs]) := by
  have hne : ro ≠ tb := fun z => by rw [z, e4 _ _ hx] at hro; cases hro
  have key : ∀ b o, b ≠ tb → Hx b = some o → H' b = some o := fun b ob hb h => by
    have h4 := e4 _ _ h
    have hbr : b ≠ ro := fun z => by rw [z, hro] at h4; cases h4
    have : (hd (upd (upd H4 ro (.lst ys)) tb (.lst (xs ++ [.ref ro]))) ro) b = some ob := by rw [hd_ne hbr, upd_ne hb, upd_ne hbr]; exact h4
    exact o2.ex _ _ this
  have htb : H' tb = some (.lst (xs ++ [.ref ro])) := o2.ex _ _ (by rw [hd_ne hne.symm, upd_same])
  refine ⟨o.new, fun b ob h => ?_, xs ++ [.ref ro], htb, ?_⟩
  · have hb : b ≠ tb := fun z => by rw [z, o.new] at h; cases h
    have h1 := o.sub _ _ h
    rw [hd_ne hb] at h1 ⊢
    exact key b ob hb h1
  · obtain ⟨xs', h1, h2⟩ := o.at'
    rw [hx] at h1; injection h1 with h1; injection h1 with h1; subst h1
    refine pd_app (pd_mono h2 fun x r ⟨q, zs, h3, h4, h5⟩ => ⟨q, zs, h3, ?_, h5⟩) (.cons ?_ .nil)
    · have hq : q ≠ tb := fun z => by rw [z, hd_same] at h4; cases h4
      rw [hd_ne hq] at h4 ⊢
      exact key q _ hq h4
    · obtain ⟨zs, h3, h4⟩ := o2.at'
      exact ⟨ro, zs, rfl, by rw [hd_ne hne]; exact h3, h4⟩
set_option maxHeartbeats 1000000 in
theorem law_mid (G : LawC P w K mg base C CF) (hr : Room 8 (A.deeper (envOfC "law" (defScope (top 82)) s.heap.objs.size f cdv))) {D : Ends} (hD : ∀ H', D.rt (.bl true) H') {k : Nat} (hk : k < 4) {u v ns : List Int} (hp : PairP u v) {vs vp vn vpl vt vl : V} {pl wd : Bool} {H : Hp} {p : Addr} (hpl : PlAt H p) (hB : Bas K CF (hd H p) k u v ns vs vp vn vpl vt vl) :
    wS (XL P w K mg base f cdv A outer s H0 E) ((defBody (top 82)).drop 11) D [some vs, some (.ref p), some (.int (k : Int)), some vp, some (.bl pl), some vn, some vpl, some vt, some vl, some (.bl wd), none, none, none, none, none, none, none, none, none] H := by
  have hsh := told_shape k hp
  have hnb := pair_nb hp
  have hl := l_ok hp
  have hBf := hB.mono ex_hd
  have hL := num_listL hBf.nm
  refine s_setN (i := 10) (r := kL kB) (as := []) sc82.nd (n_lst a_nil (by decide)) (fun tb xs H1 e1 htb hxs => ?_)
  have o1 := OL.mk0 (r := kL kB) e1 htb hxs
  generalize upd H1 tb (.lst xs) = H1' at o1
  refine s_forM rfl PassesOwn.never (pi_range2 (by rfl) G.T.range pA) (pg_name (i := 11) sc82.nd rfl (by first | exact .inl rfl | exact .inr rfl)) (src_r2 (Hb := H) (lo := 3) (n := l0 u v + 4) (a_cons e_int (a_cons (e_add (e_ixL (r := kI) (a0 := l0 u v) (vX (r := kL kI) 8 ((kL kI).mono o1.ex hBf.ln)) e_int rfl) e_int) a_nil)) (by omega))
    (fun i σ' H' => ∃ (b11 b12 b13 b14 : Option V) (rows : List (List Bool)), σ' = [some vs, some (.ref p), some (.int (k : Int)), some vp, some (.bl pl), some vn, some vpl, some vt, some vl, some (.bl wd), some (.ref tb), b11, b12, b13, b14, none, none, none, none] ∧ OL (kL kB) H H' tb rows ∧ rows.length = i ∧ (wd = false → rows = ((iota 3 (l0 u v + 1).toNat).take i).map (rowP k (numL (joinL (backL u) v)) (l1 u v + 3).toNat)))
    (fun H2 e2 => ⟨_, _, _, _, [], rfl, o1.mono e2, rfl, fun _ => rfl⟩) (fun i σ' H' ⟨_, _, _, _, _, _, h, _⟩ => h.ex) ?_ ?_
  · rintro i sd z σ' H' hi hz ⟨b11, b12, b13, b14, rows, rfl, ho, hrl, hrw⟩
    obtain ⟨hil, hsd⟩ := iota_get hi
    obtain rfl : z = .int sd := hz
    have hL' := (kL (rC K)).mono ho.sub hL
    obtain ⟨x0, hx0, _⟩ := id ho.at'
    -- left
    refine s_setLc (i := 12) (rc := rHid K tb x0) (own := [("_law_at", 17)]) (r := kI) (as := placesL k) rfl sc82.nd (pi_list pE) (blkOk_by (N := N82) (sc := defScope (top 82)) (by decide +kernel)) (fun _ _ _ _ _ => pg_name (i := 17) sc82.nd rfl (.inl rfl))
      (src_list (vX (r := kL kI) 6 ((kL kI).mono ho.ex hBf.pl))) (fun j => lowA 0 sd.toNat (pick (numL (joinL (backL u) v)) j)) (fun z _ => [some vs, some (.ref p), some (.int (k : Int)), some vp, some (.bl pl), some vn, some vpl, some vt, some vl, some (.bl wd), some (.ref tb), some (.int sd), b12, b13, b14, none, none, some z, none]) (Nat.le_trans (places_len k) (by decide)) (fun a y H' Q _ _ q => q) (fun _ _ => rfl)
      (fun j z H' hj e6 hz => bE_of fun s H0 C cl fp => EvP.hidC (e_call G.low (hr.mono (by decide)) (a_cons (e_ixL (r := rC K) (vX (r := kL (rC K)) 5 hL') (e_v (i := 17) (m := kI.is j) rfl hz) (pick_at (places_mem hj))) (a_cons (vI 11) (a_cons e_int a_nil))) ⟨_, sd, 0, rfl, by omega, .inl rfl, pick_box hnb j, rfl⟩) (hd_ex e6 hx0) (e6 _ _ hx0)) fun al xl H3 e3 hal hxl => ?_
    have hatb : al ≠ tb := fun z => by rw [z, e3 _ _ hx0] at hal; cases hal
    have hleft : (kL (rC K)).R (hd (upd H3 al (.lst xl)) tb) (.ref al) ((placesL k).map fun j => lowA 0 sd.toNat (pick (numL (joinL (backL u) v)) j)) := ⟨al, xl, rfl, by rw [hd_ne hatb, upd_same], pd_mono hxl fun _ _ ⟨q1, q2⟩ => (rC K).mono (hd_ex (ex_new hal) q1) q2⟩
    have ho3 := (ho.mono e3).mono (ex_new (o := .lst xl) hal)
    generalize upd H3 al (.lst xl) = H3' at hleft ho3
    -- table.append([])
    obtain ⟨xt, hxt, _⟩ := id ho3.at'
    have hxtl : xt.length = i := by
      obtain ⟨xs', h1, h2⟩ := ho3.at'
      rw [hxt] at h1; injection h1 with h1; injection h1 with h1; subst h1
      rw [pd_len h2, hrl]
    refine s_appN (r := kB) (as := []) hxt (e_nm (i := 10) rfl) (n_lst a_nil (by decide)) (by omega) fun ro yr H4 e4 hro hyr => ?_
    have hne : ro ≠ tb := fun z => by rw [z, e4 _ _ hxt] at hro; cases hro
    cases hyr
    have oB : OL kB (hd (upd (upd H4 ro (.lst [])) tb (.lst (xt ++ [.ref ro]))) ro) (upd (upd H4 ro (.lst [])) tb (.lst (xt ++ [.ref ro]))) ro [] := ⟨hd_same, ex_refl, [], by rw [upd_ne hne, upd_same], .nil⟩
    have hbase : Ex (hd H3' tb) (hd (upd (upd H4 ro (.lst [])) tb (.lst (xt ++ [.ref ro]))) ro) := fun b o h => by
      have hbt : b ≠ tb := fun z => by rw [z, hd_same] at h; cases h
      rw [hd_ne hbt] at h
      have h4 := e4 _ _ h
      have hbr : b ≠ ro := fun z => by rw [z, hro] at h4; cases h4
      rw [hd_ne hbr, upd_ne hbt, upd_ne hbr]; exact h4
    have hHs : Ex H (hd (upd (upd H4 ro (.lst [])) tb (.lst (xt ++ [.ref ro]))) ro) := ho3.sub.trans hbase
    have htbs : (hd (upd (upd H4 ro (.lst [])) tb (.lst (xt ++ [.ref ro]))) ro) tb = some (.lst (xt ++ [.ref ro])) := by rw [hd_ne hne.symm, upd_same]
    have hleft' := (kL (rC K)).mono hbase hleft
    refine s_forM rfl PassesOwn.never (pi_range2 (by rfl) G.T.range pA) (pg_name (i := 13) sc82.nd rfl (by first | exact .inl rfl | exact .inr rfl)) (src_r2 (Hb := hd (upd (upd H4 ro (.lst [])) tb (.lst (xt ++ [.ref ro]))) ro) (lo := 3) (n := l1 u v + 4) (a_cons e_int (a_cons (e_add (e_ixL (r := kI) (a0 := l1 u v) (vX (r := kL kI) 8 ((kL kI).mono (hHs.trans ex_hd) hBf.ln)) e_int rfl) e_int) a_nil)) (by omega))
      (fun j σ' H' => ∃ (b13 b14 : Option V) (bs : List Bool), σ' = [some vs, some (.ref p), some (.int (k : Int)), some vp, some (.bl pl), some vn, some vpl, some vt, some vl, some (.bl wd), some (.ref tb), some (.int sd), some (.ref al), b13, b14, none, none, none, none] ∧ OL kB (hd (upd (upd H4 ro (.lst [])) tb (.lst (xt ++ [.ref ro]))) ro) H' ro bs ∧ bs.length ≤ j ∧ (wd = false → bs = ((iota 3 (l1 u v + 1).toNat).take j).map fun q => dueB k (numL (joinL (backL u) v)) sd.toNat q.toNat))
      (fun H5 e5 => ⟨_, _, [], rfl, oB.mono e5, Nat.le_refl _, fun _ => rfl⟩) (fun j σ' H' ⟨_, _, _, _, h, _⟩ => h.ex) ?_ ?_
    · rintro j ar z σ' H' hj hz ⟨b13, b14, bs, rfl, hoj, hbl, hbw⟩
      obtain ⟨hjl, har⟩ := iota_get hj
      obtain rfl : z = .int ar := hz
      have hBj := hBf.mono (hHs.trans hoj.ex)
      have hlj := (kL (rC K)).mono hoj.ex hleft'
      refine s_when (t_or (t_not (t_val (e_v (i := 9) (m := kB.is wd) rfl rfl))) (fun _ => t_eqI (e_mod (e_add (e_add (vI 11) (vI 13)) (vI 2)) e_int (by decide)) e_int)) (fun _ H6 e6 => ?_) (fun hc H6 e6 => ?_)
      · have hdu : (((placesL k).map fun j => lowA 0 sd.toNat (pick (numL (joinL (backL u) v)) j)).map fun φ => isZ (lowA 1 ar.toNat φ)).all id = dueB k (numL (joinL (backL u) v)) sd.toNat ar.toNat := by
          rw [due_eq, List.all_map, List.all_map]; rfl
        refine s_set (i := 14) sc82.nd (e_all (bs := ((placesL k).map fun j => lowA 0 sd.toNat (pick (numL (joinL (backL u) v)) j)).map fun φ => isZ (lowA 1 ar.toNat φ)) rfl G.T.all (EvN.evp
          (n_lc (own := [("_law_part", 18)]) (r := rC K) (as := (placesL k).map fun j => lowA 0 sd.toNat (pick (numL (joinL (backL u) v)) j)) rfl sc82.nd (pi_list pE) (blkOk_by (N := N82) (sc := defScope (top 82)) (by decide +kernel)) (fun _ _ _ _ _ => pg_name (i := 18) sc82.nd rfl (.inl rfl))
            (src_list (vX (r := kL (rC K)) (v := .ref al) 12 ((kL (rC K)).mono e6 hlj))) (fun φ => isZ (lowA 1 ar.toNat φ)) (fun z _ => [some vs, some (.ref p), some (.int (k : Int)), some vp, some (.bl pl), some vn, some vpl, some vt, some vl, some (.bl wd), some (.ref tb), some (.int sd), some (.ref al), some (.int ar), b14, none, none, none, some z]) (by rw [List.length_map]; exact Nat.le_trans (places_len k) (by decide)) (fun a z H' Q _ _ q => q) (fun _ _ => rfl)
            (fun φ z H' hφ e7 hz => bE_of fun s H0 C cl fp => e_eqNil hr.units (e_call G.low (hr.mono (by decide)) (a_cons (vX (r := rC K) 18 hz) (a_cons (vI 13) (a_cons e_int a_nil))) ⟨φ, ar, 1, rfl, by omega, .inr rfl, by
              obtain ⟨j, _, rfl⟩ := List.mem_map.mp hφ
              exact lowA_box (pick_box hnb j), rfl⟩))))) (fun v7 H7 e7 h7 => ?_)
        rw [hdu] at h7
        have hin := told_in k hp (p := sd) (q := ar) (by omega) (by omega)
        generalize hdd : dueB k (numL (joinL (backL u) v)) sd.toNat ar.toNat = due at h7 hin
        obtain rfl : v7 = .bl due := h7
        refine s_when (d := false) (t_is (t_neB (e_inF G.oin (hr.mono (by decide)) (e_t2 (vI 11) (vI 13)) (vX (r := rF K CF) 7 ((rF K CF).mono (e6.trans e7) hBj.td)) hsh.1 hsh.2) (e_v (i := 14) (m := kB.is due) rfl rfl)) (by rw [hin]; cases due <;> rfl)) (fun hb => absurd hb (by decide)) (fun _ H8 e8 => ?_)
        have e68 := (e6.trans e7).trans e8
        have htb8 := e68 _ _ (hoj.ex _ _ htbs)
        refine s_appO (b := due) (q := fun v _ => v = .bl due) (hoj.mono e68) (e_ixV (x := .ref ro) (e_nm (i := 10) rfl) htb8 (e_neg e_int) (at_last (by simp))) (e_v (i := 14) (m := kB.is due) rfl rfl) (fun v H' _ h => h) (by omega) fun H9 h9 => ?_
        refine s_nil (s_nil ⟨_, _, _, rfl, h9, by simp; omega, fun hw => ?_⟩)
        have hjt : (iota 3 (l1 u v + 1).toNat)[j]? = some ar := by
          rw [show (l1 u v + 4 - 3).toNat = (l1 u v + 1).toNat by omega] at hj; exact hj
        rw [List.take_add_one, hjt, List.map_append, ← hbw hw]
        show bs ++ [due] = bs ++ [dueB k (numL (joinL (backL u) v)) sd.toNat ar.toNat]
        rw [hdd]
      · refine s_nil ⟨_, _, bs, rfl, hoj.mono e6, by omega, fun hw => ?_⟩
        rw [hw] at hc
        cases hc
    · rintro σ' H' ⟨b13, b14, bs, rfl, hoj, hbl, hbw⟩
      refine s_nil ⟨_, _, _, _, rows ++ [bs], rfl, ol_next ho3 hxt e4 hro hoj, by simp [hrl], fun hw => ?_⟩
      have hit : (iota 3 (l0 u v + 1).toNat)[i]? = some sd := by
        rw [show (l0 u v + 4 - 3).toNat = (l0 u v + 1).toNat by omega] at hi; exact hi
      rw [List.take_add_one, hit, List.map_append, ← hrw hw]
      have e1 : (iota 3 (l1 u v + 4 - 3).toNat).length = (l1 u v + 1).toNat := by rw [iota_len]; omega
      have hb := hbw hw
      rw [e1, List.take_of_length_le (by rw [iota_len]; exact Nat.le_refl _)] at hb
      show rows ++ [bs] = rows ++ [rowP k (numL (joinL (backL u) v)) (l1 u v + 3).toNat sd]
      unfold rowP
      rw [hb, show (l1 u v + 3).toNat - 2 = (l1 u v + 1).toNat by omega]
  · rintro σ' H' ⟨b11, b12, b13, b14, rows, rfl, ho, hrl, hrw⟩
    have e1 : (iota 3 (l0 u v + 4 - 3).toNat).length = (l0 u v + 1).toNat := by rw [iota_len]; omega
    rw [e1] at hrl hrw
    rw [List.take_of_length_le (by rw [iota_len]; exact Nat.le_refl _)] at hrw
    have hBe := hBf.mono ho.ex
    refine s_when (d := false) (t_is (t_and (c := !wd) (d := false) (t_not (t_val (e_v (i := 9) (m := kB.is wd) rfl rfl))) (fun hw => ?_)) (by simp)) (fun hb => absurd hb (by decide)) (fun _ H2 e2 => ?_)
    · have hw : wd = false := by cases wd with | true => cases hw | false => rfl
      have hrows : rows = tab k (numL (joinL (backL u) v)) (l0 u v + 3).toNat (l1 u v + 3).toNat := by
        rw [hrw hw]; unfold tab
        rw [show (l0 u v + 3).toNat - 2 = (l0 u v + 1).toNat by omega]
      refine t_is (t_neTT hr.units (e_rows G.WF (vX (r := rF K CF) 7 hBe.td)) (e_call G.least (hr.mono (by decide)) (a_cons (vX (r := kL (kL kB)) (v := .ref tb) 10 ho.list) a_nil) ⟨rows, (l1 u v + 1).toNat, rfl, fun z => by rw [z] at hrl; simp at hrl; omega, fun r hr' => ?_, by omega, by omega, by omega, rfl⟩)) ?_
      · rw [hrw hw] at hr'
        obtain ⟨q, _, rfl⟩ := List.mem_map.mp hr'
        unfold rowP; rw [List.length_map, iota_len]; omega
      · rw [hrows, told_least k hp, decide_eq_true rfl]; rfl
    · exact law_end G hr hD hk hp (pl_ex hpl (ho.ex.trans e2)) (hB.mono (pl_hd hpl (ho.ex.trans e2)))
end
end Wf
/-! L16: the law, the def. -/
namespace Wf
open PySem PySem.Spec PyProof.Rows L2 Wp
section
variable {P : Program} {w : World} {K : PySem.W.Frag} {mg : Str → Option Value} {base : Heap} {f : Addr} {fd : FuncData} {C CF : Addr}
variable {cdv : Value} {A : Around} {outer : List Env} {s : Shared} {H0 : Hp} {E : XK}
set_option maxHeartbeats 1000000 in
theorem law_run (G : LawC P w K mg base C CF) (hr : Room 8 (A.deeper (envOfC "law" (defScope (top 82)) s.heap.objs.size f cdv))) {D : Ends} (hD : ∀ H', D.rt (.bl true) H') {k : Nat} (hk : k < 4) {u v ns : List Int} (hp : PairP u v) {vs vp : V} {pl : Bool} {H : Hp} {p : Addr} (hpl : PlAt H p) (hsq : (kSq K).R (hd H p) vs ns) (hpr : kPr.R (hd H p) vp (u, v)) :
    wS (XL P w K mg base f cdv A outer s H0 E) ((defBody (top 82)).drop 5) D [some vs, some (.ref p), some (.int (k : Int)), some vp, some (.bl pl), none, none, none, none, none, none, none, none, none, none, none, none, none, none] H := by
  have lu := hp.lu
  have lv := hp.lv
  have tt := hp.tt
  have h2 := hp.two
  have h2' := hp.swap.two
  have lj := joinL_len (backL_ne hp.hu) hp.hv
  rw [backL_len] at lj
  have tj := tot_join (backL u) v
  rw [tot_back] at tj
  have hl := l_ok hp
  -- the number
  refine s_setQ (i := 5) sc82.nd hpl (EvP.toQ (e_call G.num (hr.mono (by decide)) (a_cons (e_call G.join (hr.mono (by decide)) (a_cons (e_call G.back (hr.mono (by decide)) (a_cons (e_pr0 (i := .Name "x" ⟨0, 0, 0, 0⟩) (uw := (u, v)) (vX (r := kPr) 3 hpr) e_int) a_nil) ⟨u, rfl, by omega, rfl⟩) (a_cons (e_pr1 (i := .Name "x" ⟨0, 0, 0, 0⟩) (uw := (u, v)) (vX (r := kPr) 3 hpr) e_int) a_nil)) ⟨backL u, v, rfl, backL_ne hp.hu, hp.hv, by rw [backL_len]; omega, rfl⟩) a_nil) ⟨_, rfl, joinL_ne, by omega, by omega, rfl⟩)) (fun vn H1 e1 hp1 hn => ?_)
  -- the places
  refine s_setQ (i := 6) sc82.nd hp1 (EvP.toQ (e_ixL (r := kL kI) (as := [[1, 2, 3], [2, 3], [1, 3], [1, 2]]) (a0 := placesL k) (i := (k : Int)) (EvN.evp (n_lst (r := kL kI) (a_cons (EvN.evp (n_lst (r := kI) (as := [1, 2, 3]) (a_cons e_int (a_cons e_int (a_cons e_int a_nil))) (by decide))) (a_cons (EvN.evp (n_lst (r := kI) (as := [2, 3]) (a_cons e_int (a_cons e_int a_nil)) (by decide))) (a_cons (EvN.evp (n_lst (r := kI) (as := [1, 3]) (a_cons e_int (a_cons e_int a_nil)) (by decide))) (a_cons (EvN.evp (n_lst (r := kI) (as := [1, 2]) (a_cons e_int (a_cons e_int a_nil)) (by decide))) a_nil)))) (by decide))) (vI 2) (atI_nat (by
    have : k = 0 ∨ k = 1 ∨ k = 2 ∨ k = 3 := by omega
    rcases this with rfl | rfl | rfl | rfl <;> rfl)))) (fun vpl H2 e2 hp2 hpll => ?_)
  have pr2 := kPr.mono (e1.trans e2) hpr
  -- what where tells
  refine s_setQ (i := 7) (q := ((rF K CF).is (told k u v)).P) sc82.nd hp2 (EvP.toQ (e_call G.wher (hr.mono (by decide)) (a_cons (e_call G.kind (hr.mono (by decide)) (a_cons (vI 2) a_nil) ⟨k, rfl, hk, rfl⟩) (a_cons (e_walk (ts := u) G.walk (hr.mono (by decide)) (.inl (e_pr0 (i := .Name "x" ⟨0, 0, 0, 0⟩) (uw := (u, v)) (vX (r := kPr) 3 pr2) e_int)) (by omega)) (a_cons (e_walk (ts := v) G.walk (hr.mono (by decide)) (.inl (e_pr1 (i := .Name "x" ⟨0, 0, 0, 0⟩) (uw := (u, v)) (vX (r := kPr) 3 pr2) e_int)) (by omega)) a_nil))) ⟨k, u, v, rfl, hk, h2, rfl⟩)) (fun vt H3 e3 hp3 htd => ?_)
  have pr3 := kPr.mono e3 pr2
  refine s_whenQ hp3 (EvT.toQ (t_is (t_or (c := false) (d := false) (t_is (t_not (t_val (e_isC (q := ((rF K CF).is (told k u v)).P) G.WF.ic G.T.isinstance G.hF (vX (r := rF K CF) 7 htd) (fun v H' _ ⟨p, dx, t, h1, h2, _⟩ => ⟨p, dx, _, h1, h2⟩)))) rfl)
    (fun _ => t_is (t_not (t_eqF G.oeq (hr.mono (by decide)) G.WF (vX (r := rF K CF) 7 htd) (e_call (m := (rF K CF).is (told k v u)) G.wher (hr.mono (by decide)) (a_cons (e_call G.kind (hr.mono (by decide)) (a_cons (vI 2) a_nil) ⟨k, rfl, hk, rfl⟩) (a_cons (e_walk (ts := v) G.walk (hr.mono (by decide)) (.inl (e_pr1 (i := .Name "x" ⟨0, 0, 0, 0⟩) (uw := (u, v)) (vX (r := kPr) 3 pr3) e_int)) (by omega)) (a_cons (e_walk (ts := u) G.walk (hr.mono (by decide)) (.inl (e_pr0 (i := .Name "x" ⟨0, 0, 0, 0⟩) (uw := (u, v)) (vX (r := kPr) 3 pr3) e_int)) (by omega)) a_nil))) ⟨k, v, u, rfl, hk, h2', rfl⟩))) (by rw [told_swap k hp, decide_eq_true rfl]; rfl))) (d := false) rfl)) (fun hb => absurd hb (by decide)) (fun _ H4 e4 hp4 => ?_)
  have pr4 := kPr.mono e4 pr3
  -- lengths
  refine s_setQ (i := 8) (q := ((kL kI).is [l0 u v, l1 u v]).P) sc82.nd hp4 (EvP.toQ (e_call G.len (hr.mono (by decide)) (a_cons (e_pr0 (i := .Name "x" ⟨0, 0, 0, 0⟩) (uw := (u, v)) (vX (r := kPr) 3 pr4) e_int) (a_cons (e_pr1 (i := .Name "x" ⟨0, 0, 0, 0⟩) (uw := (u, v)) (vX (r := kPr) 3 pr4) e_int) a_nil)) ⟨u, v, rfl, hp.hu, hp.hv, by omega, rfl⟩)) (fun vl H5 e5 hp5 hln => ?_)
  -- wide
  refine s_setQ (i := 9) sc82.nd hp5 (EvP.toQ (e_and (e_gt (e_mul (e_ixL (r := kI) (a0 := l0 u v) (vX (r := kL kI) 8 hln) e_int rfl) (e_ixL (r := kI) (a0 := l1 u v) (vX (r := kL kI) 8 hln) e_int rfl) (.inl (by omega))) e_int) (fun _ => e_not (e_v (i := 4) (m := kB.is pl) rfl rfl)))) (fun vw H6 e6 hp6 hw => ?_)
  generalize (decide (24 < l0 u v * l1 u v) && !pl) = wd at hw
  obtain rfl : vw = .bl wd := hw
  have e36 := (e4.trans e5).trans e6
  exact law_mid G hr hD hk hp hp6 ⟨(kSq K).mono ((((e1.trans e2).trans e3).trans e36)) hsq, kPr.mono (e5.trans e6) pr4, (rNl K).mono ((e2.trans e3).trans e36) hn, (kL kI).mono (e3.trans e36) hpll, (rF K CF).mono e36 htd, (kL kI).mono e6 hln⟩
theorem ok_law (F : Fun K "law" "law" (top 82) f fd) (G : LawC P w K mg base C CF) : FnOk P w K mg base CX0 9 f fd ["_law_script"] (spLaw K) := by
  refine F.ok sc82 (fun vs H Q E ⟨_, _, h, _⟩ => by rw [h]; rfl) (fun cdv A outer s H vs Q E hr hs => ⟨_, pS, ?_⟩)
  obtain ⟨a, ns, rfl, hsq, hl, hQ⟩ := hs
  have hsq0 : (kSq K).R H (.ref a) ns := ⟨a, rfl, hsq⟩
  refine s_setW (i := 1) sc82.nd (w_call G.pool (hr.mono (by decide)) (wA.of (pa_cons pE pa_nil) ?_))
  refine EvP.use (e_call G.cell (hr.mono (by decide)) (a_cons (vX (r := kSq K) 0 hsq0) (a_cons (m := kI.is 0) e_int a_nil)) ⟨ns, rfl, rfl⟩) fun z H1 e1 hz => ?_
  obtain rfl : z = .int (ns.getD 0 0) := hz
  refine ⟨_, rfl, fun p H2 e2 hn hp2 => ?_⟩
  have sq2 := (kSq K).mono (e1.trans e2) hsq0
  refine s_setQ (i := 2) sc82.nd hp2 (q_take (i := 1) G.take (hr.mono (by decide)) rfl e_int (by decide) (by decide)) (fun v3 H3 e3 hp3 ⟨kz, hv3, hk1, hk2⟩ => ?_)
  obtain rfl : v3 = .int kz := hv3
  obtain ⟨k, rfl⟩ : ∃ k : Nat, kz = (k : Int) := ⟨kz.toNat, by omega⟩
  refine s_setQ (i := 3) sc82.nd hp3 (q_call (m := mOf kPr PPr) G.pair (hr.mono (by decide)) (qa_cons (m := mRef p) (q_name (i := 1) rfl) qa_nil) ⟨rfl, rfl⟩) (fun vp H4 e4 hp4 ⟨uv, hpr, hP⟩ => ?_)
  refine s_setQ (i := 4) sc82.nd hp4 (q_eq (Pb := fun _ => True) (q_take (i := 1) G.take (hr.mono (by decide)) rfl e_int (by decide) (by decide)) (EvP.qi e_int trivial)) (fun vb H5 e5 hp5 ⟨b, hvb, _⟩ => ?_)
  obtain rfl : vb = .bl b := hvb
  have e25 := (e3.trans e4).trans e5
  refine s_whenQ hp5 (EvT.toQ (t_val (e_v (i := 4) (m := kB.is b) rfl rfl))) (fun _ H6 e6 hp6 => ?_) (fun _ H6 e6 hp6 => ?_)
  · refine s_unpQ2 (q := fun x y H' => ∃ a : Nat × List Int × List Int, x = .int (a.1 : Int) ∧ kPr.R H' y a.2 ∧ a.1 < 4 ∧ PPr a.2) rfl hp6 ((q_call (m := mOf kKP fun a => a.1 < 4 ∧ PPr a.2) G.plan (hr.mono (by decide)) (qa_cons (m := mRef p) (q_name (i := 1) rfl) qa_nil) ⟨rfl, rfl⟩).imp fun v H' ⟨a, ⟨l, y, h1, h2, h3⟩, h4, h5⟩ => ⟨l, _, y, h1, h2, a, rfl, h3, h4, h5⟩) (pgs2 (i := 2) (j := 3) sc82.nd) (fun x y H7 e7 hp7 ⟨a, hx, hy, hk4, hPP⟩ => g2 (s_nil ?_))
    subst hx
    exact law_run G hr (fun H' => hQ H') hk4 hPP hp7 ((kSq K).mono ((e25.trans e6).trans e7) sq2) hy
  · exact law_run G hr (fun H' => hQ H') (by omega) hP hp6 ((kSq K).mono (e25.trans e6) sq2) (kPr.mono (e5.trans e6) hpr)
end
end Wf
/-! E1: what the top has written; all contracts together. -/
namespace Wf
open PySem PySem.Spec PyProof.Rows L2 Wp
structure GF (K : PySem.W.Frag) (x : Str) (st : Stmt) : Prop where
  ok : ∃ f fd, Fun K x x st f fd ∧ PySem.W.nsIn K mainGlobals x = some (some (.ref f))
theorem gf_mk {K : PySem.W.Frag} {x : Str} {st : Stmt} {f : Addr} {oc : Value} {od an : Option Addr} {osl : Array (Option Value)} {kV doc pm cdv ct : Value} (a : PySem.W.nsIn K mainGlobals x = some (some (.ref f)))
    (l : K.lookup f = some ⟨oc, od, .func (PySem.W.fnOf x x (defArgs st) (defBody st) (defScope st) .none kV doc pm an cdv ct), osl⟩) (c : PySem.W.codeIn K cdv x = true) (k : PySem.W.keepIn K (.ref f) = true) : GF K x st := ⟨f, _, fun_mk l c k, a⟩
structure MF (K : PySem.W.Frag) (C : Addr) (m qual : Str) (st : Stmt) : Prop where
  ok : ∃ f fd, Fun K m qual st f fd ∧ PySem.W.findIn K (.ref C) m = some (some (.ref f)) ∧ PySem.W.isFn K (.ref f) = true
theorem mf_mk {K : PySem.W.Frag} {C : Addr} {m qual : Str} {st : Stmt} {f : Addr} {oc : Value} {od an : Option Addr} {osl : Array (Option Value)} {kV doc pm cdv ct : Value} (a : PySem.W.findIn K (.ref C) m = some (some (.ref f))) (i : PySem.W.isFn K (.ref f) = true)
    (l : K.lookup f = some ⟨oc, od, .func (PySem.W.fnOf m qual (defArgs st) (defBody st) (defScope st) .none kV doc pm an cdv ct), osl⟩) (c : PySem.W.codeIn K cdv qual = true) (k : PySem.W.keepIn K (.ref f) = true) : MF K C m qual st := ⟨f, _, fun_mk l c k, a, i⟩
/-- a tuple of the top, its items -/
structure TpK (K : PySem.W.Frag) (a : Addr) (xs : List V) : Prop where
  ok : ∃ (o : Obj) (its : Array Value) (n : Nat), K.lookup a = some o ∧ o.cls = .type "tuple" ∧ o.data = .seq its n ∧ its.size ≤ sizeLine ∧ Vals xs its.toList
theorem TpK.t {K : PySem.W.Frag} {a : Addr} {xs : List V} (h : TpK K a xs) (H : Hp) : SqT K H a xs := .inr h.ok
theorem tp_mk {K : PySem.W.Frag} {a : Addr} {xs : List V} {o : Obj} {its : Array Value} {n : Nat} (l : K.lookup a = some o) (c : o.cls = .type "tuple") (d : o.data = .seq its n) (z : its.size ≤ sizeLine) (v : Vals xs its.toList) : TpK K a xs := ⟨o, its, n, l, c, d, z, v⟩
/-- ((i, j, c),) -/
structure TmK (K : PySem.W.Frag) (x : Str) (i j c : Int) : Prop where
  ok : ∃ a b, PySem.W.nsIn K mainGlobals x = some (some (.ref a)) ∧ TpK K a [.ref b] ∧ TpK K b [.int i, .int j, .int c]
theorem kit_self (K : PySem.W.Frag) (C : Addr) : PySem.W.kitOne K (.ref C) (.ref C) = some true := by
  unfold PySem.W.kitOne
  rw [if_pos]
  show (Value.ref C == Value.ref C) = true
  exact beq_self_eq_true _
theorem txtW_mk {K : PySem.W.Frag} {C : Addr} (pg : PySem.W.plainGet K C Str.empty = true) (hd : PySem.W.hasDictIn K C = true) (po : PySem.W.plainOver K C = true) (sa : PySem.W.findIn K (.ref C) "__setattr__" = some (some (.builtin "object.__setattr__")))
    (nt : PySem.W.findIn K (.ref C) "turns" = some none) (ng : PySem.W.findIn K (.ref C) "goes" = some none) (ns : PySem.W.findIn K (.ref C) "size" = some none) (sf : PySem.W.selfFirst K C = true) : TxtW K C := ⟨⟨pg, hd, po, sa⟩, nt, ng, ns, sf⟩
theorem txtF_mk {K : PySem.W.Frag} {C : Addr} (pg : PySem.W.plainGet K C Str.empty = true) (hd : PySem.W.hasDictIn K C = true) (po : PySem.W.plainOver K C = true) (sa : PySem.W.findIn K (.ref C) "__setattr__" = some (some (.builtin "object.__setattr__")))
    (nr : PySem.W.findIn K (.ref C) "rows" = some none) (ha : PySem.W.findIn K (.ref C) "__class__" = some (some (.builtin "object.__class__"))) (hn : PySem.W.specialIn K (.builtin "object.__class__") "__get__" = some (some (.builtin "getset_descriptor.__get__")))
    (htk : PySem.W.takesIn K (.builtin "object.__class__") = some true) (hm : PySem.W.mroIn K C (.type "object") = some true) (nf : PySem.W.notFirst K C (.ref C) = true) : TxtF K C := ⟨⟨pg, hd, po, sa⟩, nr, ⟨⟨pg, hd, po, sa⟩, ha, hn, htk, hm, kit_self K C⟩, nf⟩
theorem tm_mk {K : PySem.W.Frag} {x : Str} {i j c : Int} {a b : Addr} (h : PySem.W.nsIn K mainGlobals x = some (some (.ref a))) (t : TpK K a [.ref b]) (u : TpK K b [.int i, .int j, .int c]) : TmK K x i j c := ⟨a, b, h, t, u⟩
theorem in_mk {K : PySem.W.Frag} {x : Str} {i : Int} {t : Tok} (h : PySem.W.nsIn K mainGlobals x = some (some (.int i t))) : ∃ t, PySem.W.nsIn K mainGlobals x = some (some (.int i t)) := ⟨t, h⟩
/-- a dict of the top by text keys -/
structure DcK (w : World) (K : PySem.W.Frag) (a : Addr) (ks : List Str) : Prop where
  ok : ∃ es n, K.lookup a = some ⟨.type "dict", none, .dict es n, #[]⟩ ∧ es.toList.map He.keyOf = He.keysIn w.params ks
theorem dc_mk {w : World} {K : PySem.W.Frag} {a : Addr} {ks : List Str} {es : Array DictEntry} {n : Nat} (l : K.lookup a = some ⟨.type "dict", none, .dict es n, #[]⟩) (k : es.toList.map He.keyOf = He.keysIn w.params ks) : DcK w K a ks := ⟨es, n, l, k⟩
structure PtK (w : World) (K : PySem.W.Frag) : Prop where
  ok : ∃ a t0 t1 t2 t3, PySem.W.nsIn K mainGlobals "PARTS" = some (some (.ref a)) ∧ DcK w K a ["arrow", "corner", "edge", "room"] ∧
    (PySem.W.nsIn K a "arrow" = some (some (.ref t0)) ∧ TpK K t0 [.int 1, .int 2, .int 3]) ∧ (PySem.W.nsIn K a "corner" = some (some (.ref t1)) ∧ TpK K t1 [.int 2, .int 3]) ∧
    (PySem.W.nsIn K a "edge" = some (some (.ref t2)) ∧ TpK K t2 [.int 1, .int 3]) ∧ (PySem.W.nsIn K a "room" = some (some (.ref t3)) ∧ TpK K t3 [.int 1, .int 2])
structure Fx (w : World) (K : PySem.W.Frag) (C CF : Addr) : Prop where
  g9 : GF K "columns_of" (top 9)
  g10 : GF K "without_copies" (top 10)
  g11 : GF K "least_table" (top 11)
  g16 : GF K "collected" (top 16)
  g17 : GF K "plus" (top 17)
  g18 : GF K "minus" (top 18)
  g19 : GF K "times" (top 19)
  g20 : GF K "step" (top 20)
  g21 : GF K "rows_of" (top 21)
  g22 : GF K "terms_of" (top 22)
  g23 : GF K "swapped" (top 23)
  g24 : GF K "divided_in_x" (top 24)
  g25 : GF K "divided" (top 25)
  g29 : GF K "one" (top 29)
  g30 : GF K "negated" (top 30)
  g31 : GF K "turned_left" (top 31)
  g32 : GF K "turned_right" (top 32)
  g33 : GF K "turned" (top 33)
  g34 : GF K "gone" (top 34)
  g37 : GF K "number_of" (top 37)
  g43 : GF K "joined" (top 43)
  g44 : GF K "needed" (top 44)
  g45 : GF K "parts_of" (top 45)
  g46 : GF K "where" (top 46)
  g47 : GF K "checked_floor" (top 47)
  g48 : GF K "same" (top 48)
  g50 : GF K "_law_pool" (top 50)
  g51 : GF K "_law_take" (top 51)
  g52 : GF K "_law_cell" (top 52)
  g53 : GF K "_law_terms" (top 53)
  g54 : GF K "_law_sums" (top 54)
  g55 : GF K "_law_plus" (top 55)
  g56 : GF K "_law_times" (top 56)
  g57 : GF K "_law_negative" (top 57)
  g58 : GF K "_law_step" (top 58)
  g61 : GF K "_law_left" (top 61)
  g62 : GF K "_law_right" (top 62)
  g63 : GF K "_law_turned" (top 63)
  g64 : GF K "_law_gone" (top 64)
  g65 : GF K "_law_number" (top 65)
  g66 : GF K "_law_random" (top 66)
  g67 : GF K "_law_joined" (top 67)
  g68 : GF K "_law_back" (top 68)
  g69 : GF K "_law_copies" (top 69)
  g70 : GF K "_law_loop" (top 70)
  g71 : GF K "_law_tail" (top 71)
  g72 : GF K "_law_pair" (top 72)
  g73 : GF K "_law_lowered" (top 73)
  g74 : GF K "_law_rest" (top 74)
  g76 : GF K "_law_kind" (top 76)
  g77 : GF K "_law_size" (top 77)
  g78 : GF K "_law_lengths" (top 78)
  g79 : GF K "_law_planned" (top 79)
  g80 : GF K "_law_least" (top 80)
  g81 : GF K "_law_behind" (top 81)
  g82 : GF K "law" (top 82)
  w0 : MF K C "__init__" "Walk.__init__" (inWalk 0)
  w5 : MF K C "__add__" "Walk.__add__" (inWalk 5)
  w6 : MF K C "__neg__" "Walk.__neg__" (inWalk 6)
  w9 : MF K C "reduced" "Walk.reduced" (inWalk 9)
  f0 : MF K CF "__init__" "Floors.__init__" (inFl 0)
  f4 : MF K CF "__contains__" "Floors.__contains__" (inFl 4)
  f5 : MF K CF "__eq__" "Floors.__eq__" (inFl 5)
  aW : PySem.W.nsIn K mainGlobals "Walk" = some (some (.ref C))
  aF : PySem.W.nsIn K mainGlobals "Floors" = some (some (.ref CF))
  W : TxtW K C
  WF : TxtF K CF
  mkW : PySem.W.makesIn K C = true
  kcW : PySem.W.keepIn K (.ref C) = true
  mkF : PySem.W.makesIn K CF = true
  kcF : PySem.W.keepIn K (.ref CF) = true
  z_len : PySem.W.nsIn K mainGlobals "len" = some none
  z_abs : PySem.W.nsIn K mainGlobals "abs" = some none
  z_sum : PySem.W.nsIn K mainGlobals "sum" = some none
  z_all : PySem.W.nsIn K mainGlobals "all" = some none
  z_max : PySem.W.nsIn K mainGlobals "max" = some none
  z_min : PySem.W.nsIn K mainGlobals "min" = some none
  z_list : PySem.W.nsIn K mainGlobals "list" = some none
  z_tuple : PySem.W.nsIn K mainGlobals "tuple" = some none
  z_range : PySem.W.nsIn K mainGlobals "range" = some none
  z_enumerate : PySem.W.nsIn K mainGlobals "enumerate" = some none
  z_reversed : PySem.W.nsIn K mainGlobals "reversed" = some none
  z_sorted : PySem.W.nsIn K mainGlobals "sorted" = some none
  z_dict : PySem.W.nsIn K mainGlobals "dict" = some none
  z_int : PySem.W.nsIn K mainGlobals "int" = some none
  z_isinstance : PySem.W.nsIn K mainGlobals "isinstance" = some none
  cX : TmK K "X" 1 0 1
  cY : TmK K "Y" 0 1 1
  kinds : ∃ a, PySem.W.nsIn K mainGlobals "KINDS" = some (some (.ref a)) ∧ TpK K a [.str "arrow", .str "corner", .str "edge", .str "room"]
  parts : PtK w K
  goes : ∃ t, PySem.W.nsIn K mainGlobals "MOST_GOES" = some (some (.int 8 t))
  size : ∃ t, PySem.W.nsIn K mainGlobals "MOST_SIZE" = some (some (.int 12 t))
  first : ∃ t, PySem.W.nsIn K mainGlobals "FIRST" = some (some (.int 3 t))
section
variable {P : Program} {w : World} {K : PySem.W.Frag} {h : Heap} {mg : Str → Option Value} {base : Heap} {C CF : Addr}
theorem tm_ok {x : Str} {i j c : Int} (X : K.In h) (G : h.Ns mainGlobals mg) (t : TmK K x i j c) : ∃ a, mg x = some (.ref a) ∧ ∀ H, (kT K (kT3 K)).R H (.ref a) [(i, j, c)] := by
  obtain ⟨a, b, h1, h2, h3⟩ := t.ok
  exact ⟨a, PySem.W.mg_of X G h1, fun H => ⟨a, _, rfl, h2.t H, .cons ⟨b, rfl, h3.t H⟩ .nil⟩⟩
theorem Fx.txt (X : K.In h) (G : h.Ns mainGlobals mg) (F : Fx w K C CF) : Txt K mg :=
  ⟨PySem.W.mg_none_of X G F.z_len, PySem.W.mg_none_of X G F.z_abs, PySem.W.mg_none_of X G F.z_sum, PySem.W.mg_none_of X G F.z_all, PySem.W.mg_none_of X G F.z_max, PySem.W.mg_none_of X G F.z_min, PySem.W.mg_none_of X G F.z_list, PySem.W.mg_none_of X G F.z_tuple, PySem.W.mg_none_of X G F.z_range, PySem.W.mg_none_of X G F.z_enumerate, PySem.W.mg_none_of X G F.z_reversed, PySem.W.mg_none_of X G F.z_sorted, PySem.W.mg_none_of X G F.z_dict, PySem.W.mg_none_of X G F.z_int, PySem.W.mg_none_of X G F.z_isinstance, tm_ok X G F.cX, tm_ok X G F.cY⟩
theorem Fx.txtS (X : K.In h) (G : h.Ns mainGlobals mg) (F : Fx w K C CF) : TxtS w K mg := by
  refine ⟨?_, ?_, ?_, ?_, ?_⟩
  · obtain ⟨a, h1, h2⟩ := F.kinds
    exact ⟨a, PySem.W.mg_of X G h1, h2.t⟩
  · obtain ⟨a, t0, t1, t2, t3, h1, h2, ⟨a0, b0⟩, ⟨a1, b1⟩, ⟨a2, b2⟩, a3, b3⟩ := F.parts.ok
    obtain ⟨es, n, l, hk⟩ := h2.ok
    have kl := He.keysLit_of hk
    refine ⟨a, PySem.W.mg_of X G h1, fun k hk4 => ?_⟩
    have : k = 0 ∨ k = 1 ∨ k = 2 ∨ k = 3 := by omega
    rcases this with rfl | rfl | rfl | rfl
    · exact ⟨t0, ⟨es, n, _, l, kl, a0, rfl⟩, b0.t⟩
    · exact ⟨t1, ⟨es, n, _, l, kl, a1, rfl⟩, b1.t⟩
    · exact ⟨t2, ⟨es, n, _, l, kl, a2, rfl⟩, b2.t⟩
    · exact ⟨t3, ⟨es, n, _, l, kl, a3, rfl⟩, b3.t⟩
  · obtain ⟨t, e⟩ := F.goes; exact ⟨t, PySem.W.mg_of X G e⟩
  · obtain ⟨t, e⟩ := F.size; exact ⟨t, PySem.W.mg_of X G e⟩
  · obtain ⟨t, e⟩ := F.first; exact ⟨t, PySem.W.mg_of X G e⟩
set_option maxHeartbeats 2000000 in
theorem Fx.law (X : K.In h) (G : h.Ns mainGlobals mg) (F : Fx w K C CF) : LawC P w K mg base C CF := by
  have T := F.txt X G
  have S := F.txtS X G
  have hW := PySem.W.mg_of X G F.aW
  have hF := PySem.W.mg_of X G F.aF
  obtain ⟨f9, fd9, F9, a9⟩ := F.g9.ok
  have m9 := PySem.W.mg_of X G a9
  have b9 := F9.binds (ps := ["rows"]) fun _ _ _ _ _ _ us hl => match us, hl with | [_], _ => rfl
  obtain ⟨f10, fd10, F10, a10⟩ := F.g10.ok
  have m10 := PySem.W.mg_of X G a10
  have b10 := F10.binds (ps := ["rows"]) fun _ _ _ _ _ _ us hl => match us, hl with | [_], _ => rfl
  obtain ⟨f11, fd11, F11, a11⟩ := F.g11.ok
  have m11 := PySem.W.mg_of X G a11
  have b11 := F11.binds (ps := ["rows"]) fun _ _ _ _ _ _ us hl => match us, hl with | [_], _ => rfl
  obtain ⟨f16, fd16, F16, a16⟩ := F.g16.ok
  have m16 := PySem.W.mg_of X G a16
  have b16 := F16.binds (ps := ["terms"]) fun _ _ _ _ _ _ us hl => match us, hl with | [_], _ => rfl
  obtain ⟨f17, fd17, F17, a17⟩ := F.g17.ok
  have m17 := PySem.W.mg_of X G a17
  have b17 := F17.binds (ps := ["f", "g"]) fun _ _ _ _ _ _ us hl => match us, hl with | [_, _], _ => rfl
  obtain ⟨f18, fd18, F18, a18⟩ := F.g18.ok
  have m18 := PySem.W.mg_of X G a18
  have b18 := F18.binds (ps := ["f", "g"]) fun _ _ _ _ _ _ us hl => match us, hl with | [_, _], _ => rfl
  obtain ⟨f19, fd19, F19, a19⟩ := F.g19.ok
  have m19 := PySem.W.mg_of X G a19
  have b19 := F19.binds (ps := ["f", "g"]) fun _ _ _ _ _ _ us hl => match us, hl with | [_, _], _ => rfl
  obtain ⟨f20, fd20, F20, a20⟩ := F.g20.ok
  have m20 := PySem.W.mg_of X G a20
  have b20 := F20.binds (ps := ["k"]) fun _ _ _ _ _ _ us hl => match us, hl with | [_], _ => rfl
  obtain ⟨f21, fd21, F21, a21⟩ := F.g21.ok
  have m21 := PySem.W.mg_of X G a21
  have b21 := F21.binds (ps := ["f"]) fun _ _ _ _ _ _ us hl => match us, hl with | [_], _ => rfl
  obtain ⟨f22, fd22, F22, a22⟩ := F.g22.ok
  have m22 := PySem.W.mg_of X G a22
  have b22 := F22.binds (ps := ["rows"]) fun _ _ _ _ _ _ us hl => match us, hl with | [_], _ => rfl
  obtain ⟨f23, fd23, F23, a23⟩ := F.g23.ok
  have m23 := PySem.W.mg_of X G a23
  have b23 := F23.binds (ps := ["f"]) fun _ _ _ _ _ _ us hl => match us, hl with | [_], _ => rfl
  obtain ⟨f24, fd24, F24, a24⟩ := F.g24.ok
  have m24 := PySem.W.mg_of X G a24
  have b24 := F24.binds (ps := ["f", "p"]) fun _ _ _ _ _ _ us hl => match us, hl with | [_, _], _ => rfl
  obtain ⟨f25, fd25, F25, a25⟩ := F.g25.ok
  have m25 := PySem.W.mg_of X G a25
  have b25 := kbn_of (ps := ["f", "p", "q"]) (n := 1) (ks := ["p", "q"]) F25 fun _ _ _ _ _ _ us ws h1 h2 => match us, h1, ws, h2 with | [_], _, [_, _], _ => rfl
  obtain ⟨f29, fd29, F29, a29⟩ := F.g29.ok
  have m29 := PySem.W.mg_of X G a29
  have b29 := F29.binds (ps := []) fun _ _ _ _ _ _ us hl => match us, hl with | [], _ => rfl
  obtain ⟨f30, fd30, F30, a30⟩ := F.g30.ok
  have m30 := PySem.W.mg_of X G a30
  have b30 := F30.binds (ps := ["f"]) fun _ _ _ _ _ _ us hl => match us, hl with | [_], _ => rfl
  obtain ⟨f31, fd31, F31, a31⟩ := F.g31.ok
  have m31 := PySem.W.mg_of X G a31
  have b31 := F31.binds (ps := ["number"]) fun _ _ _ _ _ _ us hl => match us, hl with | [_], _ => rfl
  obtain ⟨f32, fd32, F32, a32⟩ := F.g32.ok
  have m32 := PySem.W.mg_of X G a32
  have b32 := F32.binds (ps := ["number"]) fun _ _ _ _ _ _ us hl => match us, hl with | [_], _ => rfl
  obtain ⟨f33, fd33, F33, a33⟩ := F.g33.ok
  have m33 := PySem.W.mg_of X G a33
  have b33 := F33.binds (ps := ["number", "k"]) fun _ _ _ _ _ _ us hl => match us, hl with | [_, _], _ => rfl
  obtain ⟨f34, fd34, F34, a34⟩ := F.g34.ok
  have m34 := PySem.W.mg_of X G a34
  have b34 := F34.binds (ps := ["number"]) fun _ _ _ _ _ _ us hl => match us, hl with | [_], _ => rfl
  obtain ⟨f37, fd37, F37, a37⟩ := F.g37.ok
  have m37 := PySem.W.mg_of X G a37
  have b37 := F37.binds (ps := ["walk"]) fun _ _ _ _ _ _ us hl => match us, hl with | [_], _ => rfl
  obtain ⟨f43, fd43, F43, a43⟩ := F.g43.ok
  have m43 := PySem.W.mg_of X G a43
  have b43 := F43.binds (ps := ["first", "second"]) fun _ _ _ _ _ _ us hl => match us, hl with | [_, _], _ => rfl
  obtain ⟨f44, fd44, F44, a44⟩ := F.g44.ok
  have m44 := PySem.W.mg_of X G a44
  have b44 := F44.binds (ps := ["kind"]) fun _ _ _ _ _ _ us hl => match us, hl with | [_], _ => rfl
  obtain ⟨f45, fd45, F45, a45⟩ := F.g45.ok
  have m45 := PySem.W.mg_of X G a45
  have b45 := F45.binds (ps := ["kind", "first", "second"]) fun _ _ _ _ _ _ us hl => match us, hl with | [_, _, _], _ => rfl
  obtain ⟨f46, fd46, F46, a46⟩ := F.g46.ok
  have m46 := PySem.W.mg_of X G a46
  have b46 := F46.binds (ps := ["kind", "first", "second"]) fun _ _ _ _ _ _ us hl => match us, hl with | [_, _, _], _ => rfl
  obtain ⟨f47, fd47, F47, a47⟩ := F.g47.ok
  have m47 := PySem.W.mg_of X G a47
  have b47 := F47.binds (ps := ["kind", "p", "q"]) fun _ _ _ _ _ _ us hl => match us, hl with | [_, _, _], _ => rfl
  obtain ⟨f48, fd48, F48, a48⟩ := F.g48.ok
  have m48 := PySem.W.mg_of X G a48
  have b48 := kbn_of (ps := ["kind", "first", "second", "p", "q"]) (n := 3) (ks := ["p", "q"]) F48 fun _ _ _ _ _ _ us ws h1 h2 => match us, h1, ws, h2 with | [_, _, _], _, [_, _], _ => rfl
  obtain ⟨f50, fd50, F50, a50⟩ := F.g50.ok
  have m50 := PySem.W.mg_of X G a50
  have b50 := F50.binds (ps := ["_law_cell_here"]) fun _ _ _ _ _ _ us hl => match us, hl with | [_], _ => rfl
  obtain ⟨f51, fd51, F51, a51⟩ := F.g51.ok
  have m51 := PySem.W.mg_of X G a51
  have b51 := F51.binds (ps := ["_law_pool_here", "_law_limit"]) fun _ _ _ _ _ _ us hl => match us, hl with | [_, _], _ => rfl
  obtain ⟨f52, fd52, F52, a52⟩ := F.g52.ok
  have m52 := PySem.W.mg_of X G a52
  have b52 := F52.binds (ps := ["_law_script", "_law_k"]) fun _ _ _ _ _ _ us hl => match us, hl with | [_, _], _ => rfl
  obtain ⟨f53, fd53, F53, a53⟩ := F.g53.ok
  have m53 := PySem.W.mg_of X G a53
  have b53 := F53.binds (ps := ["_law_sums_here"]) fun _ _ _ _ _ _ us hl => match us, hl with | [_], _ => rfl
  obtain ⟨f54, fd54, F54, a54⟩ := F.g54.ok
  have m54 := PySem.W.mg_of X G a54
  have b54 := F54.binds (ps := ["_law_terms_here"]) fun _ _ _ _ _ _ us hl => match us, hl with | [_], _ => rfl
  obtain ⟨f55, fd55, F55, a55⟩ := F.g55.ok
  have m55 := PySem.W.mg_of X G a55
  have b55 := F55.binds (ps := ["_law_f", "_law_g"]) fun _ _ _ _ _ _ us hl => match us, hl with | [_, _], _ => rfl
  obtain ⟨f56, fd56, F56, a56⟩ := F.g56.ok
  have m56 := PySem.W.mg_of X G a56
  have b56 := F56.binds (ps := ["_law_f", "_law_g"]) fun _ _ _ _ _ _ us hl => match us, hl with | [_, _], _ => rfl
  obtain ⟨f57, fd57, F57, a57⟩ := F.g57.ok
  have m57 := PySem.W.mg_of X G a57
  have b57 := F57.binds (ps := ["_law_f"]) fun _ _ _ _ _ _ us hl => match us, hl with | [_], _ => rfl
  obtain ⟨f58, fd58, F58, a58⟩ := F.g58.ok
  have m58 := PySem.W.mg_of X G a58
  have b58 := F58.binds (ps := ["_law_n"]) fun _ _ _ _ _ _ us hl => match us, hl with | [_], _ => rfl
  obtain ⟨f61, fd61, F61, a61⟩ := F.g61.ok
  have m61 := PySem.W.mg_of X G a61
  have b61 := F61.binds (ps := ["_law_number_here"]) fun _ _ _ _ _ _ us hl => match us, hl with | [_], _ => rfl
  obtain ⟨f62, fd62, F62, a62⟩ := F.g62.ok
  have m62 := PySem.W.mg_of X G a62
  have b62 := F62.binds (ps := ["_law_number_here"]) fun _ _ _ _ _ _ us hl => match us, hl with | [_], _ => rfl
  obtain ⟨f63, fd63, F63, a63⟩ := F.g63.ok
  have m63 := PySem.W.mg_of X G a63
  have b63 := F63.binds (ps := ["_law_number_here", "_law_k"]) fun _ _ _ _ _ _ us hl => match us, hl with | [_, _], _ => rfl
  obtain ⟨f64, fd64, F64, a64⟩ := F.g64.ok
  have m64 := PySem.W.mg_of X G a64
  have b64 := F64.binds (ps := ["_law_number_here"]) fun _ _ _ _ _ _ us hl => match us, hl with | [_], _ => rfl
  obtain ⟨f65, fd65, F65, a65⟩ := F.g65.ok
  have m65 := PySem.W.mg_of X G a65
  have b65 := F65.binds (ps := ["_law_turns"]) fun _ _ _ _ _ _ us hl => match us, hl with | [_], _ => rfl
  obtain ⟨f66, fd66, F66, a66⟩ := F.g66.ok
  have m66 := PySem.W.mg_of X G a66
  have b66 := F66.binds (ps := ["_law_pool_here", "_law_goes", "_law_most"]) fun _ _ _ _ _ _ us hl => match us, hl with | [_, _, _], _ => rfl
  obtain ⟨f67, fd67, F67, a67⟩ := F.g67.ok
  have m67 := PySem.W.mg_of X G a67
  have b67 := F67.binds (ps := ["_law_first", "_law_second"]) fun _ _ _ _ _ _ us hl => match us, hl with | [_, _], _ => rfl
  obtain ⟨f68, fd68, F68, a68⟩ := F.g68.ok
  have m68 := PySem.W.mg_of X G a68
  have b68 := F68.binds (ps := ["_law_turns"]) fun _ _ _ _ _ _ us hl => match us, hl with | [_], _ => rfl
  obtain ⟨f69, fd69, F69, a69⟩ := F.g69.ok
  have m69 := PySem.W.mg_of X G a69
  have b69 := F69.binds (ps := ["_law_turns", "_law_m"]) fun _ _ _ _ _ _ us hl => match us, hl with | [_, _], _ => rfl
  obtain ⟨f70, fd70, F70, a70⟩ := F.g70.ok
  have m70 := PySem.W.mg_of X G a70
  have b70 := F70.binds (ps := ["_law_pool_here"]) fun _ _ _ _ _ _ us hl => match us, hl with | [_], _ => rfl
  obtain ⟨f71, fd71, F71, a71⟩ := F.g71.ok
  have m71 := PySem.W.mg_of X G a71
  have b71 := F71.binds (ps := ["_law_pool_here"]) fun _ _ _ _ _ _ us hl => match us, hl with | [_], _ => rfl
  obtain ⟨f72, fd72, F72, a72⟩ := F.g72.ok
  have m72 := PySem.W.mg_of X G a72
  have b72 := F72.binds (ps := ["_law_pool_here"]) fun _ _ _ _ _ _ us hl => match us, hl with | [_], _ => rfl
  obtain ⟨f73, fd73, F73, a73⟩ := F.g73.ok
  have m73 := PySem.W.mg_of X G a73
  have b73 := F73.binds (ps := ["_law_f", "_law_n", "_law_across"]) fun _ _ _ _ _ _ us hl => match us, hl with | [_, _, _], _ => rfl
  obtain ⟨f74, fd74, F74, a74⟩ := F.g74.ok
  have m74 := PySem.W.mg_of X G a74
  have b74 := F74.binds (ps := ["_law_f", "_law_sides", "_law_around"]) fun _ _ _ _ _ _ us hl => match us, hl with | [_, _, _], _ => rfl
  obtain ⟨f76, fd76, F76, a76⟩ := F.g76.ok
  have m76 := PySem.W.mg_of X G a76
  have b76 := F76.binds (ps := ["_law_k"]) fun _ _ _ _ _ _ us hl => match us, hl with | [_], _ => rfl
  obtain ⟨f77, fd77, F77, a77⟩ := F.g77.ok
  have m77 := PySem.W.mg_of X G a77
  have b77 := F77.binds (ps := ["_law_pool_here"]) fun _ _ _ _ _ _ us hl => match us, hl with | [_], _ => rfl
  obtain ⟨f78, fd78, F78, a78⟩ := F.g78.ok
  have m78 := PySem.W.mg_of X G a78
  have b78 := F78.binds (ps := ["_law_first", "_law_second"]) fun _ _ _ _ _ _ us hl => match us, hl with | [_, _], _ => rfl
  obtain ⟨f79, fd79, F79, a79⟩ := F.g79.ok
  have m79 := PySem.W.mg_of X G a79
  have b79 := F79.binds (ps := ["_law_pool_here"]) fun _ _ _ _ _ _ us hl => match us, hl with | [_], _ => rfl
  obtain ⟨f80, fd80, F80, a80⟩ := F.g80.ok
  have m80 := PySem.W.mg_of X G a80
  have b80 := F80.binds (ps := ["_law_table"]) fun _ _ _ _ _ _ us hl => match us, hl with | [_], _ => rfl
  obtain ⟨f81, fd81, F81, a81⟩ := F.g81.ok
  have m81 := PySem.W.mg_of X G a81
  have b81 := F81.binds (ps := ["_law_pool_here", "_law_kind_here", "_law_pair_here"]) fun _ _ _ _ _ _ us hl => match us, hl with | [_, _, _], _ => rfl
  obtain ⟨wx0, wd0, WF0, wa0, wi0⟩ := F.w0.ok
  have wb0 := WF0.binds (ps := ["self", "turns"]) fun _ _ _ _ _ _ us hl => match us, hl with | [_, _], _ => rfl
  obtain ⟨wx5, wd5, WF5, wa5, wi5⟩ := F.w5.ok
  have wb5 := WF5.binds (ps := ["self", "other"]) fun _ _ _ _ _ _ us hl => match us, hl with | [_, _], _ => rfl
  obtain ⟨wx6, wd6, WF6, wa6, wi6⟩ := F.w6.ok
  have wb6 := WF6.binds (ps := ["self"]) fun _ _ _ _ _ _ us hl => match us, hl with | [_], _ => rfl
  obtain ⟨wx9, wd9, WF9, wa9, wi9⟩ := F.w9.ok
  have wb9 := WF9.binds (ps := ["self"]) fun _ _ _ _ _ _ us hl => match us, hl with | [_], _ => rfl
  obtain ⟨fx0, fd0, FF0, fa0, fi0⟩ := F.f0.ok
  have fb0 := FF0.binds (ps := ["self", "rows"]) fun _ _ _ _ _ _ us hl => match us, hl with | [_, _], _ => rfl
  obtain ⟨fx4, fd4, FF4, fa4, fi4⟩ := F.f4.ok
  have fb4 := FF4.binds (ps := ["self", "floor"]) fun _ _ _ _ _ _ us hl => match us, hl with | [_, _], _ => rfl
  obtain ⟨fx5, fd5, FF5, fa5, fi5⟩ := F.f5.ok
  have fb5 := FF5.binds (ps := ["self", "other"]) fun _ _ _ _ _ _ us hl => match us, hl with | [_, _], _ => rfl
  have c16 : CCol P w K mg base := ok_collected F16 T m16 b16
  have c17 : CPlus P w K mg base := ok_plus F17 T m17 b17 c16
  have c18 : CMinus P w K mg base := ok_minus F18 T m18 b18 c16
  have c19 : CTimes P w K mg base := ok_times F19 m19 b19 c16
  have c20 : CStep P w K mg base := ok_step F20 T m20 b20
  have c21 : CRows P w K mg base := ok_rows_of F21 T m21 b21
  have c22 : CTerms P w K mg base := ok_terms_of F22 T m22 b22 c16
  have c23 : CSw P w K mg base := ok_swapped F23 m23 b23 c16
  have c24 : CDiv3 P w K mg base := ok_div F24 T m24 b24 c16 c21 c22 c20
  have c25 := ok_dvd (P := P) (base := base) F25 m25 b25 c24 c23
  have c29 := ok_one (P := P) (w := w) (base := base) F29 m29 b29
  have c30 : CNeg P w K mg base := ok_negated F30 m30 b30 c16
  have c31 : CTl P w K mg base := ok_tl F31 T m31 b31 c17 c18 c19 c30
  have c32 : CTr P w K mg base := ok_tr F32 T m32 b32 c17 c18 c19 c30
  have c33 : CTn P w K mg base := ok_turned F33 T m33 b33 c16 c31 c32
  have c34 : CGn P w K mg base := ok_gone F34 m34 b34 c16 c30
  have mkw : MWalk P w K mg base C := ok_winit WF0 T F.W hW ⟨F.mkW, wa0, wi0, F.kcW⟩ wb0
  have o5 := ok_wadd WF5 T F.W wa5 wi5 wb5 mkw
  have o6 := ok_wneg WF6 T F.W wa6 wi6 wb6 mkw
  have o9 := ok_wred WF9 T F.W wa9 wi9 wb9 mkw
  have c37 : CNumOf P w K mg base C := ok_numof F37 T F.W m37 b37 c29 c33 c34
  have c43 : CJoin P w K mg base C := ok_joined F43 F.W m43 b43 o6 o5 o9
  have c44 : CNeed P w K mg base := ok_needed F44 S m44 b44
  have c45 : CParts P w K mg base C := ok_parts F45 S F.W m45 b45 c44 c43 c37
  have c47 := ok_chk (P := P) (w := w) (base := base) F47 m47 b47 c44
  have c48 := ok_same F48 T m48 b48 c47 c45 c25
  have c9 : CCols P w K mg base := ok_cols F9 T m9 b9
  have c10 : CWc P w K mg base := ok_wc F10 T m10 b10
  have c11 : CLt P w K mg base := ok_lt F11 T m11 b11 c10 c9
  have mkf : MFl P w K mg base CF := ok_finit FF0 T F.WF hF ⟨F.mkF, fa0, fi0, F.kcF⟩ fb0 c11
  have oin := ok_fin (P := P) (base := base) FF4 T S F.WF fa4 fi4 fb4
  have oeq := ok_feq (P := P) (w := w) (base := base) FF5 T F.WF hF fa5 fi5 fb5
  have c46 : CWhere P w K mg base C CF := ok_where F46 T F.W m46 b46 c45 c43 c24 c23 mkf
  have c50 := ok_lpool (P := P) (w := w) (base := base) F50 m50 b50
  have c51 : CTake P w K mg base := ok_ltake F51 T m51 b51
  have c52 := ok_lcellS (P := P) (w := w) (base := base) F52 T m52 b52
  have c53 : CLTerms P w K mg base := ok_lterms F53 T m53 b53
  have c54 : CLSums P w K mg base := ok_lsums F54 m54 b54
  have c55 : CLPlus P w K mg base := ok_lplus F55 m55 b55 c53 c54
  have c56 : CLTimes P w K mg base := ok_ltimes F56 m56 b56 c53
  have c57 : CLNeg P w K mg base := ok_lneg F57 m57 b57
  have c58 := ok_lstep (P := P) (w := w) (base := base) F58 T m58 b58
  have c61 : CLl P w K mg base := ok_lleft F61 m61 b61 c55 c56 c57
  have c62 : CLr P w K mg base := ok_lright F62 m62 b62 c55 c56 c57
  have c63 : CLtn P w K mg base := ok_lturned F63 T m63 b63 c61 c62
  have c64 : CLg P w K mg base := ok_lgone F64 T m64 b64 c57
  have c65 := ok_lnum F65 m65 b65 c63 c64
  have c66 : CRand P w K mg base := ok_lrand F66 T m66 b66 c51
  have c67 : CLJoin P w K mg base := ok_ljoin F67 m67 b67
  have c68 : CLBack P w K mg base := ok_lback F68 T m68 b68
  have c69 : CLCop P w K mg base := ok_lcop F69 T m69 b69 c67
  have c70 := ok_lloop F70 m70 b70 c51 c66 c69 c67 c68
  have c71 := ok_ltail F71 m71 b71 c51
  have c72 := ok_lpair F72 m72 b72 c51 c66 c70 c71 c67
  have c73 : CLLow P w K mg base := ok_llow F73 T m73 b73 c53 c54 c58
  have c74 := ok_lrest F74 m74 b74 c73
  have c76 : CLKind P w K mg base := ok_lkind F76 m76 b76
  have c77 := ok_lsize F77 m77 b77 c51
  have c78 := ok_llen F78 T m78 b78 c67 c68
  have c79 := ok_lplan F79 m79 b79 c51 c66 c67
  have c80 := ok_lleast (P := P) (w := w) (base := base) F80 T m80 b80
  have c81 := ok_lbehind F81 m81 b81 c51 c67 c76 c46 mkw
  exact ⟨T, F.WF, hF, c50, c51, c52, c77, c72, c79, c65, c68, c67, c76, c78, c73, c74, c80, c46, c48, c81, oin, oeq, mkw⟩
theorem all_mk {l : PySem.W.OpenLaw} {fa : Addr} (X : K.In h) (G : h.Ns mainGlobals mg) (hfa : mg "law" = some (.ref fa)) (F : Fx w K C CF) :
    ∃ fd : FuncData, (∀ (s : Shared) (v : Value), BindsTo s fd ⟨[v], []⟩ [("_law_script", v)]) ∧ ∀ base : Heap, K.In base → base.Ns mainGlobals mg → FnOk l.prog w K mg base CX0 9 fa fd ["_law_script"] (spLaw K) := by
  obtain ⟨f82, fd82, F82, a82⟩ := F.g82.ok
  have e := hfa.symm.trans (PySem.W.mg_of X G a82)
  cases e
  refine ⟨fd82, fun s v => ?_, fun base _ _ => ok_law F82 (F.law X G)⟩
  obtain ⟨oc, od, kV, doc, pm, an, cdv, ct, osl, rfl, lk, hcd⟩ := F82.ex
  exact .of_eq rfl
end
theorem walk {l : PySem.W.OpenLaw} {q : Program} {loose : List Str} {XP : (Str → Option Value) → Heap → Prop} {YP : World → Heap → Prop} {d : DefRec} {K : Params → PySem.W.Frag} (hn : l.most = some 63) (hdf : d.params.defaults = [])
    (hY : ∀ (w : World) (h : Heap), YP w h → (K w.params).In h)
    (F : ∀ (w : World) (mg : Str → Option Value) (fa : Addr) (h : Heap), (K w.params).In h → h.Ns mainGlobals mg → mg d.name = some (.ref fa) →
      ∃ fd : FuncData, (∀ (s : Shared) (u : Value), BindsTo s fd ⟨[u], []⟩ [("_law_script", u)]) ∧ ∀ base : Heap, (K w.params).In base → base.Ns mainGlobals mg → FnOk l.prog w (K w.params) mg base CX0 9 fa fd ["_law_script"] (spLaw (K w.params))) :
    PySem.W.WalkO q loose XP YP l.row.toRowW d [] (fun f vs => PySem.call f vs) :=
  L2.walk_of (n := 63) (k := 9) (x := "_law_script") (CX := fun _ => CX0) (sp := fun w => spLaw (K w.params)) hn (by decide) hdf ⟨rfl, by decide, by decide⟩ hY F (fun _ _ a ns hl _ hS => ⟨a, ns, rfl, hS, hl, fun _ => rfl⟩) fun _ _ _ _ _ z => z
end Wf
open PySem PySem.W PyProof.Rows in
set_option maxRecDepth 100000 in
set_option maxHeartbeats 0 in
theorem PySem.Challenge.cw_whichfloor_k52_whole_all_floors_at_once_holds : PySem.Challenge.rw_whichfloor_k52_whole_all_floors_at_once.Holds := by
  w_on; o_law; k_head; (case hw => w_witness2)
  k_fill
  refine Wf.walk (l := PySem.Challenge.rw_whichfloor_k52_whole_all_floors_at_once) rfl rfl (fun w h Y => PySem.W.kIn_of Y) ?F
  case F =>
    intro w mg fa h KX G hmg
    refine' Wf.all_mk KX G hmg ⟨Wf.gf_mk ?qqa9 ?qql9 ?qqc9 ?qqk9,
      Wf.gf_mk ?qqa10 ?qql10 ?qqc10 ?qqk10,
      Wf.gf_mk ?qqa11 ?qql11 ?qqc11 ?qqk11,
      Wf.gf_mk ?qqa16 ?qql16 ?qqc16 ?qqk16,
      Wf.gf_mk ?qqa17 ?qql17 ?qqc17 ?qqk17,
      Wf.gf_mk ?qqa18 ?qql18 ?qqc18 ?qqk18,
      Wf.gf_mk ?qqa19 ?qql19 ?qqc19 ?qqk19,
      Wf.gf_mk ?qqa20 ?qql20 ?qqc20 ?qqk20,
      Wf.gf_mk ?qqa21 ?qql21 ?qqc21 ?qqk21,
      Wf.gf_mk ?qqa22 ?qql22 ?qqc22 ?qqk22,
      Wf.gf_mk ?qqa23 ?qql23 ?qqc23 ?qqk23,
      Wf.gf_mk ?qqa24 ?qql24 ?qqc24 ?qqk24,
      Wf.gf_mk ?qqa25 ?qql25 ?qqc25 ?qqk25,
      Wf.gf_mk ?qqa29 ?qql29 ?qqc29 ?qqk29,
      Wf.gf_mk ?qqa30 ?qql30 ?qqc30 ?qqk30,
      Wf.gf_mk ?qqa31 ?qql31 ?qqc31 ?qqk31,
      Wf.gf_mk ?qqa32 ?qql32 ?qqc32 ?qqk32,
      Wf.gf_mk ?qqa33 ?qql33 ?qqc33 ?qqk33,
      Wf.gf_mk ?qqa34 ?qql34 ?qqc34 ?qqk34,
      Wf.gf_mk ?qqa37 ?qql37 ?qqc37 ?qqk37,
      Wf.gf_mk ?qqa43 ?qql43 ?qqc43 ?qqk43,
      Wf.gf_mk ?qqa44 ?qql44 ?qqc44 ?qqk44,
      Wf.gf_mk ?qqa45 ?qql45 ?qqc45 ?qqk45,
      Wf.gf_mk ?qqa46 ?qql46 ?qqc46 ?qqk46,
      Wf.gf_mk ?qqa47 ?qql47 ?qqc47 ?qqk47,
      Wf.gf_mk ?qqa48 ?qql48 ?qqc48 ?qqk48,
      Wf.gf_mk ?qqa50 ?qql50 ?qqc50 ?qqk50,
      Wf.gf_mk ?qqa51 ?qql51 ?qqc51 ?qqk51,
      Wf.gf_mk ?qqa52 ?qql52 ?qqc52 ?qqk52,
      Wf.gf_mk ?qqa53 ?qql53 ?qqc53 ?qqk53,
      Wf.gf_mk ?qqa54 ?qql54 ?qqc54 ?qqk54,
      Wf.gf_mk ?qqa55 ?qql55 ?qqc55 ?qqk55,
      Wf.gf_mk ?qqa56 ?qql56 ?qqc56 ?qqk56,
      Wf.gf_mk ?qqa57 ?qql57 ?qqc57 ?qqk57,
      Wf.gf_mk ?qqa58 ?qql58 ?qqc58 ?qqk58,
      Wf.gf_mk ?qqa61 ?qql61 ?qqc61 ?qqk61,
      Wf.gf_mk ?qqa62 ?qql62 ?qqc62 ?qqk62,
      Wf.gf_mk ?qqa63 ?qql63 ?qqc63 ?qqk63,
      Wf.gf_mk ?qqa64 ?qql64 ?qqc64 ?qqk64,
      Wf.gf_mk ?qqa65 ?qql65 ?qqc65 ?qqk65,
      Wf.gf_mk ?qqa66 ?qql66 ?qqc66 ?qqk66,
      Wf.gf_mk ?qqa67 ?qql67 ?qqc67 ?qqk67,
      Wf.gf_mk ?qqa68 ?qql68 ?qqc68 ?qqk68,
      Wf.gf_mk ?qqa69 ?qql69 ?qqc69 ?qqk69,
      Wf.gf_mk ?qqa70 ?qql70 ?qqc70 ?qqk70,
      Wf.gf_mk ?qqa71 ?qql71 ?qqc71 ?qqk71,
      Wf.gf_mk ?qqa72 ?qql72 ?qqc72 ?qqk72,
      Wf.gf_mk ?qqa73 ?qql73 ?qqc73 ?qqk73,
      Wf.gf_mk ?qqa74 ?qql74 ?qqc74 ?qqk74,
      Wf.gf_mk ?qqa76 ?qql76 ?qqc76 ?qqk76,
      Wf.gf_mk ?qqa77 ?qql77 ?qqc77 ?qqk77,
      Wf.gf_mk ?qqa78 ?qql78 ?qqc78 ?qqk78,
      Wf.gf_mk ?qqa79 ?qql79 ?qqc79 ?qqk79,
      Wf.gf_mk ?qqa80 ?qql80 ?qqc80 ?qqk80,
      Wf.gf_mk ?qqa81 ?qql81 ?qqc81 ?qqk81,
      Wf.gf_mk ?qqa82 ?qql82 ?qqc82 ?qqk82,
      Wf.mf_mk ?qqwa0 ?qqwi0 ?qqwl0 ?qqwc0 ?qqwk0,
      Wf.mf_mk ?qqwa5 ?qqwi5 ?qqwl5 ?qqwc5 ?qqwk5,
      Wf.mf_mk ?qqwa6 ?qqwi6 ?qqwl6 ?qqwc6 ?qqwk6,
      Wf.mf_mk ?qqwa9 ?qqwi9 ?qqwl9 ?qqwc9 ?qqwk9,
      Wf.mf_mk ?qqfa0 ?qqfi0 ?qqfl0 ?qqfc0 ?qqfk0,
      Wf.mf_mk ?qqfa4 ?qqfi4 ?qqfl4 ?qqfc4 ?qqfk4,
      Wf.mf_mk ?qqfa5 ?qqfi5 ?qqfl5 ?qqfc5 ?qqfk5,
      ?qqaW,
      ?qqaF,
      Wf.txtW_mk ?qqWpg ?qqWhd ?qqWpo ?qqWsa ?qqWnt ?qqWng ?qqWns ?qqWsf,
      Wf.txtF_mk ?qqFpg ?qqFhd ?qqFpo ?qqFsa ?qqFnr ?qqFha ?qqFhn ?qqFtk ?qqFhm ?qqFnf,
      ?qqmkW,
      ?qqkcW,
      ?qqmkF,
      ?qqkcF,
      ?qqz_len,
      ?qqz_abs,
      ?qqz_sum,
      ?qqz_all,
      ?qqz_max,
      ?qqz_min,
      ?qqz_list,
      ?qqz_tuple,
      ?qqz_range,
      ?qqz_enumerate,
      ?qqz_reversed,
      ?qqz_sorted,
      ?qqz_dict,
      ?qqz_int,
      ?qqz_isinstance,
      Wf.tm_mk ?qqXa (Wf.tp_mk ?qqX1l ?qqX1c ?qqX1d ?qqX1z ?qqX1v) (Wf.tp_mk ?qqX2l ?qqX2c ?qqX2d ?qqX2z ?qqX2v),
      Wf.tm_mk ?qqYa (Wf.tp_mk ?qqY1l ?qqY1c ?qqY1d ?qqY1z ?qqY1v) (Wf.tp_mk ?qqY2l ?qqY2c ?qqY2d ?qqY2z ?qqY2v),
      ⟨_, ?qqKa, Wf.tp_mk ?qqK1l ?qqK1c ?qqK1d ?qqK1z ?qqK1v⟩,
      ⟨_, _, _, _, _, ?qqPa, Wf.dc_mk ?qqPl ?qqPk, ⟨?qqP0, Wf.tp_mk ?qqT0l ?qqT0c ?qqT0d ?qqT0z ?qqT0v⟩, ⟨?qqP1, Wf.tp_mk ?qqT1l ?qqT1c ?qqT1d ?qqT1z ?qqT1v⟩, ⟨?qqP2, Wf.tp_mk ?qqT2l ?qqT2c ?qqT2d ?qqT2z ?qqT2v⟩, ⟨?qqP3, Wf.tp_mk ?qqT3l ?qqT3c ?qqT3d ?qqT3z ?qqT3v⟩⟩,
      Wf.in_mk ?qqgoes,
      Wf.in_mk ?qqsize,
      Wf.in_mk ?qqfirst⟩
    (case qqaW => k_is)
    (case qqaF => k_is)
    (case qqa9 => k_is)
    (case qql9 => k_is)
    (case qqc9 => k_is)
    (case qqk9 => k_is)
    (case qqa10 => k_is)
    (case qql10 => k_is)
    (case qqc10 => k_is)
    (case qqk10 => k_is)
    (case qqa11 => k_is)
    (case qql11 => k_is)
    (case qqc11 => k_is)
    (case qqk11 => k_is)
    (case qqa16 => k_is)
    (case qql16 => k_is)
    (case qqc16 => k_is)
    (case qqk16 => k_is)
    (case qqa17 => k_is)
    (case qql17 => k_is)
    (case qqc17 => k_is)
    (case qqk17 => k_is)
    (case qqa18 => k_is)
    (case qql18 => k_is)
    (case qqc18 => k_is)
    (case qqk18 => k_is)
    (case qqa19 => k_is)
    (case qql19 => k_is)
    (case qqc19 => k_is)
    (case qqk19 => k_is)
    (case qqa20 => k_is)
    (case qql20 => k_is)
    (case qqc20 => k_is)
    (case qqk20 => k_is)
    (case qqa21 => k_is)
    (case qql21 => k_is)
    (case qqc21 => k_is)
    (case qqk21 => k_is)
    (case qqa22 => k_is)
    (case qql22 => k_is)
    (case qqc22 => k_is)
    (case qqk22 => k_is)
    (case qqa23 => k_is)
    (case qql23 => k_is)
    (case qqc23 => k_is)
    (case qqk23 => k_is)
    (case qqa24 => k_is)
    (case qql24 => k_is)
    (case qqc24 => k_is)
    (case qqk24 => k_is)
    (case qqa25 => k_is)
    (case qql25 => k_is)
    (case qqc25 => k_is)
    (case qqk25 => k_is)
    (case qqa29 => k_is)
    (case qql29 => k_is)
    (case qqc29 => k_is)
    (case qqk29 => k_is)
    (case qqa30 => k_is)
    (case qql30 => k_is)
    (case qqc30 => k_is)
    (case qqk30 => k_is)
    (case qqa31 => k_is)
    (case qql31 => k_is)
    (case qqc31 => k_is)
    (case qqk31 => k_is)
    (case qqa32 => k_is)
    (case qql32 => k_is)
    (case qqc32 => k_is)
    (case qqk32 => k_is)
    (case qqa33 => k_is)
    (case qql33 => k_is)
    (case qqc33 => k_is)
    (case qqk33 => k_is)
    (case qqa34 => k_is)
    (case qql34 => k_is)
    (case qqc34 => k_is)
    (case qqk34 => k_is)
    (case qqa37 => k_is)
    (case qql37 => k_is)
    (case qqc37 => k_is)
    (case qqk37 => k_is)
    (case qqa43 => k_is)
    (case qql43 => k_is)
    (case qqc43 => k_is)
    (case qqk43 => k_is)
    (case qqa44 => k_is)
    (case qql44 => k_is)
    (case qqc44 => k_is)
    (case qqk44 => k_is)
    (case qqa45 => k_is)
    (case qql45 => k_is)
    (case qqc45 => k_is)
    (case qqk45 => k_is)
    (case qqa46 => k_is)
    (case qql46 => k_is)
    (case qqc46 => k_is)
    (case qqk46 => k_is)
    (case qqa47 => k_is)
    (case qql47 => k_is)
    (case qqc47 => k_is)
    (case qqk47 => k_is)
    (case qqa48 => k_is)
    (case qql48 => k_is)
    (case qqc48 => k_is)
    (case qqk48 => k_is)
    (case qqa50 => k_is)
    (case qql50 => k_is)
    (case qqc50 => k_is)
    (case qqk50 => k_is)
    (case qqa51 => k_is)
    (case qql51 => k_is)
    (case qqc51 => k_is)
    (case qqk51 => k_is)
    (case qqa52 => k_is)
    (case qql52 => k_is)
    (case qqc52 => k_is)
    (case qqk52 => k_is)
    (case qqa53 => k_is)
    (case qql53 => k_is)
    (case qqc53 => k_is)
    (case qqk53 => k_is)
    (case qqa54 => k_is)
    (case qql54 => k_is)
    (case qqc54 => k_is)
    (case qqk54 => k_is)
    (case qqa55 => k_is)
    (case qql55 => k_is)
    (case qqc55 => k_is)
    (case qqk55 => k_is)
    (case qqa56 => k_is)
    (case qql56 => k_is)
    (case qqc56 => k_is)
    (case qqk56 => k_is)
    (case qqa57 => k_is)
    (case qql57 => k_is)
    (case qqc57 => k_is)
    (case qqk57 => k_is)
    (case qqa58 => k_is)
    (case qql58 => k_is)
    (case qqc58 => k_is)
    (case qqk58 => k_is)
    (case qqa61 => k_is)
    (case qql61 => k_is)
    (case qqc61 => k_is)
    (case qqk61 => k_is)
    (case qqa62 => k_is)
    (case qql62 => k_is)
    (case qqc62 => k_is)
    (case qqk62 => k_is)
    (case qqa63 => k_is)
    (case qql63 => k_is)
    (case qqc63 => k_is)
    (case qqk63 => k_is)
    (case qqa64 => k_is)
    (case qql64 => k_is)
    (case qqc64 => k_is)
    (case qqk64 => k_is)
    (case qqa65 => k_is)
    (case qql65 => k_is)
    (case qqc65 => k_is)
    (case qqk65 => k_is)
    (case qqa66 => k_is)
    (case qql66 => k_is)
    (case qqc66 => k_is)
    (case qqk66 => k_is)
    (case qqa67 => k_is)
    (case qql67 => k_is)
    (case qqc67 => k_is)
    (case qqk67 => k_is)
    (case qqa68 => k_is)
    (case qql68 => k_is)
    (case qqc68 => k_is)
    (case qqk68 => k_is)
    (case qqa69 => k_is)
    (case qql69 => k_is)
    (case qqc69 => k_is)
    (case qqk69 => k_is)
    (case qqa70 => k_is)
    (case qql70 => k_is)
    (case qqc70 => k_is)
    (case qqk70 => k_is)
    (case qqa71 => k_is)
    (case qql71 => k_is)
    (case qqc71 => k_is)
    (case qqk71 => k_is)
    (case qqa72 => k_is)
    (case qql72 => k_is)
    (case qqc72 => k_is)
    (case qqk72 => k_is)
    (case qqa73 => k_is)
    (case qql73 => k_is)
    (case qqc73 => k_is)
    (case qqk73 => k_is)
    (case qqa74 => k_is)
    (case qql74 => k_is)
    (case qqc74 => k_is)
    (case qqk74 => k_is)
    (case qqa76 => k_is)
    (case qql76 => k_is)
    (case qqc76 => k_is)
    (case qqk76 => k_is)
    (case qqa77 => k_is)
    (case qql77 => k_is)
    (case qqc77 => k_is)
    (case qqk77 => k_is)
    (case qqa78 => k_is)
    (case qql78 => k_is)
    (case qqc78 => k_is)
    (case qqk78 => k_is)
    (case qqa79 => k_is)
    (case qql79 => k_is)
    (case qqc79 => k_is)
    (case qqk79 => k_is)
    (case qqa80 => k_is)
    (case qql80 => k_is)
    (case qqc80 => k_is)
    (case qqk80 => k_is)
    (case qqa81 => k_is)
    (case qql81 => k_is)
    (case qqc81 => k_is)
    (case qqk81 => k_is)
    (case qqa82 => k_is)
    (case qql82 => k_is)
    (case qqc82 => k_is)
    (case qqk82 => k_is)
    (case qqwa0 => k_is)
    (case qqwi0 => k_is)
    (case qqwl0 => k_is)
    (case qqwc0 => k_is)
    (case qqwk0 => k_is)
    (case qqwa5 => k_is)
    (case qqwi5 => k_is)
    (case qqwl5 => k_is)
    (case qqwc5 => k_is)
    (case qqwk5 => k_is)
    (case qqwa6 => k_is)
    (case qqwi6 => k_is)
    (case qqwl6 => k_is)
    (case qqwc6 => k_is)
    (case qqwk6 => k_is)
    (case qqwa9 => k_is)
    (case qqwi9 => k_is)
    (case qqwl9 => k_is)
    (case qqwc9 => k_is)
    (case qqwk9 => k_is)
    (case qqfa0 => k_is)
    (case qqfi0 => k_is)
    (case qqfl0 => k_is)
    (case qqfc0 => k_is)
    (case qqfk0 => k_is)
    (case qqfa4 => k_is)
    (case qqfi4 => k_is)
    (case qqfl4 => k_is)
    (case qqfc4 => k_is)
    (case qqfk4 => k_is)
    (case qqfa5 => k_is)
    (case qqfi5 => k_is)
    (case qqfl5 => k_is)
    (case qqfc5 => k_is)
    (case qqfk5 => k_is)
    (case qqWpg => k_is)
    (case qqWhd => k_is)
    (case qqWpo => k_is)
    (case qqWsa => k_is)
    (case qqWnt => k_is)
    (case qqWng => k_is)
    (case qqWns => k_is)
    (case qqWsf => k_is)
    (case qqFpg => k_is)
    (case qqFhd => k_is)
    (case qqFpo => k_is)
    (case qqFsa => k_is)
    (case qqFnr => k_is)
    (case qqFha => k_is)
    (case qqFhn => k_is)
    (case qqFtk => k_is)
    (case qqFhm => k_is)
    (case qqFnf => k_is)
    (case qqmkW => k_is)
    (case qqkcW => k_is)
    (case qqmkF => k_is)
    (case qqkcF => k_is)
    (case qqz_len => k_is)
    (case qqz_abs => k_is)
    (case qqz_sum => k_is)
    (case qqz_all => k_is)
    (case qqz_max => k_is)
    (case qqz_min => k_is)
    (case qqz_list => k_is)
    (case qqz_tuple => k_is)
    (case qqz_range => k_is)
    (case qqz_enumerate => k_is)
    (case qqz_reversed => k_is)
    (case qqz_sorted => k_is)
    (case qqz_dict => k_is)
    (case qqz_int => k_is)
    (case qqz_isinstance => k_is)
    (case qqXa => k_is)
    (case qqX1l => k_is)
    (case qqX1c => exact rfl)
    (case qqX1d => exact rfl)
    (case qqX1v => exact .cons rfl .nil)
    (case qqX1z => decide)
    (case qqX2l => k_is)
    (case qqX2c => exact rfl)
    (case qqX2d => exact rfl)
    (case qqX2v => exact .cons ⟨_, rfl⟩ (.cons ⟨_, rfl⟩ (.cons ⟨_, rfl⟩ .nil)))
    (case qqX2z => decide)
    (case qqYa => k_is)
    (case qqY1l => k_is)
    (case qqY1c => exact rfl)
    (case qqY1d => exact rfl)
    (case qqY1v => exact .cons rfl .nil)
    (case qqY1z => decide)
    (case qqY2l => k_is)
    (case qqY2c => exact rfl)
    (case qqY2d => exact rfl)
    (case qqY2v => exact .cons ⟨_, rfl⟩ (.cons ⟨_, rfl⟩ (.cons ⟨_, rfl⟩ .nil)))
    (case qqY2z => decide)
    (case qqKa => k_is)
    (case qqK1l => k_is)
    (case qqK1c => exact rfl)
    (case qqK1d => exact rfl)
    (case qqK1v => exact .cons ⟨_, rfl⟩ (.cons ⟨_, rfl⟩ (.cons ⟨_, rfl⟩ (.cons ⟨_, rfl⟩ .nil))))
    (case qqK1z => decide)
    (case qqPa => k_is)
    (case qqPl => k_is)
    (case qqPk => exact rfl)
    (case qqP0 => k_is)
    (case qqT0l => k_is)
    (case qqT0c => exact rfl)
    (case qqT0d => exact rfl)
    (case qqT0v => exact .cons ⟨_, rfl⟩ (.cons ⟨_, rfl⟩ (.cons ⟨_, rfl⟩ .nil)))
    (case qqT0z => decide)
    (case qqP1 => k_is)
    (case qqT1l => k_is)
    (case qqT1c => exact rfl)
    (case qqT1d => exact rfl)
    (case qqT1v => exact .cons ⟨_, rfl⟩ (.cons ⟨_, rfl⟩ .nil))
    (case qqT1z => decide)
    (case qqP2 => k_is)
    (case qqT2l => k_is)
    (case qqT2c => exact rfl)
    (case qqT2d => exact rfl)
    (case qqT2v => exact .cons ⟨_, rfl⟩ (.cons ⟨_, rfl⟩ .nil))
    (case qqT2z => decide)
    (case qqP3 => k_is)
    (case qqT3l => k_is)
    (case qqT3c => exact rfl)
    (case qqT3d => exact rfl)
    (case qqT3v => exact .cons ⟨_, rfl⟩ (.cons ⟨_, rfl⟩ .nil))
    (case qqT3z => decide)
    (case qqgoes => k_is)
    (case qqsize => k_is)
    (case qqfirst => k_is)
