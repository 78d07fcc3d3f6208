import PyProof.Rows.All
import Wide.All
import OpenK.AllK
import Wide.FinOn
import KE.KStateDown
import HandS.ForMost
import PySem.Challenge.RW_labeltill_k01_whole_courses_and_orders
import Lean
import HandS.Defaults
import HandS.Head0
import HandS.Head1
import HandS.Head2
import HandS.HeadEnd
import HandS.HeadHook1
import HandS.HeadHook2
import HandS.Codes
import HandS.Conv
import HandS.Star
import KE.SortData
import KE.KAssignIn
import KE.GoesNew
import PyProof.DictCompW
import KE.KDictKeyed
import HandS.DictComp
import HandS.Deep
import HandS.IsInst
import HandS.Wide
import PyProof.Rows.StrCountLaw
import HandS.Style
/-! ## LText -/
set_option Elab.async false
set_option linter.all false
set_option maxRecDepth 100000
set_option maxHeartbeats 4000000
/-! The statements of the program by their places. -/
namespace LT
open PySem PySem.Spec PyProof.Rows L2
def top (i : Nat) : Stmt := PySem.Challenge.pw_labeltill_k01_whole_courses_and_orders.main.body.getD i (.Pass ⟨0, 0, 0, 0⟩)
abbrev s_is_integer : Stmt := top 9
abbrev s_is_price : Stmt := top 10
abbrev s_is_board : Stmt := top 11
abbrev s_is_change : Stmt := top 12
abbrev s_are_moments : Stmt := top 17
abbrev s_lines_by : Stmt := top 20
abbrev s_bad_cells : Stmt := top 21
abbrev s_label_leaves : Stmt := top 22
abbrev s_till_leaves : Stmt := top 23
abbrev s_can_meet : Stmt := top 24
abbrev s_is_safe : Stmt := top 25
abbrev s_harm : Stmt := top 26
abbrev s_moments_at : Stmt := top 27
abbrev s_moved_on : Stmt := top 29
abbrev s_is_order : Stmt := top 30
abbrev s_cells_of : Stmt := top 31
abbrev s_is_good : Stmt := top 32
abbrev s_need_good : Stmt := top 33
abbrev s_ways_on : Stmt := top 34
abbrev s_order_index : Stmt := top 35
abbrev s_label_first : Stmt := top 36
abbrev s_place_of : Stmt := top 37
abbrev s_follows : Stmt := top 38
abbrev s_order_followed : Stmt := top 39
abbrev s_forces : Stmt := top 41
abbrev s_letter_moments : Stmt := top 42
abbrev s_least_moments : Stmt := top 43
abbrev s_plan_of : Stmt := top 44
abbrev s_least_plan : Stmt := top 45
abbrev s_law_bag : Stmt := top 47
abbrev s_law_take : Stmt := top 48
abbrev s_law_one : Stmt := top 49
abbrev s_law_gap_of : Stmt := top 50
abbrev s_law_price : Stmt := top 51
abbrev s_law_book : Stmt := top 52
abbrev s_law_board : Stmt := top 53
abbrev s_law_sent : Stmt := top 54
abbrev s_law_prices : Stmt := top 55
abbrev s_law_moments : Stmt := top 56
abbrev s_law_course : Stmt := top 57
abbrev s_law_made : Stmt := top 58
abbrev s_law_bad : Stmt := top 59
abbrev s_law_plan : Stmt := top 60
abbrev s_law_cells : Stmt := top 61
abbrev s_law_plain : Stmt := top 62
abbrev s_law_drawn_order : Stmt := top 63
abbrev s_law_leading : Stmt := top 64
abbrev s_law_label_first : Stmt := top 65
abbrev s_law_least_plan : Stmt := top 66
abbrev s_law_near_plan : Stmt := top 67
abbrev s_law_order_of : Stmt := top 68
abbrev s_law_not_later : Stmt := top 69
abbrev s_law : Stmt := top 70
abbrev s_Book_init : Stmt := inClass (top 15) 0
abbrev s_Book_len : Stmt := inClass (top 15) 1
abbrev s_Book_moments : Stmt := inClass (top 15) 6
abbrev s_Book_prices : Stmt := inClass (top 15) 7
abbrev s_Line_init : Stmt := inClass (top 18) 0
abbrev s_Line_earliest : Stmt := inClass (top 18) 5
abbrev s_Line_latest : Stmt := inClass (top 18) 6
abbrev s_Line_is_course : Stmt := inClass (top 18) 11
end LT
/-! ## LHook -/
set_option Elab.async false
set_option linter.all false
set_option maxRecDepth 100000
set_option maxHeartbeats 4000000
/-! A Hook of our own: the part of the heap is forced once, told by layers; one more Bool. -/
namespace LHk
open PySem PySem.Spec PyProof.Rows L2 He
def frL {α : Type} : List Nat → (List Nat → α) → α
  | [], k => k []
  | a :: r, k => HandSHeadRun.frNat a fun a => frL r fun r => k (a :: r)
theorem frL_eq {α : Type} : ∀ (l : List Nat) (k : List Nat → α), frL l k = k l
  | [], _ => rfl
  | a :: r, k => by
    show HandSHeadRun.frNat a (fun a => frL r fun r => k (a :: r)) = k (a :: r)
    rw [HandSHeadRun.frNat_eq, frL_eq r]
def frK {α : Type} (g : Addr → Option Obj) : List Nat → (PySem.W.Frag → α) → α
  | [], k => k []
  | a :: r, k => match g a with
    | none => frK g r k
    | some ⟨c, d, dt, sl⟩ => frK g r fun K => k ((a, ⟨c, d, dt, sl⟩) :: K)
theorem frK_eq {α : Type} {g : Addr → Option Obj} : ∀ (l : List Nat) (k : PySem.W.Frag → α), frK g l k = k (frG g l)
  | [], _ => rfl
  | a :: r, k => by
    unfold frK frG
    cases h : g a with
    | none =>
      rw [List.filterMap_cons, h]
      exact frK_eq r k
    | some o =>
      obtain ⟨c, d, dt, sl⟩ := o
      rw [List.filterMap_cons, h]
      show frK g r (fun K => k ((a, ⟨c, d, dt, sl⟩) :: K)) = k ((a, ⟨c, d, dt, sl⟩) :: frG g r)
      rw [frK_eq r]
def refsA (g : Addr → Option Obj) (a : Addr) : List Addr := match g a with
  | some o => refsD o
  | none => []
def nxt (g : Addr → Option Obj) (l : List Addr) : List Addr := l.flatMap (refsA g)
def as1 (g : Addr → Option Obj) : List Addr := nxt g [mainGlobals]
def as2 (g : Addr → Option Obj) : List Addr := nxt g (as1 g)
def as3 (g : Addr → Option Obj) : List Addr := nxt g (as2 g)
def as4 (g : Addr → Option Obj) : List Addr := nxt g (as3 g)
def asZ (g : Addr → Option Obj) : List Addr := mainGlobals :: (as1 g ++ (as2 g ++ (as3 g ++ as4 g)))
abbrev AlZ : Type := Bool × AlD
def obsK (ex : PySem.W.Frag → Bool) (fa : List Fa) (fn : List DefD) (K : PySem.W.Frag) : AlZ := (ex K, obsD fa fn K)
def obsZ (ex : PySem.W.Frag → Bool) (fa : List Fa) (fn : List DefD) (g : Addr → Option Obj) : AlZ :=
  frL (nxt g [mainGlobals]) fun l1 => frL (nxt g l1) fun l2 => frL (nxt g l2) fun l3 => frL (nxt g l3) fun l4 => frK g (mainGlobals :: (l1 ++ (l2 ++ (l3 ++ l4)))) fun K => obsK ex fa fn K
theorem obsZ_val {ex : PySem.W.Frag → Bool} {fa : List Fa} {fn : List DefD} {g : Addr → Option Obj} : obsZ ex fa fn g = obsK ex fa fn (frG g (asZ g)) := by
  unfold obsZ
  rw [frL_eq, frL_eq, frL_eq, frL_eq, frK_eq]
  rfl
def valZ (fn : List DefD) : AlZ := (true, valD fn)
def SaysZ (ex : PySem.W.Frag → Bool) (fa : List Fa) (fn : List DefD) (K : PySem.W.Frag) : Prop := ex K = true ∧ SaysD fa fn K
def hookZ (ex : PySem.W.Frag → Bool) (fa : List Fa) (fn : List DefD) : PySem.W.Hook where
  α := AlZ
  obs := fun s => obsZ ex fa fn s.heap.get?
  val := fun _ => valZ fn
  says := fun _ h => ∃ K : PySem.W.Frag, K.In h ∧ SaysZ ex fa fn K
  of := fun _ _ e => by
    have e := obsZ_val.symm.trans e
    exact ⟨_, frG_in, congrArg Prod.fst e, congrArg Prod.snd e⟩
  keeps := fun _ _ _ ⟨K, hK, c⟩ k => ⟨K, PySem.W.Frag.In.keeps hK k, c⟩
theorem obsZ_eq {ex : PySem.W.Frag → Bool} {fa : List Fa} {fn : List DefD} {g : Addr → Option Obj} {s : Shared} (h : ∀ a, g a = s.heap.get? a) : obsZ ex fa fn g = (hookZ ex fa fn).obs s := by
  have e : g = s.heap.get? := funext h
  rw [e] <;> rfl
end LHk
/-! ## LTy -/
set_option Elab.async false
set_option linter.all false
set_option maxRecDepth 100000
set_option maxHeartbeats 4000000
/-! What an expression evaluates to, told by typed values: what is known (F) lies within what is there (H). -/
namespace LT
open PySem PySem.Spec PyProof.Rows L2
abbrev St := L2.St
/-! ### what is known, what is there -/
abbrev Ex (F H : Hp) : Prop := ∀ a o, F a = some o → H a = some o
theorem Ex.refl (F : Hp) : Ex F F := fun _ _ h => h
theorem Ex.trans {F G H : Hp} (a : Ex F G) (b : Ex G H) : Ex F H := fun x o h => b x o (a x o h)
theorem ex_none {F H : Hp} {p : Addr} (e : Ex F H) (h : H p = none) : F p = none := by
  cases q : F p with
  | none => rfl
  | some o => rw [e p o q] at h; cases h
theorem ex_upd {F : Hp} {p : Addr} {o : HO} (h : F p = none) : Ex F (upd F p o) := fun a u e => by
  rw [upd_ne (ne_of_none e h)]; exact e
theorem ex_upd2 {F H : Hp} {p : Addr} {o : HO} (e : Ex F H) (h : F p = none) : Ex F (upd H p o) := fun a u q => by
  rw [upd_ne (ne_of_none q h)]; exact e a u q
theorem ex_both {F H : Hp} {p : Addr} {o : HO} (e : Ex F H) : Ex (upd F p o) (upd H p o) := fun a u q => by
  by_cases h : a = p
  · subst h; rw [upd_same] at q ⊢; exact q
  · rw [upd_ne h] at q ⊢; exact e a u q
theorem ex_put {F H : Hp} {p : Addr} {o : HO} (e : Ex F H) (h : H p = some o) : Ex (upd F p o) H := fun a u q => by
  by_cases z : a = p
  · subst z; rw [upd_same] at q; rw [← q]; exact h
  · rw [upd_ne z] at q; exact e a u q
/-- from what is known F and there H to F2, H2: what is new was not there -/
structure Grow (F H F2 H2 : Hp) : Prop where
  ff : Ex F F2
  fh : Ex F2 H2
  hh : Ex H H2
  nw : ∀ a o, F2 a = some o → F a = some o ∨ H a = none
theorem Grow.refl {F H : Hp} (h : Ex F H) : Grow F H F H := ⟨Ex.refl _, h, Ex.refl _, fun _ _ e => .inl e⟩
theorem Grow.trans {F H F2 H2 F3 H3 : Hp} (a : Grow F H F2 H2) (b : Grow F2 H2 F3 H3) : Grow F H F3 H3 :=
  ⟨a.ff.trans b.ff, b.fh, a.hh.trans b.hh, fun x o e => by
    rcases b.nw x o e with h | h
    · exact a.nw x o h
    · exact .inr (ex_none a.hh h)⟩
/-- a new object, known -/
theorem Grow.new {F H : Hp} {p : Addr} {o : HO} (h : Ex F H) (hp : H p = none) : Grow F H (upd F p o) (upd H p o) :=
  ⟨ex_upd (ex_none h hp), ex_both h, ex_upd hp, fun a u e => by
    by_cases z : a = p
    · subst z; exact .inr hp
    · rw [upd_ne z] at e; exact .inl e⟩
/-- an object that may change -/
theorem Grow.mut {F0 H0 F H : Hp} {p : Addr} {o : HO} (g : Grow F0 H0 F H) (hF : F p = none) (h0 : H0 p = none) : Grow F0 H0 F (upd H p o) :=
  ⟨g.ff, ex_upd2 g.fh hF, ex_upd2 g.hh h0, g.nw⟩
/-- it changes no more -/
theorem Grow.frz {F0 H0 F H : Hp} {p : Addr} {o : HO} (g : Grow F0 H0 F H) (hF : F p = none) (h0 : H0 p = none) (h : H p = some o) : Grow F0 H0 (upd F p o) H :=
  ⟨g.ff.trans (ex_upd hF), ex_put g.fh h, g.hh, fun a u e => by
    by_cases z : a = p
    · subst z; exact .inr h0
    · rw [upd_ne z] at e; exact g.nw a u e⟩
theorem Grow.off {F H F2 H2 : Hp} {p : Addr} {o : HO} (g : Grow F H F2 H2) (hF : F p = none) (hH : H p = some o) : F2 p = none := by
  cases q : F2 p with
  | none => rfl
  | some u =>
    rcases g.nw p u q with h | h
    · rw [hF] at h; cases h
    · rw [hH] at h; cases h
theorem Grow.fh0 {F H F2 H2 : Hp} (g : Grow F H F2 H2) : Ex F H2 := g.ff.trans g.fh

/-! ### typed values -/
structure All2 {α β : Type} (R : α → β → Prop) (as : List α) (bs : List β) : Prop where
  len : as.length = bs.length
  at_ : ∀ (i : Nat) (a : α) (b : β), as[i]? = some a → bs[i]? = some b → R a b
section
variable {α β γ : Type} {R S : α → β → Prop}
theorem All2.nil : All2 R [] [] := ⟨rfl, fun i a b h => by simp at h⟩
theorem All2.cons {a : α} {b : β} {as : List α} {bs : List β} (h : R a b) (t : All2 R as bs) : All2 R (a :: as) (b :: bs) :=
  ⟨by rw [List.length_cons, List.length_cons, t.len], fun i x y hx hy => by
    cases i with
    | zero => simp at hx hy; subst hx hy; exact h
    | succ i => simp at hx hy; exact t.at_ i x y hx hy⟩
theorem All2.mono {as : List α} {bs : List β} (h : All2 R as bs) (k : ∀ a b, R a b → S a b) : All2 S as bs := ⟨h.len, fun i a b x y => k a b (h.at_ i a b x y)⟩
theorem All2.get {as : List α} {bs : List β} {i : Nat} {b : β} (h : All2 R as bs) (e : bs[i]? = some b) : ∃ a, as[i]? = some a ∧ R a b := by
  have hi : i < bs.length := (List.getElem?_eq_some_iff.mp e).1
  have h2 : i < as.length := by rw [h.len]; exact hi
  exact ⟨as[i], List.getElem?_eq_getElem h2, h.at_ i _ _ (List.getElem?_eq_getElem h2) e⟩
theorem All2.get' {as : List α} {bs : List β} {i : Nat} {a : α} (h : All2 R as bs) (e : as[i]? = some a) : ∃ b, bs[i]? = some b ∧ R a b := by
  have hi : i < as.length := (List.getElem?_eq_some_iff.mp e).1
  have h2 : i < bs.length := by rw [← h.len]; exact hi
  exact ⟨bs[i], List.getElem?_eq_getElem h2, h.at_ i _ _ e (List.getElem?_eq_getElem h2)⟩
theorem All2.append {as as' : List α} {bs bs' : List β} (h : All2 R as bs) (k : All2 R as' bs') : All2 R (as ++ as') (bs ++ bs') :=
  ⟨by rw [List.length_append, List.length_append, h.len, k.len], fun i a b x y => by
    by_cases hi : i < as.length
    · rw [List.getElem?_append_left hi] at x
      rw [List.getElem?_append_left (by rw [← h.len]; exact hi)] at y
      exact h.at_ i a b x y
    · rw [List.getElem?_append_right (by omega)] at x
      rw [List.getElem?_append_right (by rw [← h.len]; omega)] at y
      rw [← h.len] at y
      exact k.at_ _ a b x y⟩
theorem All2.snoc {as : List α} {bs : List β} {a : α} {b : β} (h : All2 R as bs) (k : R a b) : All2 R (as ++ [a]) (bs ++ [b]) := h.append (.cons k .nil)
theorem All2.take {as : List α} {bs : List β} (n : Nat) (h : All2 R as bs) : All2 R (as.take n) (bs.take n) :=
  ⟨by rw [List.length_take, List.length_take, h.len], fun i a b x y => by
    rw [List.getElem?_take] at x y
    split at x
    · rename_i q
      rw [if_pos q] at y
      exact h.at_ i a b x y
    · cases x⟩
theorem All2.drop {as : List α} {bs : List β} (n : Nat) (h : All2 R as bs) : All2 R (as.drop n) (bs.drop n) :=
  ⟨by rw [List.length_drop, List.length_drop, h.len], fun i a b x y => by
    rw [List.getElem?_drop] at x y
    exact h.at_ _ a b x y⟩
theorem All2.set {as : List α} {bs : List β} {a : α} {b : β} (n : Nat) (h : All2 R as bs) (k : R a b) : All2 R (as.set n a) (bs.set n b) :=
  ⟨by rw [List.length_set, List.length_set, h.len], fun i x y hx hy => by
    by_cases e : n = i
    · subst e
      have h1 : n < as.length := by
        have := (List.getElem?_eq_some_iff.mp hx).1
        rw [List.length_set] at this; exact this
      rw [List.getElem?_set_self h1] at hx
      rw [List.getElem?_set_self (by rw [← h.len]; exact h1)] at hy
      cases hx; cases hy; exact k
    · rw [List.getElem?_set_ne e] at hx hy
      exact h.at_ i x y hx hy⟩
theorem All2.map_r {f : γ → β} {as : List α} {cs : List γ} (h : All2 (fun a c => R a (f c)) as cs) : All2 R as (cs.map f) :=
  ⟨by rw [List.length_map, h.len], fun i a b x y => by
    rw [List.getElem?_map] at y
    cases e : cs[i]? with
    | none => rw [e] at y; cases y
    | some c => rw [e] at y; cases y; exact h.at_ i a c x e⟩
theorem All2.of_map_r {f : γ → β} {as : List α} {cs : List γ} (h : All2 R as (cs.map f)) : All2 (fun a c => R a (f c)) as cs :=
  ⟨by rw [h.len, List.length_map], fun i a c x y => h.at_ i a (f c) x (by rw [List.getElem?_map, y]; rfl)⟩
theorem All2.eq_map {f : β → α} {as : List α} {bs : List β} (h : All2 (fun a b => a = f b) as bs) : as = bs.map f := by
  refine List.ext_getElem? fun i => ?_
  cases e : as[i]? with
  | none =>
    have : as.length ≤ i := List.getElem?_eq_none_iff.mp e
    rw [List.getElem?_map, List.getElem?_eq_none_iff.mpr (by rw [← h.len]; exact this)]
    rfl
  | some a =>
    obtain ⟨b, hb, r⟩ := h.get' e
    rw [List.getElem?_map, hb]
    exact congrArg some r
theorem All2.cons_inv {a : α} {as : List α} {bs : List β} (h : All2 R (a :: as) bs) : ∃ b bs', bs = b :: bs' ∧ R a b ∧ All2 R as bs' := by
  cases bs with
  | nil => exact absurd h.len (by simp)
  | cons b bs => exact ⟨b, bs, rfl, h.at_ 0 a b rfl rfl, ⟨by have := h.len; simpa using this, fun i x y p q => h.at_ (i + 1) x y (by simpa using p) (by simpa using q)⟩⟩
end

class Rep (α : Type) where
  is : Hp → V → α → Prop
  mono : ∀ {F G : Hp} {v : V} {x : α}, Ex F G → is F v x → is G v x
abbrev Is {α : Type} [Rep α] (F : Hp) (v : V) (x : α) : Prop := Rep.is F v x
theorem Is.mono {α : Type} [Rep α] {F G : Hp} {v : V} {x : α} (h : Is F v x) (e : Ex F G) : Is G v x := Rep.mono e h
theorem Ex.is {α : Type} [Rep α] {F G : Hp} {v : V} {x : α} (e : Ex F G) (h : Is F v x) : Is G v x := Rep.mono e h
instance : Rep Int := ⟨fun _ v x => v = .int x, fun _ h => h⟩
instance : Rep Nat := ⟨fun _ v x => v = .int (x : Int), fun _ h => h⟩
instance : Rep Bool := ⟨fun _ v x => v = .bl x, fun _ h => h⟩
instance : Rep Str := ⟨fun _ v x => v = .str x, fun _ h => h⟩
/-- None -/
instance : Rep Unit := ⟨fun _ v _ => v = .non, fun _ h => h⟩
def IsL {α : Type} [Rep α] (F : Hp) (a : Addr) (xs : List α) : Prop := ∃ vs, F a = some (.lst vs) ∧ All2 (Rep.is F) vs xs
instance {α : Type} [Rep α] : Rep (List α) := ⟨fun F v xs => ∃ a vs, v = .ref a ∧ F a = some (.lst vs) ∧ All2 (Rep.is F) vs xs,
  fun e ⟨a, vs, h1, h2, h3⟩ => ⟨a, vs, h1, e _ _ h2, h3.mono fun _ _ h => Rep.mono e h⟩⟩
instance {α β : Type} [Rep α] [Rep β] : Rep (α × β) := ⟨fun F v x => ∃ a u w, v = .ref a ∧ F a = some (.tup [u, w]) ∧ Rep.is F u x.1 ∧ Rep.is F w x.2,
  fun e ⟨a, u, w, h1, h2, h3, h4⟩ => ⟨a, u, w, h1, e _ _ h2, Rep.mono e h3, Rep.mono e h4⟩⟩
/-- a tuple of three -/
structure T3 (α β γ : Type) where
  a : α
  b : β
  c : γ
instance {α β γ : Type} [Rep α] [Rep β] [Rep γ] : Rep (T3 α β γ) := ⟨fun F v x => ∃ a u w z, v = .ref a ∧ F a = some (.tup [u, w, z]) ∧ Rep.is F u x.a ∧ Rep.is F w x.b ∧ Rep.is F z x.c,
  fun e ⟨a, u, w, z, h1, h2, h3, h4, h5⟩ => ⟨a, u, w, z, h1, e _ _ h2, Rep.mono e h3, Rep.mono e h4, Rep.mono e h5⟩⟩
/-- a tuple of any length -/
structure Tup (α : Type) where
  l : List α
instance {α : Type} [Rep α] : Rep (Tup α) := ⟨fun F v x => ∃ a vs, v = .ref a ∧ F a = some (.tup vs) ∧ All2 (Rep.is F) vs x.l,
  fun e ⟨a, vs, h1, h2, h3⟩ => ⟨a, vs, h1, e _ _ h2, h3.mono fun _ _ h => Rep.mono e h⟩⟩
/-- letters: L is true -/
def code (b : Bool) : Nat := if b then 76 else 84
structure Ltr where
  b : Bool
structure Od where
  l : List Bool
def Od.str (o : Od) : Str := ⟨(o.l.map code).toArray⟩
def Ltr.str (o : Ltr) : Str := ⟨#[code o.b]⟩
instance : Rep Ltr := ⟨fun _ v x => v = .str x.str, fun _ h => h⟩
instance : Rep Od := ⟨fun _ v x => v = .str x.str, fun _ h => h⟩

class RepA (A : Type) where
  is : Hp → List V → A → Prop
  mono : ∀ {F G : Hp} {vs : List V} {x : A}, Ex F G → is F vs x → is G vs x
instance : RepA Unit := ⟨fun _ vs _ => vs = [], fun _ h => h⟩
instance {α A : Type} [Rep α] [RepA A] : RepA (α × A) := ⟨fun F vs x => ∃ v ws, vs = v :: ws ∧ Rep.is F v x.1 ∧ RepA.is F ws x.2, fun e ⟨v, ws, h1, h2, h3⟩ => ⟨v, ws, h1, Rep.mono e h2, RepA.mono e h3⟩⟩

/-! ### evaluation -/
/-- te, where F is known, gives a value of which R, and changes nothing that is there -/
def ER (te : TE) (σ : St) (F : Hp) (R : Hp → V → Prop) : Prop := ∀ H, Ex F H → ∀ Q : VK, (∀ v F2 H2, Grow F H F2 H2 → R F2 v → Q v H2) → te σ H Q
abbrev ET {α : Type} [Rep α] (te : TE) (σ : St) (F : Hp) (x : α) : Prop := ER te σ F fun F2 v => Is F2 v x
def EB (tt : TT) (σ : St) (F : Hp) (b : Bool) : Prop := ∀ H, Ex F H → ∀ Q : Bool → Hp → Prop, (∀ F2 H2, Grow F H F2 H2 → Q b H2) → tt σ H Q
def EA {A : Type} [RepA A] (ta : TA) (σ : St) (F : Hp) (x : A) : Prop := ∀ H, Ex F H → ∀ Q : List V → Hp → Prop, (∀ vs F2 H2, Grow F H F2 H2 → RepA.is F2 vs x → Q vs H2) → ta σ H Q
/-- arguments, told by a relation -/
def EAR (ta : TA) (σ : St) (F : Hp) (R : Hp → List V → Prop) : Prop := ∀ H, Ex F H → ∀ Q : List V → Hp → Prop, (∀ vs F2 H2, Grow F H F2 H2 → R F2 vs → Q vs H2) → ta σ H Q

/-- the join of two known parts of one heap -/
def join (F G : Hp) : Hp := fun a => match F a with
  | some o => some o
  | none => G a
theorem join_l {F G : Hp} : Ex F (join F G) := fun a o h => by unfold join; rw [h]
theorem join_r {F G H : Hp} (h1 : Ex F H) (h2 : Ex G H) : Ex G (join F G) := fun a o h => by
  unfold join
  cases e : F a with
  | none => exact h
  | some u =>
    have x := h1 a u e
    have y := h2 a o h
    rw [x] at y
    exact y
theorem join_in {F G H : Hp} (h1 : Ex F H) (h2 : Ex G H) : Ex (join F G) H := fun a o h => by
  unfold join at h
  cases e : F a with
  | none => rw [e] at h; exact h2 a o h
  | some u => rw [e] at h; cases h; exact h1 a _ e
theorem Grow.widen {F G H F2 H2 : Hp} (e : Ex F G) (h : Ex G H) (g : Grow F H F2 H2) : Grow G H (join G F2) H2 ∧ Ex F2 (join G F2) :=
  ⟨⟨join_l, join_in (h.trans g.hh) g.fh, g.hh, fun a o q => by
    unfold join at q
    cases z : G a with
    | some u => rw [z] at q; exact .inl q
    | none =>
      rw [z] at q
      rcases g.nw a o q with k | k
      · rw [e a o k] at z; cases z
      · exact .inr k⟩, join_r (h.trans g.hh) g.fh⟩
section
variable {σ : St} {F G : Hp}
theorem ER.mono {te : TE} {R : Hp → V → Prop} (hR : ∀ {F G : Hp} {v : V}, Ex F G → R F v → R G v) (e : Ex F G) (h : ER te σ F R) : ER te σ G R := fun H hg Q k =>
  h H (e.trans hg) Q fun v F2 H2 g i => let ⟨g2, x⟩ := g.widen e hg; k v _ H2 g2 (hR x i)
theorem ET.mono {α : Type} [Rep α] {te : TE} {x : α} (h : ET te σ F x) (e : Ex F G) : ET te σ G x := ER.mono (fun e i => Rep.mono e i) e h
theorem EB.mono {tt : TT} {b : Bool} (h : EB tt σ F b) (e : Ex F G) : EB tt σ G b := fun H hg Q k =>
  h H (e.trans hg) Q fun F2 H2 g => let ⟨g2, x⟩ := g.widen e hg; k _ H2 g2
theorem EA.mono {A : Type} [RepA A] {ta : TA} {x : A} (h : EA ta σ F x) (e : Ex F G) : EA ta σ G x := fun H hg Q k =>
  h H (e.trans hg) Q fun vs F2 H2 g i => let ⟨g2, y⟩ := g.widen e hg; k vs _ H2 g2 (RepA.mono y i)
theorem ET.to {α : Type} [Rep α] {te : TE} {x y : α} (h : ET te σ F x) (e : x = y) : ET te σ F y := e ▸ h
theorem EB.to {tt : TT} {x y : Bool} (h : EB tt σ F x) (e : x = y) : EB tt σ F y := e ▸ h
theorem ET.int {te : TE} {n : Nat} (h : ET te σ F n) : ET te σ F (n : Int) := h
theorem ET.nat {te : TE} {i : Int} {n : Nat} (h : ET te σ F i) (e : i = (n : Int)) : ET te σ F n := by
  subst e; exact h
theorem ER.imp {te : TE} {R S : Hp → V → Prop} (h : ER te σ F R) (k : ∀ G v, Ex F G → R G v → S G v) : ER te σ F S := fun H e Q q => h H e Q fun v F2 H2 g r => q v F2 H2 g (k F2 v g.ff r)
/-! values -/
theorem et_var {α : Type} [Rep α] {i : Nat} {v : V} {x : α} (h : σ[i]? = some (some v)) (r : Is F v x) : ET (tVar i) σ F x := fun H e Q k => ⟨v, h, k v F H (.refl e) r⟩
theorem et_c {α : Type} [Rep α] {v : V} {x : α} (r : Is F v x) : ET (tC v) σ F x := fun H e Q k => k v F H (.refl e) r
theorem et_int {i : Int} : ET (tC (.int i)) σ F i := et_c rfl
theorem et_nat {i : Int} {n : Nat} (e : i = (n : Int) := by rfl) : ET (tC (.int i)) σ F n := et_c (congrArg V.int e)
theorem et_bl {b : Bool} : ET (tC (.bl b)) σ F b := et_c rfl
theorem et_non : ET (tC .non) σ F () := et_c rfl
theorem et_str {x : Str} : ET (tC (.str x)) σ F x := et_c rfl
/-! operators -/
theorem er_op {α β : Type} [Rep α] [Rep β] {ta tb : TE} {x : α} {y : β} {r : R2} {R : Hp → V → Prop} (ha : ET ta σ F x) (hb : ET tb σ F y)
    (hr : ∀ F1 H1 v w (Q : VK), Ex F F1 → Ex F1 H1 → Is F1 v x → Is F1 w y → (∀ u F2 H2, Grow F1 H1 F2 H2 → R F2 u → Q u H2) → r v w H1 Q) : ER (tOp r ta tb) σ F R := fun H e Q k =>
  ha H e _ fun v F1 H1 g1 i1 => (hb.mono g1.ff) H1 g1.fh _ fun w F2 H2 g2 i2 => hr F2 H2 v w Q (g1.ff.trans g2.ff) g2.fh (g2.ff.is i1) i2 fun u F3 H3 g3 i3 => k u F3 H3 ((g1.trans g2).trans g3) i3
theorem et_op {α β γ : Type} [Rep α] [Rep β] [Rep γ] {ta tb : TE} {x : α} {y : β} {z : γ} {r : R2} (ha : ET ta σ F x) (hb : ET tb σ F y)
    (hr : ∀ F1 H1 v w (Q : VK), Ex F F1 → Ex F1 H1 → Is F1 v x → Is F1 w y → (∀ u F2 H2, Grow F1 H1 F2 H2 → Is F2 u z → Q u H2) → r v w H1 Q) : ET (tOp r ta tb) σ F z := er_op ha hb hr
theorem et_I0 {γ : Type} [Rep γ] {ta tb : TE} {i j : Int} {z : γ} {g : Int → Int → V} (ha : ET ta σ F i) (hb : ET tb σ F j) (e : ∀ F, Is F (g i j) z) : ET (tOp (rI0 g) ta tb) σ F z :=
  et_op ha hb fun F1 H1 v w Q _ e1 hv hw k => ⟨i, j, hv, hw, k _ F1 H1 (.refl e1) (e _)⟩
theorem et_I {γ : Type} [Rep γ] {C : Int → Int → Prop} {ta tb : TE} {i j : Int} {z : γ} {g : Int → Int → V} (ha : ET ta σ F i) (hb : ET tb σ F j) (c : C i j) (e : ∀ F, Is F (g i j) z) : ET (tOp (rI C g) ta tb) σ F z :=
  et_op ha hb fun F1 H1 v w Q _ e1 hv hw k => ⟨i, j, hv, hw, c, k _ F1 H1 (.refl e1) (e _)⟩
theorem et_add {ta tb : TE} {i j : Int} (ha : ET ta σ F i) (hb : ET tb σ F j) : ET (tOp (rI0 fun i j => .int (i + j)) ta tb) σ F (i + j) := et_I0 ha hb fun _ => rfl
theorem et_sub {ta tb : TE} {i j : Int} (ha : ET ta σ F i) (hb : ET tb σ F j) : ET (tOp (rI0 fun i j => .int (i - j)) ta tb) σ F (i - j) := et_I0 ha hb fun _ => rfl
theorem et_mul {ta tb : TE} {i j : Int} (ha : ET ta σ F i) (hb : ET tb σ F j) (c : CMul i j) : ET (tOp (rI CMul fun i j => .int (i * j)) ta tb) σ F (i * j) := et_I ha hb c fun _ => rfl
theorem et_addN {ta tb : TE} {i j : Nat} (ha : ET ta σ F i) (hb : ET tb σ F j) : ET (tOp (rI0 fun i j => .int (i + j)) ta tb) σ F (i + j) := (et_add (i := i) (j := j) ha hb).nat (by omega)
theorem et_subN {ta tb : TE} {i j : Nat} (ha : ET ta σ F i) (hb : ET tb σ F j) (h : j ≤ i) : ET (tOp (rI0 fun i j => .int (i - j)) ta tb) σ F (i - j) := (et_sub (i := i) (j := j) ha hb).nat (by omega)
theorem et_neg {ta : TE} {i : Int} (ha : ET ta σ F i) : ET (tUn (rU fun i => .int (-i)) ta) σ F (-i) := fun H e Q k => ha H e _ fun v F1 H1 g1 i1 => ⟨i, i1, k _ F1 H1 g1 rfl⟩
theorem et_lt {ta tb : TE} {i j : Int} (ha : ET ta σ F i) (hb : ET tb σ F j) : ET (tOp (rI0 fun i j => .bl (decide (i < j))) ta tb) σ F (decide (i < j)) := et_I0 ha hb fun _ => rfl
theorem et_le {ta tb : TE} {i j : Int} (ha : ET ta σ F i) (hb : ET tb σ F j) : ET (tOp (rI0 fun i j => .bl (decide (i ≤ j))) ta tb) σ F (decide (i ≤ j)) := et_I0 ha hb fun _ => rfl
theorem et_gt {ta tb : TE} {i j : Int} (ha : ET ta σ F i) (hb : ET tb σ F j) : ET (tOp (rI0 fun i j => .bl (decide (j < i))) ta tb) σ F (decide (j < i)) := et_I0 ha hb fun _ => rfl
theorem et_ge {ta tb : TE} {i j : Int} (ha : ET ta σ F i) (hb : ET tb σ F j) : ET (tOp (rI0 fun i j => .bl (decide (j ≤ i))) ta tb) σ F (decide (j ≤ i)) := et_I0 ha hb fun _ => rfl
theorem et_eqV {α β : Type} [Rep α] [Rep β] {ta tb : TE} {x : α} {y : β} {b : Bool} (ha : ET ta σ F x) (hb : ET tb σ F y) (h : ∀ F1 v w, Is F1 v x → Is F1 w y → scal v w = true ∧ decide (v = w) = b) : ET (tOp rEq ta tb) σ F b :=
  et_op ha hb fun F1 H1 v w Q _ e1 hv hw k => ⟨(h F1 v w hv hw).1, by rw [(h F1 v w hv hw).2]; exact k _ F1 H1 (.refl e1) rfl⟩
theorem et_neV {α β : Type} [Rep α] [Rep β] {ta tb : TE} {x : α} {y : β} {b : Bool} (ha : ET ta σ F x) (hb : ET tb σ F y) (h : ∀ F1 v w, Is F1 v x → Is F1 w y → scal v w = true ∧ decide (v = w) = b) : ET (tOp rNe ta tb) σ F (!b) :=
  et_op ha hb fun F1 H1 v w Q _ e1 hv hw k => ⟨(h F1 v w hv hw).1, by rw [(h F1 v w hv hw).2]; exact k _ F1 H1 (.refl e1) rfl⟩
theorem dec_eq {p q : Prop} [Decidable p] [Decidable q] (h : p ↔ q) : decide p = decide q := by
  by_cases hp : p
  · rw [decide_eq_true hp, decide_eq_true (h.mp hp)]
  · rw [decide_eq_false hp, decide_eq_false fun z => hp (h.mpr z)]
theorem et_eqI {ta tb : TE} {i j : Int} (ha : ET ta σ F i) (hb : ET tb σ F j) : ET (tOp rEq ta tb) σ F (decide (i = j)) :=
  et_eqV ha hb fun F1 v w hv hw => by
    cases hv; cases hw
    exact ⟨rfl, dec_eq ⟨V.int.inj, congrArg _⟩⟩
theorem et_neI {ta tb : TE} {i j : Int} (ha : ET ta σ F i) (hb : ET tb σ F j) : ET (tOp rNe ta tb) σ F (!decide (i = j)) :=
  et_neV ha hb fun F1 v w hv hw => by
    cases hv; cases hw
    exact ⟨rfl, dec_eq ⟨V.int.inj, congrArg _⟩⟩
theorem et_eqN {ta tb : TE} {i j : Nat} (ha : ET ta σ F i) (hb : ET tb σ F j) : ET (tOp rEq ta tb) σ F (decide (i = j)) := (et_eqI (i := i) (j := j) ha hb).to (dec_eq (by omega))
theorem et_neN {ta tb : TE} {i j : Nat} (ha : ET ta σ F i) (hb : ET tb σ F j) : ET (tOp rNe ta tb) σ F (!decide (i = j)) := (et_neI (i := i) (j := j) ha hb).to (by rw [dec_eq (show ((i : Int) = (j : Int)) ↔ i = j by omega)])
theorem et_ltN {ta tb : TE} {i j : Nat} (ha : ET ta σ F i) (hb : ET tb σ F j) : ET (tOp (rI0 fun i j => .bl (decide (i < j))) ta tb) σ F (decide (i < j)) := (et_lt (i := i) (j := j) ha hb).to (dec_eq (by omega))
theorem et_leN {ta tb : TE} {i j : Nat} (ha : ET ta σ F i) (hb : ET tb σ F j) : ET (tOp (rI0 fun i j => .bl (decide (i ≤ j))) ta tb) σ F (decide (i ≤ j)) := (et_le (i := i) (j := j) ha hb).to (dec_eq (by omega))
theorem et_gtN {ta tb : TE} {i j : Nat} (ha : ET ta σ F i) (hb : ET tb σ F j) : ET (tOp (rI0 fun i j => .bl (decide (j < i))) ta tb) σ F (decide (j < i)) := (et_gt (i := i) (j := j) ha hb).to (dec_eq (by omega))
theorem et_geN {ta tb : TE} {i j : Nat} (ha : ET ta σ F i) (hb : ET tb σ F j) : ET (tOp (rI0 fun i j => .bl (decide (j ≤ i))) ta tb) σ F (decide (j ≤ i)) := (et_ge (i := i) (j := j) ha hb).to (dec_eq (by omega))
/-- e is None, is not None -/
theorem et_isN {α : Type} [Rep α] {ta : TE} {x : α} {b : Bool} (ha : ET ta σ F x) (h : ∀ F v, Is F v x → decide (v = .non) = b) : ET (tIsN ta) σ F b := fun H e Q k => ha H e _ fun v F1 H1 g1 i1 => by
  show Q (.bl (decide (v = .non))) H1
  rw [h F1 v i1]
  exact k _ F1 H1 g1 rfl
theorem er_isN {ta : TE} {R : Hp → V → Prop} {b : Bool} (ha : ER ta σ F R) (h : ∀ F v, R F v → decide (v = .non) = b) : ET (tIsN ta) σ F b := fun H e Q k => ha H e _ fun v F1 H1 g1 i1 => by
  show Q (.bl (decide (v = .non))) H1
  rw [h F1 v i1]
  exact k _ F1 H1 g1 rfl
theorem er_notN {ta : TE} {R : Hp → V → Prop} {b : Bool} (ha : ER ta σ F R) (h : ∀ F v, R F v → decide (v = .non) = b) : ET (tNotN ta) σ F (!b) := fun H e Q k => ha H e _ fun v F1 H1 g1 i1 => by
  show Q (.bl (!decide (v = .non))) H1
  rw [h F1 v i1]
  exact k _ F1 H1 g1 rfl
/-! truth -/
theorem eb_test {te : TE} {b : Bool} (h : ET te σ F b) : EB (tTest te) σ F b := fun H e Q k => h H e _ fun v F1 H1 g1 i1 => ⟨b, i1, k F1 H1 g1⟩
theorem eb_B {te : TE} {b : Bool} (h : ET te σ F b) : EB (tB te) σ F b := fun H e Q k => h H e _ fun v F1 H1 g1 i1 => ⟨b, i1, k F1 H1 g1⟩
theorem eb_not {t : TT} {b : Bool} (h : EB t σ F b) : EB (tNot t) σ F (!b) := fun H e Q k => h H e _ fun F1 H1 g1 => k F1 H1 g1
theorem eb_and {t u : TT} {a b : Bool} (h : EB t σ F a) (h2 : a = true → EB u σ F b) : EB (tAnd t u) σ F (a && b) := fun H e Q k => h H e _ fun F1 H1 g1 => by
  cases a with
  | true =>
    show u σ H1 Q
    exact ((h2 rfl).mono g1.ff) H1 g1.fh Q fun F2 H2 g2 => k F2 H2 (g1.trans g2)
  | false => exact k F1 H1 g1
theorem eb_or {t u : TT} {a b : Bool} (h : EB t σ F a) (h2 : a = false → EB u σ F b) : EB (tOr t u) σ F (a || b) := fun H e Q k => h H e _ fun F1 H1 g1 => by
  cases a with
  | false =>
    show u σ H1 Q
    exact ((h2 rfl).mono g1.ff) H1 g1.fh Q fun F2 H2 g2 => k F2 H2 (g1.trans g2)
  | true => exact k F1 H1 g1
theorem et_andV {ta tb : TE} {a b : Bool} (h : ET ta σ F a) (h2 : a = true → ET tb σ F b) : ET (tAndV ta tb) σ F (a && b) := fun H e Q k => h H e _ fun v F1 H1 g1 i1 => ⟨a, i1, by
  cases a with
  | true =>
    show tb σ H1 Q
    exact ((h2 rfl).mono g1.ff) H1 g1.fh Q fun v F2 H2 g2 i2 => k v F2 H2 (g1.trans g2) i2
  | false => exact k _ F1 H1 g1 rfl⟩
theorem et_orV {ta tb : TE} {a b : Bool} (h : ET ta σ F a) (h2 : a = false → ET tb σ F b) : ET (tOrV ta tb) σ F (a || b) := fun H e Q k => h H e _ fun v F1 H1 g1 i1 => ⟨a, i1, by
  cases a with
  | false =>
    show tb σ H1 Q
    exact ((h2 rfl).mono g1.ff) H1 g1.fh Q fun v F2 H2 g2 i2 => k v F2 H2 (g1.trans g2) i2
  | true => exact k _ F1 H1 g1 rfl⟩
theorem et_notV {ta : TE} {a : Bool} (h : ET ta σ F a) : ET (tNotV ta) σ F (!a) := fun H e Q k => h H e _ fun v F1 H1 g1 i1 => ⟨a, i1, k _ F1 H1 g1 rfl⟩
theorem er_if {t : TT} {ta tb : TE} {b : Bool} {R : Hp → V → Prop} (hR : ∀ {F G : Hp} {v : V}, Ex F G → R F v → R G v) (h : EB t σ F b) (h1 : b = true → ER ta σ F R) (h2 : b = false → ER tb σ F R) : ER (tIf t ta tb) σ F R := fun H e Q k => h H e _ fun F1 H1 g1 => by
  cases b with
  | true => exact (ER.mono (R := R) hR g1.ff (h1 rfl)) H1 g1.fh Q fun v F2 H2 g2 i2 => k v F2 H2 (g1.trans g2) i2
  | false => exact (ER.mono (R := R) hR g1.ff (h2 rfl)) H1 g1.fh Q fun v F2 H2 g2 i2 => k v F2 H2 (g1.trans g2) i2
theorem et_if {α : Type} [Rep α] {t : TT} {ta tb : TE} {b : Bool} {x : α} (h : EB t σ F b) (h1 : b = true → ET ta σ F x) (h2 : b = false → ET tb σ F x) : ET (tIf t ta tb) σ F x := er_if (fun e i => Rep.mono e i) h h1 h2
theorem et_if2 {α : Type} [Rep α] {t : TT} {ta tb : TE} {b : Bool} {x y : α} (h : EB t σ F b) (h1 : b = true → ET ta σ F x) (h2 : b = false → ET tb σ F y) : ET (tIf t ta tb) σ F (if b = true then x else y) :=
  et_if h (fun e => (h1 e).to (by rw [if_pos e])) (fun e => (h2 e).to (by rw [if_neg (by rw [e]; exact Bool.false_ne_true)]))
theorem et_chain {r r' : R2} {α β γ : Type} [Rep α] [Rep β] [Rep γ] {ta tb tc : TE} {x : α} {y : β} {z : γ} {a b : Bool} (ha : ET ta σ F x) (hb : ET tb σ F y) (hc : a = true → ET tc σ F z)
    (hr : ∀ F1 H1 v w (Q : VK), Ex F1 H1 → Is F1 v x → Is F1 w y → (∀ u F2 H2, Grow F1 H1 F2 H2 → Is F2 u a → Q u H2) → r v w H1 Q)
    (hr' : a = true → ∀ F1 H1 v w (Q : VK), Ex F1 H1 → Is F1 v y → Is F1 w z → (∀ u F2 H2, Grow F1 H1 F2 H2 → Is F2 u b → Q u H2) → r' v w H1 Q) : ET (tChain r r' ta tb tc) σ F (a && b) := fun H e Q k =>
  ha H e _ fun v F1 H1 g1 i1 => (hb.mono g1.ff) H1 g1.fh _ fun w F2 H2 g2 i2 => hr F2 H2 v w _ g2.fh (g2.ff.is i1) i2 fun u F3 H3 g3 i3 => ⟨a, i3, by
    cases a with
    | false => exact k _ F3 H3 ((g1.trans g2).trans g3) rfl
    | true =>
      show tc σ H3 fun w' H4 => r' w w' H4 Q
      have g13 := (g1.trans g2).trans g3
      exact ((hc rfl).mono g13.ff) H3 g13.fh _ fun w' F4 H4 g4 i4 => hr' rfl F4 H4 w w' Q g4.fh (Rep.mono (g3.ff.trans g4.ff) i2) i4 fun u5 F5 H5 g5 i5 => k u5 F5 H5 (g13.trans (g4.trans g5)) i5⟩
theorem et_leLe {ta tb tc : TE} {x y z : Int} (ha : ET ta σ F x) (hb : ET tb σ F y) (hc : ET tc σ F z) :
    ET (tChain (rI0 fun i j => .bl (decide (i ≤ j))) (rI0 fun i j => .bl (decide (i ≤ j))) ta tb tc) σ F (decide (x ≤ y) && decide (y ≤ z)) :=
  et_chain ha hb (fun _ => hc) (fun F1 H1 v w Q e1 hv hw k => ⟨x, y, hv, hw, k _ F1 H1 (.refl e1) rfl⟩) (fun _ F1 H1 v w Q e1 hv hw k => ⟨y, z, hv, hw, k _ F1 H1 (.refl e1) rfl⟩)
/-! arguments, displays -/
theorem ea_nil : EA tNil σ F () := fun H e Q k => k [] F H (.refl e) rfl
theorem ea_cons {α A : Type} [Rep α] [RepA A] {ta : TE} {tr : TA} {x : α} {r : A} (h : ET ta σ F x) (t : EA tr σ F r) : EA (tCons ta tr) σ F (x, r) := fun H e Q k =>
  h H e _ fun v F1 H1 g1 i1 => (t.mono g1.ff) H1 g1.fh _ fun vs F2 H2 g2 i2 => k (v :: vs) F2 H2 (g1.trans g2) ⟨v, vs, rfl, g2.ff.is i1, i2⟩
theorem ea1 {α : Type} [Rep α] {ta : TE} {x : α} (h : ET ta σ F x) : EA (tCons ta tNil) σ F (x, ()) := ea_cons h ea_nil
theorem ea2 {α β : Type} [Rep α] [Rep β] {ta tb : TE} {x : α} {y : β} (h : ET ta σ F x) (h2 : ET tb σ F y) : EA (tCons ta (tCons tb tNil)) σ F (x, y, ()) := ea_cons h (ea1 h2)
/-- items of one list -/
def EAs {α : Type} [Rep α] (ta : TA) (σ : St) (F : Hp) (xs : List α) : Prop := EAR ta σ F fun F2 vs => All2 (Rep.is F2) vs xs
theorem EAs.mono {α : Type} [Rep α] {ta : TA} {xs : List α} (h : EAs ta σ F xs) (e : Ex F G) : EAs ta σ G xs := fun H hg Q k =>
  h H (e.trans hg) Q fun vs F2 H2 g i => let ⟨g2, y⟩ := g.widen e hg; k vs _ H2 g2 (i.mono fun _ _ z => Rep.mono y z)
theorem eas_nil {α : Type} [Rep α] : EAs (α := α) tNil σ F [] := fun H e Q k => k [] F H (.refl e) .nil
theorem eas_cons {α : Type} [Rep α] {ta : TE} {tr : TA} {x : α} {xs : List α} (h : ET ta σ F x) (t : EAs tr σ F xs) : EAs (tCons ta tr) σ F (x :: xs) := fun H e Q k =>
  h H e _ fun v F1 H1 g1 i1 => (t.mono g1.ff) H1 g1.fh _ fun vs F2 H2 g2 i2 => k (v :: vs) F2 H2 (g1.trans g2) (.cons (g2.ff.is i1) i2)
theorem sz_le {n : Nat} (h : n ≤ 100000) : n ≤ sizeLine := Nat.le_trans h (by decide)
theorem sz_lt {n : Nat} (h : n < 100000) : n < sizeLine := Nat.lt_of_lt_of_le h (by decide)
theorem et_lst {α : Type} [Rep α] {ta : TA} {xs : List α} (h : EAs ta σ F xs) (hz : xs.length ≤ 100000) : ET (tLst ta) σ F xs := fun H e Q k =>
  h H e _ fun vs F1 H1 g1 i1 => ⟨by rw [i1.len]; exact sz_le hz, fun p hp =>
    k _ _ _ (g1.trans (.new g1.fh hp)) ⟨p, vs, rfl, upd_same, i1.mono fun _ _ z => Rep.mono (ex_upd (ex_none g1.fh hp)) z⟩⟩
theorem et_tup {α : Type} [Rep α] {ta : TA} {xs : List α} (h : EAs ta σ F xs) (hz : xs.length ≤ 100000) : ET (tTup ta) σ F (Tup.mk xs) := fun H e Q k =>
  h H e _ fun vs F1 H1 g1 i1 => ⟨by rw [i1.len]; exact sz_le hz, fun p hp =>
    k _ _ _ (g1.trans (.new g1.fh hp)) ⟨p, vs, rfl, upd_same, i1.mono fun _ _ z => Rep.mono (ex_upd (ex_none g1.fh hp)) z⟩⟩
theorem et_pair {α β : Type} [Rep α] [Rep β] {ta tb : TE} {x : α} {y : β} (h : ET ta σ F x) (h2 : ET tb σ F y) : ET (tTup (tCons ta (tCons tb tNil))) σ F (x, y) := fun H e Q k =>
  h H e _ fun v F1 H1 g1 i1 => (h2.mono g1.ff) H1 g1.fh _ fun w F2 H2 g2 i2 => ⟨show 2 ≤ sizeLine by decide, fun p hp =>
    have e2 := ex_upd (o := .tup [v, w]) (ex_none g2.fh hp)
    k _ _ _ ((g1.trans g2).trans (.new g2.fh hp)) ⟨p, v, w, rfl, upd_same, Rep.mono (g2.ff.trans e2) i1, Rep.mono e2 i2⟩⟩
theorem et_trip {α β γ : Type} [Rep α] [Rep β] [Rep γ] {ta tb tc : TE} {x : α} {y : β} {z : γ} (h : ET ta σ F x) (h2 : ET tb σ F y) (h3 : ET tc σ F z) : ET (tTup (tCons ta (tCons tb (tCons tc tNil)))) σ F (T3.mk x y z) := fun H e Q k =>
  h H e _ fun v F1 H1 g1 i1 => (h2.mono g1.ff) H1 g1.fh _ fun w F2 H2 g2 i2 => (h3.mono (g1.ff.trans g2.ff)) H2 g2.fh _ fun u F3 H3 g3 i3 => ⟨show 3 ≤ sizeLine by decide, fun p hp =>
    have e2 := ex_upd (o := .tup [v, w, u]) (ex_none g3.fh hp)
    k _ _ _ (((g1.trans g2).trans g3).trans (.new g3.fh hp)) ⟨p, v, w, u, rfl, upd_same, Rep.mono ((g2.ff.trans g3.ff).trans e2) i1, Rep.mono (g3.ff.trans e2) i2, Rep.mono e2 i3⟩⟩
/-! subscripts -/
theorem atI_of {α : Type} {xs : List α} {i : Nat} {x : α} (h : xs[i]? = some x) : atI xs (i : Int) = some x := atI_nat h
theorem et_ixL {α : Type} [Rep α] {K : PySem.W.Frag} {ta tb : TE} {xs : List α} {i : Nat} {x : α} (ha : ET ta σ F xs) (hb : ET tb σ F i) (h : xs[i]? = some x) : ET (tOp (rIx K) ta tb) σ F x :=
  et_op ha hb fun F1 H1 v w Q _ e1 ⟨a, vs, hv, ha, hs⟩ hw k => by
    obtain ⟨u, hu, iu⟩ := hs.get h
    exact .inl ⟨a, vs, _, u, hv, hw, SqL.of (e1 _ _ ha), atI_of hu, k u F1 H1 (.refl e1) iu⟩
theorem et_ixLast {α : Type} [Rep α] {K : PySem.W.Frag} {ta tb : TE} {xs : List α} {x : α} (ha : ET ta σ F (xs ++ [x])) (hb : ET tb σ F (-1 : Int)) : ET (tOp (rIx K) ta tb) σ F x :=
  et_op ha hb fun F1 H1 v w Q _ e1 ⟨a, vs, hv, ha, hs⟩ hw k => by
    have hz : (xs ++ [x])[xs.length]? = some x := by simp
    obtain ⟨u, hu, iu⟩ := hs.get hz
    have hl : vs.length = xs.length + 1 := by rw [hs.len]; simp
    refine .inl ⟨a, vs, -1, u, hv, hw, SqL.of (e1 _ _ ha), ?_, k u F1 H1 (.refl e1) iu⟩
    unfold atI ixN
    rw [if_neg (by omega), if_pos (by omega)]
    show vs[((-1 : Int) + (vs.length : Int)).toNat]? = some u
    rw [show ((-1 : Int) + (vs.length : Int)).toNat = xs.length by omega]
    exact hu
theorem et_fst {α β : Type} [Rep α] [Rep β] {K : PySem.W.Frag} {ta : TE} {x : α × β} (ha : ET ta σ F x) : ET (tOp (rIx K) ta (tC (.int 0))) σ F x.1 :=
  et_op ha (et_int (i := 0)) fun F1 H1 v w Q _ e1 ⟨a, u, z, hv, ha, h1, h2⟩ hw k => .inr (.inl ⟨a, [u, z], 0, u, hv, hw, SqT.of (e1 _ _ ha), atI_of (i := 0) rfl, k u F1 H1 (.refl e1) h1⟩)
theorem et_snd {α β : Type} [Rep α] [Rep β] {K : PySem.W.Frag} {ta : TE} {x : α × β} (ha : ET ta σ F x) : ET (tOp (rIx K) ta (tC (.int 1))) σ F x.2 :=
  et_op ha (et_int (i := 1)) fun F1 H1 v w Q _ e1 ⟨a, u, z, hv, ha, h1, h2⟩ hw k => .inr (.inl ⟨a, [u, z], 1, z, hv, hw, SqT.of (e1 _ _ ha), atI_of (i := 1) rfl, k z F1 H1 (.refl e1) h2⟩)
theorem et_ixT {α : Type} [Rep α] {K : PySem.W.Frag} {ta tb : TE} {xs : Tup α} {i : Nat} {x : α} (ha : ET ta σ F xs) (hb : ET tb σ F i) (h : xs.l[i]? = some x) : ET (tOp (rIx K) ta tb) σ F x :=
  et_op ha hb fun F1 H1 v w Q _ e1 ⟨a, vs, hv, ha, hs⟩ hw k => by
    obtain ⟨u, hu, iu⟩ := hs.get h
    exact .inr (.inl ⟨a, vs, _, u, hv, hw, SqT.of (e1 _ _ ha), atI_of hu, k u F1 H1 (.refl e1) iu⟩)
theorem et_ixO {K : PySem.W.Frag} {ta tb : TE} {o : Od} {i : Nat} {b : Bool} (ha : ET ta σ F o) (hb : ET tb σ F i) (h : o.l[i]? = some b) (hz : o.l.length ≤ 100000) : ET (tOp (rIx K) ta tb) σ F (Ltr.mk b) :=
  et_op ha hb fun F1 H1 v w Q _ e1 hv hw k => by
    refine .inr (.inr ⟨o.str, _, code b, hv, hw, ?_, atI_of (i := i) ?_, k _ F1 H1 (.refl e1) rfl⟩)
    · show o.str.cps.size ≤ sizeLine
      unfold Od.str
      rw [List.size_toArray, List.length_map]
      exact sz_le hz
    · show (o.l.map code).toArray.toList[i]? = some (code b)
      rw [List.getElem?_map, h]
      rfl
end
end LT
/-! ## LTy2 -/
set_option Elab.async false
set_option linter.all false
set_option maxRecDepth 100000
set_option maxHeartbeats 4000000
/-! Statements, loops, comprehensions, calls, by typed values. -/
namespace LT
open PySem PySem.Spec PyProof.Rows L2
/-! ### what is walked -/
structure Walks {α : Type} [Rep α] (J : It) (F : Hp) (xs : List α) : Prop where
  go : ∀ i H, Ex F H → i < xs.length → J.go i H
  stop : ∀ i H, Ex F H → i = xs.length → J.stop i H
  yld : ∀ i H v H' x, Ex F H → xs[i]? = some x → J.yld i H v H' → ∃ F', Grow F H F' H' ∧ Is F' v x
def EIt {α : Type} [Rep α] (wi : TI) (σ : St) (F : Hp) (xs : List α) : Prop := ∀ H, Ex F H → ∀ R : It → Hp → Prop, (∀ J F2 H2, Grow F H F2 H2 → Walks J F2 xs → R J H2) → wi σ H R
theorem Walks.mono {α : Type} [Rep α] {J : It} {F G : Hp} {xs : List α} (w : Walks J F xs) (e : Ex F G) : Walks J G xs where
  go i H h hi := w.go i H (e.trans h) hi
  stop i H h hi := w.stop i H (e.trans h) hi
  yld i H v H' x h hx hy :=
    let ⟨F', g, i⟩ := w.yld i H v H' x (e.trans h) hx hy
    let ⟨g2, y⟩ := g.widen e h
    ⟨_, g2, Rep.mono y i⟩
section
variable {σ : St} {F : Hp} {K : PySem.W.Frag}
theorem EIt.mono {α : Type} [Rep α] {wi : TI} {G : Hp} {xs : List α} (h : EIt wi σ F xs) (e : Ex F G) : EIt wi σ G xs := fun H hg R k =>
  h H (e.trans hg) R fun J F2 H2 g w => let ⟨g2, y⟩ := g.widen e hg; k J _ H2 g2 (w.mono y)
theorem EIt.to {α : Type} [Rep α] {wi : TI} {xs ys : List α} (h : EIt wi σ F xs) (e : xs = ys) : EIt wi σ F ys := e ▸ h
theorem sql_one {H : Hp} {a : Addr} {vs ws : List V} (h : H a = some (.lst vs)) : SqL K H a vs := SqL.of h
theorem ei_list {α : Type} [Rep α] {tl : TE} {xs : List α} (h : ET tl σ F xs) : EIt (iList K tl) σ F xs := fun H e R k =>
  h H e _ fun v F1 H1 g1 ⟨a, vs, hv, ha, hs⟩ => ⟨a, hv, ⟨vs, SqL.of (g1.fh _ _ ha)⟩, k _ F1 H1 g1 {
    go := fun i H2 e2 hi => ⟨vs, vs[i]'(by rw [hs.len]; exact hi), SqL.of (e2 _ _ ha), List.getElem?_eq_getElem _⟩
    stop := fun i H2 e2 hi => ⟨vs, SqL.of (e2 _ _ ha), by rw [hs.len]; exact Nat.le_of_eq hi.symm⟩
    yld := fun i H2 v H' x e2 hx hy => by
      obtain ⟨rfl, hy⟩ := hy
      exact ⟨F1, .refl e2, hs.at_ i v x (hy vs (SqL.of (e2 _ _ ha))) hx⟩ }⟩
theorem ei_tup {α : Type} [Rep α] {tl : TE} {xs : List α} (h : ET tl σ F (Tup.mk xs)) : EIt (iTup K tl) σ F xs := fun H e R k =>
  h H e _ fun v F1 H1 g1 ⟨a, vs, hv, ha, hs⟩ => ⟨a, hv, ⟨vs, SqT.of (g1.fh _ _ ha)⟩, k _ F1 H1 g1 {
    go := fun i H2 e2 hi => ⟨vs, vs[i]'(by rw [hs.len]; exact hi), SqT.of (e2 _ _ ha), List.getElem?_eq_getElem _⟩
    stop := fun i H2 e2 hi => ⟨vs, SqT.of (e2 _ _ ha), by rw [hs.len]; exact Nat.le_of_eq hi.symm⟩
    yld := fun i H2 v H' x e2 hx hy => by
      obtain ⟨rfl, hy⟩ := hy
      exact ⟨F1, .refl e2, hs.at_ i v x (hy vs (SqT.of (e2 _ _ ha))) hx⟩ }⟩
theorem ei_rng1 {ta : TA} {j : Int} {n : Nat} (h : EA ta σ F (j, ())) (e : j.toNat = n) (h1 : -100000 ≤ j) (h2 : j ≤ 100000) : EIt (iRng1 ta) σ F (List.range n) := fun H e0 R k =>
  h H e0 _ fun vs F1 H1 g1 ⟨v, ws, hv, i1, i2⟩ => ⟨j, by rw [hv, i1, i2], by omega, by omega, by
    rw [e]
    exact k _ F1 H1 g1 {
      go := fun i H2 e2 hi => by rw [List.length_range] at hi; exact hi
      stop := fun i H2 e2 hi => by rw [List.length_range] at hi; exact Nat.le_of_eq hi.symm
      yld := fun i H2 v H' x e2 hx hy => by
        obtain ⟨rfl, rfl⟩ := hy
        rw [List.getElem?_range (by
          have := (List.getElem?_eq_some_iff.mp hx).1
          rw [List.length_range] at this; exact this)] at hx
        cases hx
        exact ⟨F1, .refl e2, congrArg V.int (by omega)⟩ }⟩
theorem ei_rngN {ta : TA} {n : Nat} (h : EA ta σ F (n, ())) (h2 : n ≤ 100000) : EIt (iRng1 ta) σ F (List.range n) := ei_rng1 (j := n) (n := n) h (by omega) (by omega) (by omega)
theorem ei_rng2 {ta : TA} {a b : Nat} (h : EA ta σ F (a, b, ())) (h1 : a ≤ 100000) (h2 : b ≤ 100000) : EIt (iRng2 ta) σ F (List.range' a (b - a)) := fun H e0 R k =>
  h H e0 _ fun vs F1 H1 g1 ⟨v, ws, hv, i1, w, ws', hw, i2, i3⟩ => ⟨a, b, by rw [hv, i1, hw, i2, i3], ⟨by omega, by omega, by omega, by omega⟩, by
    rw [show ((b : Int) - (a : Int)).toNat = b - a by omega]
    exact k _ F1 H1 g1 {
      go := fun i H2 e2 hi => by rw [List.length_range'] at hi; exact hi
      stop := fun i H2 e2 hi => by rw [List.length_range'] at hi; exact Nat.le_of_eq hi.symm
      yld := fun i H2 v H' x e2 hx hy => by
        obtain ⟨rfl, rfl⟩ := hy
        rw [List.getElem?_range' (by
          have := (List.getElem?_eq_some_iff.mp hx).1
          rw [List.length_range'] at this; exact this)] at hx
        cases hx
        exact ⟨F1, .refl e2, congrArg V.int (by omega)⟩ }⟩
/-- range(n, -1, -1) -/
theorem ei_down {ta : TA} {n : Nat} (h : EA ta σ F (n, (-1 : Int), (-1 : Int), ())) (h1 : n ≤ 100000) : EIt (iRng3 ta) σ F (List.range (n + 1)).reverse := fun H e0 R k =>
  h H e0 _ fun vs F1 H1 g1 ⟨v, ws, hv, i1, w, ws', hw, i2, u, ws2, hu, i3, i4⟩ => ⟨n, -1, -1, n + 1, by rw [hv, i1, hw, i2, hu, i3, i4], by
    have := RgC.neg (i := (n : Int)) (j := -1) (by omega) (by omega) (by omega) (by omega)
    rwa [show ((n : Int) - -1).toNat = n + 1 by omega] at this, by
    exact k _ F1 H1 g1 {
      go := fun i H2 e2 hi => by rw [List.length_reverse, List.length_range] at hi; exact hi
      stop := fun i H2 e2 hi => by rw [List.length_reverse, List.length_range] at hi; exact Nat.le_of_eq hi.symm
      yld := fun i H2 v H' x e2 hx hy => by
        obtain ⟨rfl, rfl⟩ := hy
        have hl := (List.getElem?_eq_some_iff.mp hx).1
        rw [List.length_reverse, List.length_range] at hl
        rw [List.getElem?_reverse (by rw [List.length_range]; exact hl), List.length_range, List.getElem?_range (by omega)] at hx
        cases hx
        exact ⟨F1, .refl e2, congrArg V.int (by omega)⟩ }⟩
theorem ei_str {te : TE} {o : Od} (h : ET te σ F o) : EIt (iStr te) σ F (o.l.map Ltr.mk) := fun H e R k =>
  h H e _ fun v F1 H1 g1 hv => ⟨o.str, hv, by
    have hsz : o.str.cps.size = (o.l.map Ltr.mk).length := by unfold Od.str; simp
    exact k _ F1 H1 g1 {
      go := fun i H2 e2 hi => by show i < o.str.cps.size; rw [hsz]; exact hi
      stop := fun i H2 e2 hi => by show o.str.cps.size ≤ i; rw [hsz]; exact Nat.le_of_eq hi.symm
      yld := fun i H2 v H' x e2 hx hy => by
        obtain ⟨rfl, c, hc, rfl⟩ := hy
        refine ⟨F1, .refl e2, ?_⟩
        rw [List.getElem?_map] at hx
        cases eb : o.l[i]? with
        | none => rw [eb] at hx; cases hx
        | some b =>
          rw [eb] at hx
          cases hx
          have h2 : o.str.cps[i]? = some (code b) := by
            unfold Od.str
            simp [eb]
          rw [h2] at hc
          cases hc
          rfl }⟩
def en {α : Type} (xs : List α) : List (Nat × α) := xs.mapIdx fun i x => (i, x)
theorem en_get {α : Type} {xs : List α} {i : Nat} {p : Nat × α} (h : (en xs)[i]? = some p) : p.1 = i ∧ xs[i]? = some p.2 := by
  unfold en at h
  rw [List.getElem?_mapIdx] at h
  cases e : xs[i]? with
  | none => rw [e] at h; cases h
  | some x => rw [e] at h; cases h; exact ⟨rfl, rfl⟩
theorem en_len {α : Type} {xs : List α} : (en xs).length = xs.length := by unfold en; simp
theorem ei_enum {α : Type} [Rep α] {ta : TA} {xs : List α} (h : EA ta σ F (xs, ())) : EIt (iEnum K ta) σ F (en xs) := fun H e R k =>
  h H e _ fun ws F1 H1 g1 ⟨v, ws', hv, ⟨a, vs, hv2, ha, hs⟩, hw⟩ => ⟨a, vs, by rw [hv, hv2, hw], SqL.of (g1.fh _ _ ha), k _ F1 H1 g1 {
    go := fun i H2 e2 hi => by
      rw [en_len] at hi
      exact ⟨vs, vs[i]'(by rw [hs.len]; exact hi), SqL.of (e2 _ _ ha), List.getElem?_eq_getElem _⟩
    stop := fun i H2 e2 hi => by
      rw [en_len] at hi
      exact ⟨vs, SqL.of (e2 _ _ ha), by rw [hs.len]; exact Nat.le_of_eq hi.symm⟩
    yld := fun i H2 v H' x e2 hx hy => by
      obtain ⟨T, y, rfl, hT, rfl, hy⟩ := hy
      obtain ⟨e1, hx2⟩ := en_get hx
      have iy := hs.at_ i y x.2 (hy vs (SqL.of (e2 _ _ ha))) hx2
      exact ⟨_, Grow.new e2 hT, T, .int (i : Nat), y, rfl, upd_same, congrArg V.int (by rw [e1]), Rep.mono (ex_upd (ex_none e2 hT)) iy⟩ }⟩
theorem zip_get {α β : Type} {xs : List α} {ys : List β} {i : Nat} {p : α × β} (h : (xs.zip ys)[i]? = some p) : xs[i]? = some p.1 ∧ ys[i]? = some p.2 := by
  rw [List.getElem?_zip_eq_some] at h
  exact h
theorem ei_zip {α β : Type} [Rep α] [Rep β] {ta : TA} {xs : List α} {ys : List β} (h : EA ta σ F (xs, ys, ())) : EIt (iZip K ta) σ F (xs.zip ys) := fun H e R k =>
  h H e _ fun ws F1 H1 g1 ⟨v, ws', hv, ⟨a, vs, hv2, ha, hs⟩, w, ws2, hw, ⟨b, us, hu2, hb, ht⟩, hn⟩ => ⟨a, b, vs, us, by rw [hv, hv2, hw, hu2, hn], SqL.of (g1.fh _ _ ha), SqL.of (g1.fh _ _ hb), k _ F1 H1 g1 {
    go := fun i H2 e2 hi => by
      rw [List.length_zip] at hi
      have l1 : vs.length = xs.length := hs.len
      have l2 : us.length = ys.length := ht.len
      exact ⟨vs, us, vs[i]'(by omega), us[i]'(by omega), SqL.of (e2 _ _ ha), SqL.of (e2 _ _ hb), List.getElem?_eq_getElem _, List.getElem?_eq_getElem _⟩
    stop := fun i H2 e2 hi => by
      rw [List.length_zip] at hi
      have l1 : vs.length = xs.length := hs.len
      have l2 : us.length = ys.length := ht.len
      refine ⟨vs, us, SqL.of (e2 _ _ ha), SqL.of (e2 _ _ hb), ?_⟩
      omega
    yld := fun i H2 v H' x e2 hx hy => by
      obtain ⟨T, y, z, rfl, hT, rfl, hy, hz⟩ := hy
      obtain ⟨hx1, hx2⟩ := zip_get hx
      have iy := hs.at_ i y x.1 (hy vs (SqL.of (e2 _ _ ha))) hx1
      have iz := ht.at_ i z x.2 (hz us (SqL.of (e2 _ _ hb))) hx2
      have ee := ex_upd (o := .tup [y, z]) (ex_none e2 hT)
      exact ⟨_, Grow.new e2 hT, T, y, z, rfl, upd_same, Rep.mono ee iy, Rep.mono ee iz⟩ }⟩

/-! ### comprehensions -/
theorem take_fm {α β : Type} {xs : List α} {p : α → Bool} {f : α → β} {i : Nat} {x : α} (h : xs[i]? = some x) :
    ((xs.take (i + 1)).filter p).map f = ((xs.take i).filter p).map f ++ (if p x = true then [f x] else []) := by
  rw [List.take_add_one, h]
  show (List.filter p (List.take i xs ++ [x])).map f = _
  rw [List.filter_append, List.map_append]
  congr 1
  by_cases e : p x = true
  · rw [List.filter_cons, if_pos e, if_pos e]; rfl
  · rw [List.filter_cons, if_neg e, if_neg e]; rfl
/-- [elt for target in iter if test], over any target: S tells the slots behind the target's assignment -/
theorem et_lcG {α β : Type} [Rep α] [Rep β] {wi : TI} {g : TG} {tt : TT} {te : TE} {vs : List Nat} {xs : List α} {p : α → Bool} {f : α → β} (S : α → Hp → St → Prop) (hi : EIt wi σ F xs)
    (hg : ∀ x, x ∈ xs → ∀ F1 H1 v, Ex F F1 → Ex F1 H1 → Is F1 v x → ∀ Q : St → Hp → Prop, (∀ σ2, S x F1 σ2 → Q σ2 H1) → g v (wipe σ vs) H1 Q)
    (hw : ∀ x F1 σ2, S x F1 σ2 → wipe σ2 vs = wipe σ vs)
    (ht : ∀ x, x ∈ xs → ∀ F1 σ2, Ex F F1 → S x F1 σ2 → EB tt σ2 F1 (p x))
    (he : ∀ x, x ∈ xs → ∀ F1 σ2, Ex F F1 → S x F1 σ2 → p x = true → ET te σ2 F1 (f x)) (hz : xs.length ≤ 50000) : ET (tLc wi g tt te vs) σ F ((xs.filter p).map f) := fun H e Q k =>
  hi H e _ fun J F1 H1 g1 w D hD => by
    have hD1 : F1 D = none := ex_none g1.fh hD
    refine ⟨fun i m H' => m = xs.length - i ∧ i ≤ xs.length ∧ ∃ Fi acc, Grow F1 H1 Fi H' ∧ Fi D = none ∧ H' D = some (.lst acc) ∧ All2 (Rep.is Fi) acc (((xs.take i).filter p).map f),
      ⟨xs.length, rfl, Nat.zero_le _, F1, [], (Grow.refl g1.fh).mut hD1 hD, hD1, upd_same, .nil⟩, ?_⟩
    rintro i m H2 ⟨rfl, hi, Fi, acc, gi, hDi, hHD, ha⟩
    by_cases hlt : i < xs.length
    · have hx : xs[i]? = some xs[i] := List.getElem?_eq_getElem hlt
      have hm : xs[i] ∈ xs := List.getElem_mem hlt
      have wi := w.mono gi.ff
      refine .inr ⟨wi.go i H2 gi.fh hlt, fun H' => i + 1 ≤ xs.length ∧ ∃ Fi acc, Grow F1 H1 Fi H' ∧ Fi D = none ∧ H' D = some (.lst acc) ∧ All2 (Rep.is Fi) acc (((xs.take (i + 1)).filter p).map f), fun H' h => ⟨xs.length - (i + 1), by omega, rfl, h.1, h.2⟩, fun v H' hy => ?_⟩
      obtain ⟨F3, g3, iv⟩ := wi.yld i H2 v H' _ gi.fh hx hy
      have hD3 : F3 D = none := g3.off hDi hHD
      have hH3 := g3.hh _ _ hHD
      have eF3 : Ex F F3 := g1.ff.trans (gi.ff.trans g3.ff)
      refine hg _ hm F3 H' v eF3 g3.fh iv _ fun σ2 hS => ⟨hw _ _ _ hS, ?_⟩
      refine (ht _ hm F3 σ2 eF3 hS) H' g3.fh _ fun F4 H4 g4 => ?_
      have hD4 : F4 D = none := g4.off hD3 hH3
      have hH4 := g4.hh _ _ hH3
      have g14 := gi.trans (g3.trans g4)
      by_cases hp : p xs[i] = true
      · rw [if_pos hp]
        refine ((he _ hm F3 σ2 eF3 hS hp).mono g4.ff) H4 g4.fh _ fun y F5 H5 g5 iy => ?_
        have hD5 : F5 D = none := g5.off hD4 hH4
        have hl : acc.length ≤ xs.length := by
          rw [ha.len, List.length_map]
          exact Nat.le_trans (List.length_filter_le _ _) (by rw [List.length_take]; omega)
        refine ⟨acc, g5.hh _ _ hH4, sz_lt (by omega), hlt, F5, _, (g14.trans g5).mut hD5 hD, hD5, upd_same, ?_⟩
        rw [take_fm hx, if_pos hp]
        exact (ha.mono fun _ _ z => Rep.mono (g3.ff.trans (g4.ff.trans g5.ff)) z).snoc iy
      · rw [if_neg hp]
        refine ⟨hlt, F4, acc, g14, hD4, hH4, ?_⟩
        rw [take_fm hx, if_neg hp, List.append_nil]
        exact ha.mono fun _ _ z => Rep.mono (g3.ff.trans g4.ff) z
    · have e2 : i = xs.length := by omega
      subst e2
      refine .inl ⟨w.stop _ H2 gi.fh0 rfl, ?_⟩
      rw [List.take_of_length_le (Nat.le_refl _)] at ha
      exact k (.ref D) _ H2 (g1.trans (gi.frz hDi hD hHD)) ⟨D, acc, rfl, upd_same, ha.mono fun _ _ z => Rep.mono (ex_upd hDi) z⟩
/-- [.. for x in ..], x in slot j -/
theorem et_lcN {α β : Type} [Rep α] [Rep β] {wi : TI} {tt : TT} {te : TE} {j : Nat} {vs : List Nat} {xs : List α} {p : α → Bool} {f : α → β} (hi : EIt wi σ F xs)
    (hw : ∀ v, wipe ((wipe σ vs).set j (some v)) vs = wipe σ vs)
    (ht : ∀ x, x ∈ xs → ∀ F1 v, Ex F F1 → Is F1 v x → EB tt ((wipe σ vs).set j (some v)) F1 (p x))
    (he : ∀ x, x ∈ xs → ∀ F1 v, Ex F F1 → Is F1 v x → p x = true → ET te ((wipe σ vs).set j (some v)) F1 (f x)) (hz : xs.length ≤ 50000) : ET (tLc wi (gName j) tt te vs) σ F ((xs.filter p).map f) :=
  et_lcG (fun x F1 σ2 => ∃ v, σ2 = (wipe σ vs).set j (some v) ∧ Is F1 v x) hi (fun x _ F1 H1 v _ _ i Q q => q _ ⟨v, rfl, i⟩) (fun x F1 σ2 ⟨v, e, _⟩ => by rw [e]; exact hw v)
    (fun x hx F1 σ2 e ⟨v, e2, i⟩ => by rw [e2]; exact ht x hx F1 v e i) (fun x hx F1 σ2 e ⟨v, e2, i⟩ hp => by rw [e2]; exact he x hx F1 v e i hp) hz
/-- [.. for x, y in ..] -/
theorem et_lcP {α α' β : Type} [Rep α] [Rep α'] [Rep β] {wi : TI} {tt : TT} {te : TE} {j l : Nat} {vs : List Nat} {xs : List (α × α')} {p : α × α' → Bool} {f : α × α' → β} (hi : EIt wi σ F xs)
    (hw : ∀ v u, wipe (((wipe σ vs).set j (some v)).set l (some u)) vs = wipe σ vs)
    (ht : ∀ x, x ∈ xs → ∀ F1 v u, Ex F F1 → Is F1 v x.1 → Is F1 u x.2 → EB tt (((wipe σ vs).set j (some v)).set l (some u)) F1 (p x))
    (he : ∀ x, x ∈ xs → ∀ F1 v u, Ex F F1 → Is F1 v x.1 → Is F1 u x.2 → p x = true → ET te (((wipe σ vs).set j (some v)).set l (some u)) F1 (f x)) (hz : xs.length ≤ 50000) :
    ET (tLc wi (gTup K 2 (gCons (gName j) (gCons (gName l) gNil))) tt te vs) σ F ((xs.filter p).map f) :=
  et_lcG (fun x F1 σ2 => ∃ v u, σ2 = ((wipe σ vs).set j (some v)).set l (some u) ∧ Is F1 v x.1 ∧ Is F1 u x.2) hi
    (fun x _ F1 H1 v _ e1 ⟨a, u, z, hv, ha, h1, h2⟩ Q q => ⟨a, [u, z], hv, SqT.of (e1 _ _ ha), rfl, u, [z], rfl, z, [], rfl, rfl, q _ ⟨u, z, rfl, h1, h2⟩⟩) (fun x F1 σ2 ⟨v, u, e, _⟩ => by rw [e]; exact hw v u)
    (fun x hx F1 σ2 e ⟨v, u, e2, i, i2⟩ => by rw [e2]; exact ht x hx F1 v u e i i2) (fun x hx F1 σ2 e ⟨v, u, e2, i, i2⟩ hp => by rw [e2]; exact he x hx F1 v u e i i2 hp) hz
theorem et_lcT {α α' α2 β : Type} [Rep α] [Rep α'] [Rep α2] [Rep β] {wi : TI} {tt : TT} {te : TE} {j l m : Nat} {vs : List Nat} {xs : List (T3 α α' α2)} {p : T3 α α' α2 → Bool} {f : T3 α α' α2 → β} (hi : EIt wi σ F xs)
    (hw : ∀ v u z, wipe ((((wipe σ vs).set j (some v)).set l (some u)).set m (some z)) vs = wipe σ vs)
    (ht : ∀ x, x ∈ xs → ∀ F1 v u z, Ex F F1 → Is F1 v x.a → Is F1 u x.b → Is F1 z x.c → EB tt ((((wipe σ vs).set j (some v)).set l (some u)).set m (some z)) F1 (p x))
    (he : ∀ x, x ∈ xs → ∀ F1 v u z, Ex F F1 → Is F1 v x.a → Is F1 u x.b → Is F1 z x.c → p x = true → ET te ((((wipe σ vs).set j (some v)).set l (some u)).set m (some z)) F1 (f x)) (hz : xs.length ≤ 50000) :
    ET (tLc wi (gTup K 3 (gCons (gName j) (gCons (gName l) (gCons (gName m) gNil)))) tt te vs) σ F ((xs.filter p).map f) :=
  et_lcG (fun x F1 σ2 => ∃ v u z, σ2 = (((wipe σ vs).set j (some v)).set l (some u)).set m (some z) ∧ Is F1 v x.a ∧ Is F1 u x.b ∧ Is F1 z x.c) hi
    (fun x _ F1 H1 v _ e1 ⟨a, u, z, y, hv, ha, h1, h2, h3⟩ Q q => ⟨a, [u, z, y], hv, SqT.of (e1 _ _ ha), rfl, u, [z, y], rfl, z, [y], rfl, y, [], rfl, rfl, q _ ⟨u, z, y, rfl, h1, h2, h3⟩⟩) (fun x F1 σ2 ⟨v, u, z, e, _⟩ => by rw [e]; exact hw v u z)
    (fun x hx F1 σ2 e ⟨v, u, z, e2, i, i2, i3⟩ => by rw [e2]; exact ht x hx F1 v u z e i i2 i3) (fun x hx F1 σ2 e ⟨v, u, z, e2, i, i2, i3⟩ hp => by rw [e2]; exact he x hx F1 v u z e i i2 i3 hp) hz
theorem eb_yes : EB tYes σ F true := fun H e Q k => k F H (.refl e)
theorem filter_yes {α : Type} {xs : List α} : xs.filter (fun _ => true) = xs := List.filter_eq_self.mpr fun _ _ => rfl
/-! ### statements -/
variable {D : Ends} {te : TE} {H : Hp}
theorem st_ret {R : Hp → V → Prop} (h : ER te σ F R) (hF : Ex F H) (k : ∀ v F2 H2, Grow F H F2 H2 → R F2 v → D.rt v H2) : tRet te D σ H := h H hF _ k
theorem st_set {R : Hp → V → Prop} {i : Nat} (h : ER te σ F R) (hF : Ex F H) (k : ∀ v F2 H2, Grow F H F2 H2 → R F2 v → D.nx (σ.set i (some v)) H2) : tAsg te (gName i) D σ H := h H hF _ k
theorem st_drop {R : Hp → V → Prop} (h : ER te σ F R) (hF : Ex F H) (k : ∀ v F2 H2, Grow F H F2 H2 → R F2 v → D.nx σ H2) : tDrop te D σ H := h H hF _ k
theorem st_if {t : TT} {u w : TS} {b : Bool} (h : EB t σ F b) (hF : Ex F H) (k1 : b = true → ∀ F2 H2, Grow F H F2 H2 → u D σ H2) (k2 : b = false → ∀ F2 H2, Grow F H F2 H2 → w D σ H2) : tIfS t u w D σ H := h H hF _ fun F1 H1 g1 => by
  cases b with
  | true => exact k1 rfl F1 H1 g1
  | false => exact k2 rfl F1 H1 g1
/-- x, y = a, b -/
theorem st_par {ta tb : TE} {i j : Nat} {R S : Hp → V → Prop} (h : ER ta σ F R) (h2 : ∀ F1, Ex F F1 → ER tb σ F1 S) (hR : ∀ {F G : Hp} {v : V}, Ex F G → R F v → R G v) (hF : Ex F H)
    (k : ∀ v w F2 H2, Grow F H F2 H2 → R F2 v → S F2 w → D.nx ((σ.set i (some v)).set j (some w)) H2) : tPar i j (tCons ta (tCons tb tNil)) D σ H :=
  h H hF _ fun v F1 H1 g1 r1 => (h2 F1 g1.ff) H1 g1.fh _ fun w F2 H2 g2 r2 => ⟨v, w, rfl, k v w F2 H2 (g1.trans g2) (hR g2.ff r1) r2⟩
/-- a loop: at turn i, F1 known from the walked thing's making on -/
theorem st_for {α : Type} [Rep α] {wi : TI} {g : TG} {tb : TS} {xs : List α} (Pv : Hp → Nat → St → Hp → Prop) (hi : EIt wi σ F xs) (hF : Ex F H) (h0 : ∀ F1 H1, Grow F H F1 H1 → Pv F1 0 σ H1)
    (hE : ∀ F1 i σ' H', Pv F1 i σ' H' → Ex F1 H')
    (hs : ∀ F1 i x σ' H' v F2 H2, Ex F F1 → xs[i]? = some x → Pv F1 i σ' H' → Grow F1 H' F2 H2 → Is F2 v x → g v σ' H2 fun σ2 H3 => tb { D with nx := Pv F1 (i + 1), ct := Pv F1 (i + 1), bk := D.nx } σ2 H3)
    (hd : ∀ F1 σ' H', Ex F F1 → Pv F1 xs.length σ' H' → D.nx σ' H') : tFor wi g tb D σ H :=
  hi H hF _ fun J F1 H1 g1 w => by
    refine ⟨fun i m σ' H' => m = xs.length - i ∧ i ≤ xs.length ∧ Pv F1 i σ' H', ⟨_, rfl, Nat.zero_le _, h0 F1 H1 g1⟩, ?_⟩
    rintro i m σ' H' ⟨rfl, hi, hp⟩
    have eH := hE F1 i σ' H' hp
    by_cases hlt : i < xs.length
    · have hx : xs[i]? = some xs[i] := List.getElem?_eq_getElem hlt
      refine .inr ⟨w.go i H' eH hlt, fun σ2 H2 => Pv F1 (i + 1) σ2 H2, fun σ2 H2 h => ⟨_, by omega, rfl, hlt, h⟩, fun v H2 hy => ?_⟩
      obtain ⟨F2, g2, iv⟩ := w.yld i H' v H2 _ eH hx hy
      exact hs F1 i _ σ' H' v F2 H2 g1.ff hx hp g2 iv
    · have e2 : i = xs.length := by omega
      subst e2
      exact .inl ⟨w.stop _ H' eH rfl, hd F1 σ' H' g1.ff hp⟩
/-- a target: one name, a pair of names -/
theorem gt_pair {α β : Type} [Rep α] [Rep β] {j l : Nat} {x : α × β} {v : V} {Q : St → Hp → Prop} (hF : Ex F H) (i : Is F v x) (k : ∀ u w, Is F u x.1 → Is F w x.2 → Q ((σ.set j (some u)).set l (some w)) H) :
    gTup K 2 (gCons (gName j) (gCons (gName l) gNil)) v σ H Q := by
  obtain ⟨a, u, z, hv, ha, h1, h2⟩ := i
  exact ⟨a, [u, z], hv, SqT.of (hF _ _ ha), rfl, u, [z], rfl, z, [], rfl, rfl, k u z h1 h2⟩
theorem st_unpack {α β : Type} [Rep α] [Rep β] {j l : Nat} {x : α × β} (h : ET te σ F x) (hF : Ex F H) (k : ∀ u w F2 H2, Grow F H F2 H2 → Is F2 u x.1 → Is F2 w x.2 → D.nx ((σ.set j (some u)).set l (some w)) H2) :
    tAsg te (gTup K 2 (gCons (gName j) (gCons (gName l) gNil))) D σ H := h H hF _ fun v F2 H2 g2 i => gt_pair g2.fh i fun u w i1 i2 => k u w F2 H2 g2 i1 i2
/-- xs.append(e), xs a list that may change -/
theorem st_app {α : Type} [Rep α] {ta : TE} {l : Addr} {vs : List V} {x : α} (ho : ∀ H', Ex H H' → ∀ Q : VK, (∀ H2, Ex H' H2 → Q (.ref l) H2) → ta σ H' Q) (h : ET te σ F x) (hF : Ex F H) (hl : H l = some (.lst vs)) (hz : vs.length < 100000)
    (k : ∀ v F2 H2, Grow F H F2 H2 → Is F2 v x → D.nx σ (upd H2 l (.lst (vs ++ [v])))) : tDrop (tBM K "list" rAppend ta (tCons te tNil)) D σ H :=
  ho H (Ex.refl _) _ fun H1 e1 => ⟨.inl ⟨rfl, _, .inl (.inl (e1 _ _ hl))⟩, h H1 (hF.trans e1) _ fun v F2 H2 g2 i =>
    ⟨l, vs, v, rfl, rfl, g2.hh _ _ (e1 _ _ hl), sz_lt hz, k v F2 H2 ⟨g2.ff, g2.fh, e1.trans g2.hh, fun a o e => by
      rcases g2.nw a o e with z | z
      · exact .inl z
      · exact .inr (ex_none e1 z)⟩ i⟩⟩
theorem raw_var {i : Nat} {v : V} (h : σ[i]? = some (some v)) : ∀ H', Ex H H' → ∀ Q : VK, (∀ H2, Ex H' H2 → Q v H2) → tVar i σ H' Q := fun H' _ Q q => ⟨v, h, q H' (Ex.refl _)⟩
end
/-! ### defs -/
/-- args to a value: pre ahead, post behind -/
def spR {A : Type} [RepA A] (pre : A → Prop) (post : A → Hp → V → Prop) : Sp := fun vs H Q _ => ∃ F args, Ex F H ∧ RepA.is F vs args ∧ pre args ∧ ∀ v F2 H2, Grow F H F2 H2 → post args F2 v → Q v H2
abbrev spP {A γ : Type} [RepA A] [Rep γ] (pre : A → Prop) (f : A → γ) : Sp := spR pre fun a F2 v => Is F2 v (f a)
class RepN (A : Type) [RepA A] where
  n : Nat
  len : ∀ {F : Hp} {vs : List V} {x : A}, RepA.is F vs x → vs.length = n
instance : RepN Unit := ⟨0, fun h => by cases h; rfl⟩
instance {α A : Type} [Rep α] [RepA A] [RepN A] : RepN (α × A) := ⟨RepN.n A + 1, fun {F vs x} h => by
  obtain ⟨v, ws, h1, _, h3⟩ := h
  subst h1
  rw [List.length_cons, RepN.len h3]⟩
structure Cal (P : Program) (w : World) (K : PySem.W.Frag) (mg : Str → Option Value) (base : Heap) (k : Nat) (x : Str) (sp : Sp) : Prop where
  ex : ∃ (f : Addr) (fd : FuncData) (ps : List Str), FnOk P w K mg base CX0 k f fd ps sp ∧ mg x = some (.ref f) ∧ PySem.W.keepIn K (.ref f) = true ∧ Binds K fd ps []
structure Met (P : Program) (w : World) (K : PySem.W.Frag) (mg : Str → Option Value) (base : Heap) (k : Nat) (C : Addr) (m : Str) (sp : Sp) : Prop where
  ex : ∃ (f : Addr) (fd : FuncData) (ps : List Str), Cls K C ∧ Meth K C m f ∧ FnOk P w K mg base CX0 k f fd ps sp ∧ Binds K fd ps []
structure Mak (P : Program) (w : World) (K : PySem.W.Frag) (mg : Str → Option Value) (base : Heap) (k : Nat) (x : Str) (C : Addr) (sp : Sp) : Prop where
  ex : ∃ (f : Addr) (fd : FuncData) (ps : List Str), Mk K C f ∧ FnOk P w K mg base CX0 k f fd ps sp ∧ mg x = some (.ref C) ∧ Binds K fd ps []
section
variable {X : Cx} {k j : Nat} {C : Addr} {x m : Str} {sp : Sp} {p pos apos : Pos} {e o : Expr} {es : List Expr} {ta : TE} {t : TA}
theorem pe_cal (c : Cal X.prog X.w X.K X.mg X.base k x sp) (hr : Room j X.A) (hk : k ≤ j) (hg : Gl X x) (ha : PA X (e :: es) t)
    (hdb : (x == ("__debug__" : Str)) = false := by decide) (he : starEach (e :: es) X.env = (false, eval e X.env) :: starEach es X.env := by rfl) (hpl : (backTo pos (starEach es X.env)).any (·.1) = false := by rfl) :
    PE X (.Call (.Name x p) (e :: es) [] pos) (tCall sp [] E0 t) := by
  obtain ⟨f, fd, ps, F, hm, kp, b⟩ := c.ex
  exact pe_call F (hr.mono hk) hg hm kp b .nil pass0 ha hdb he hpl
theorem pe_mak (c : Mak X.prog X.w X.K X.mg X.base k x C sp) (hr : Room j X.A) (hk : k + 1 ≤ j) (hg : Gl X x) (ha : PA X (e :: es) t)
    (hdb : (x == ("__debug__" : Str)) = false := by decide) (he : starEach (e :: es) X.env = (false, eval e X.env) :: starEach es X.env := by rfl) (hpl : (backTo pos (starEach es X.env)).any (·.1) = false := by rfl) :
    PE X (.Call (.Name x p) (e :: es) [] pos) (tMake C sp [] E0 t) := by
  obtain ⟨f, fd, ps, M, F, hm, b⟩ := c.ex
  exact pe_make M F (hr.mono hk) hg hm b .nil pass0 ha hdb he hpl
theorem pe_met {pl : Sem Bool} (c : Met X.prog X.w X.K X.mg X.base k C m sp) (hr : Room j X.A) (hk : k ≤ j) (he : PE X o ta) (ha : PA X (e :: es) t)
    (hst : starEach (e :: es) X.env = (false, eval e X.env) :: starEach es X.env := by rfl) (hpl : (backTo pos (starEach es X.env)).any (·.1) = false := by rfl)
    (ht : eval (.Call (.Attribute o m apos) (e :: es) [] pos) X.env = (do
      let ov ← eval o X.env
      standAt apos.atName
      let (f, first) ← holding [ov] (getMethod ov m pl)
      callWith pos f first (backTo pos (starEach (e :: es) X.env)) (backToKw pos (keywordEach [] X.env))) := by rfl) :
    PE X (.Call (.Attribute o m apos) (e :: es) [] pos) (tMeth C m sp [] E0 ta t) := by
  obtain ⟨f, fd, ps, hc, hm, F, b⟩ := c.ex
  exact pe_meth (pl := pl) he hc hm F (hr.mono hk) b .nil pass0 ha hst hpl ht
theorem pe_met0 {pl : Sem Bool} (c : Met X.prog X.w X.K X.mg X.base k C m sp) (hr : Room j X.A) (hk : k ≤ j) (he : PE X o ta)
    (ht : eval (.Call (.Attribute o m apos) [] [] pos) X.env = (do
      let ov ← eval o X.env
      standAt apos.atName
      let (f, first) ← holding [ov] (getMethod ov m pl)
      callWith pos f first (backTo pos (starEach [] X.env)) (backToKw pos (keywordEach [] X.env))) := by rfl) :
    PE X (.Call (.Attribute o m apos) [] [] pos) (tMeth C m sp [] E0 ta tNil) := by
  obtain ⟨f, fd, ps, hc, hm, F, b⟩ := c.ex
  exact pe_meth0 (pl := pl) he hc hm F (hr.mono hk) b .nil pass0 ht
end
section
variable {P : Program} {w : World} {K : PySem.W.Frag} {mg : Str → Option Value} {base : Heap} {σ : St} {F : Hp}
theorem er_call {A : Type} [RepA A] {pre : A → Prop} {post : A → Hp → V → Prop} {E : XK} {t : TA} {args : A} (ha : EA t σ F args) (hp : pre args) : ER (tCall (spR pre post) [] E t) σ F (post args) := fun H e Q k =>
  ha H e _ fun vs F1 H1 g1 i1 => ⟨F1, args, g1.fh, by rw [List.append_nil]; exact i1, hp, fun v F2 H2 g2 r => k v F2 H2 (g1.trans g2) r⟩
theorem et_call {A γ : Type} [RepA A] [Rep γ] {pre : A → Prop} {f : A → γ} {E : XK} {t : TA} {args : A} (ha : EA t σ F args) (hp : pre args) : ET (tCall (spP pre f) [] E t) σ F (f args) := er_call ha hp
/-- how its arguments bind, no defaults -/
theorem cal_of {A : Type} [RepA A] [RepN A] {pre : A → Prop} {post : A → Hp → V → Prop} {x : Str} {params : Arguments} {body : List Stmt} {scope : Scope} {f : Addr} {fd : FuncData} {N ps : List Str} {k : Nat} (Fd : FunD K x x params body scope [] [] f fd) (hmg : mg x = some (.ref f))
    (hb : Binds K fd ps []) (S : FnScope N ps scope) (hn : RepN.n A = ps.length)
    (hbody : ∀ (cdv : Value) (Ar : Around) (outer : List Env) (s : Shared) (H : Hp) (vs : List V) (Q : VK) (E : XK), Room k (Ar.deeper (envOfC x scope s.heap.objs.size f cdv)) → ∀ (F : Hp) (args : A), Ex F H → RepA.is F vs args → pre args → (∀ v F2 H2, Grow F H F2 H2 → post args F2 v → Q v H2) →
      ∃ t, PSs (cxOf CX0 P w K mg base N x scope f cdv Ar outer s H E).nox body t ∧ t { nx := fun _ H' => Q .non H', rt := Q } (start N vs) H) : Cal P w K mg base (k + 1) x (spR pre post) :=
  ⟨f, fd, ps, Fd.ok S (fun vs H Q E ⟨F, a, _, h, _⟩ => (RepN.len h).trans hn) (fun cdv Ar outer s H vs Q E hr ⟨F, a, e, h, hp, q⟩ => by
    obtain ⟨t, h1, h2⟩ := hbody cdv Ar outer s H vs Q E hr F a e h hp q
    exact ⟨t, h1.nox, h2⟩), hmg, Fd.kp, hb⟩
theorem met_of {A : Type} [RepA A] [RepN A] {pre : A → Prop} {post : A → Hp → V → Prop} {x q : Str} {params : Arguments} {body : List Stmt} {scope : Scope} {f C : Addr} {fd : FuncData} {N ps : List Str} {k : Nat} (Fd : FunD K x q params body scope [] [] f fd) (hc : Cls K C) (hm : Meth K C x f)
    (hb : Binds K fd ps []) (S : FnScope N ps scope) (hn : RepN.n A = ps.length)
    (hbody : ∀ (cdv : Value) (Ar : Around) (outer : List Env) (s : Shared) (H : Hp) (vs : List V) (Q : VK) (E : XK), Room k (Ar.deeper (envOfC q scope s.heap.objs.size f cdv)) → ∀ (F : Hp) (args : A), Ex F H → RepA.is F vs args → pre args → (∀ v F2 H2, Grow F H F2 H2 → post args F2 v → Q v H2) →
      ∃ t, PSs (cxOf CX0 P w K mg base N q scope f cdv Ar outer s H E).nox body t ∧ t { nx := fun _ H' => Q .non H', rt := Q } (start N vs) H) : Met P w K mg base (k + 1) C x (spR pre post) :=
  ⟨f, fd, ps, hc, hm, Fd.ok S (fun vs H Q E ⟨F, a, _, h, _⟩ => (RepN.len h).trans hn) (fun cdv Ar outer s H vs Q E hr ⟨F, a, e, h, hp, q⟩ => by
    obtain ⟨t, h1, h2⟩ := hbody cdv Ar outer s H vs Q E hr F a e h hp q
    exact ⟨t, h1.nox, h2⟩), hb⟩
end
/-! ### built-ins by typed values -/
section
variable {σ : St} {F : Hp} {K : PySem.W.Frag} {ta : TE}
def rLenQ (K : PySem.W.Frag) : List V → Hp → VK → Prop := fun xs H Q => ∃ p ys, xs = [.ref p] ∧ (SqL K H p ys ∨ SqT K H p ys) ∧ Q (.int ys.length) H
theorem et_len {α : Type} [Rep α] {xs : List α} (h : ET ta σ F xs) : ET (tCB (fun xs H Q => ∃ p ys, xs = [.ref p] ∧ (SqL K H p ys ∨ SqT K H p ys) ∧ Q (.int ys.length) H) (tCons ta tNil)) σ F xs.length := fun H e Q k =>
  h H e _ fun v F1 H1 g1 ⟨a, vs, hv, ha, hs⟩ => ⟨a, vs, by rw [hv], .inl (SqL.of (g1.fh _ _ ha)), k _ F1 H1 g1 (congrArg V.int (by rw [hs.len]))⟩
theorem et_lenT {α : Type} [Rep α] {xs : Tup α} (h : ET ta σ F xs) : ET (tCB (fun xs H Q => ∃ p ys, xs = [.ref p] ∧ (SqL K H p ys ∨ SqT K H p ys) ∧ Q (.int ys.length) H) (tCons ta tNil)) σ F xs.l.length := fun H e Q k =>
  h H e _ fun v F1 H1 g1 ⟨a, vs, hv, ha, hs⟩ => ⟨a, vs, by rw [hv], .inr (SqT.of (g1.fh _ _ ha)), k _ F1 H1 g1 (congrArg V.int (by rw [hs.len]))⟩
theorem et_lenP {α β : Type} [Rep α] [Rep β] {x : α × β} (h : ET ta σ F x) : ET (tCB (fun xs H Q => ∃ p ys, xs = [.ref p] ∧ (SqL K H p ys ∨ SqT K H p ys) ∧ Q (.int ys.length) H) (tCons ta tNil)) σ F 2 := fun H e Q k =>
  h H e _ fun v F1 H1 g1 ⟨a, u, w, hv, ha, hs⟩ => ⟨a, [u, w], by rw [hv], .inr (SqT.of (g1.fh _ _ ha)), k _ F1 H1 g1 rfl⟩
theorem odlen (o : Od) : o.str.length = o.l.length := by
  show o.str.cps.size = _
  unfold Od.str
  simp
theorem et_lenO {o : Od} (h : ET ta σ F o) (hz : o.l.length ≤ 100000) : ET (tCB (fun xs H Q => ∃ x n, xs = [x] ∧ LenV K x H n ∧ Q (.int n) H) (tCons ta tNil)) σ F o.l.length := fun H e Q k =>
  h H e _ fun v F1 H1 g1 hv => ⟨v, o.l.length, rfl, by rw [hv]; exact ⟨by rw [odlen]; exact sz_le hz, by rw [odlen]⟩, k _ F1 H1 g1 rfl⟩
theorem et_list {α : Type} [Rep α] {xs : List α} (h : ET ta σ F xs) : ET (tCB (fun xs H Q => ∃ p ys, xs = [.ref p] ∧ (SqL K H p ys ∨ SqT K H p ys) ∧ ∀ l, H l = none → Q (.ref l) (upd H l (.lst ys))) (tCons ta tNil)) σ F xs := fun H e Q k =>
  h H e _ fun v F1 H1 g1 ⟨a, vs, hv, ha, hs⟩ => ⟨a, vs, by rw [hv], .inl (SqL.of (g1.fh _ _ ha)), fun l hl => k _ _ _ (g1.trans (.new g1.fh hl)) ⟨l, vs, rfl, upd_same, hs.mono fun _ _ z => Rep.mono (ex_upd (ex_none g1.fh hl)) z⟩⟩
theorem et_listT {α : Type} [Rep α] {xs : Tup α} (h : ET ta σ F xs) : ET (tCB (fun xs H Q => ∃ p ys, xs = [.ref p] ∧ (SqL K H p ys ∨ SqT K H p ys) ∧ ∀ l, H l = none → Q (.ref l) (upd H l (.lst ys))) (tCons ta tNil)) σ F xs.l := fun H e Q k =>
  h H e _ fun v F1 H1 g1 ⟨a, vs, hv, ha, hs⟩ => ⟨a, vs, by rw [hv], .inr (SqT.of (g1.fh _ _ ha)), fun l hl => k _ _ _ (g1.trans (.new g1.fh hl)) ⟨l, vs, rfl, upd_same, hs.mono fun _ _ z => Rep.mono (ex_upd (ex_none g1.fh hl)) z⟩⟩
theorem et_tupL {α : Type} [Rep α] {xs : List α} (h : ET ta σ F xs) : ET (tCB (fun xs H Q => ∃ p ys, xs = [.ref p] ∧ ((SqL K H p ys ∧ ∀ l, H l = none → Q (.ref l) (upd H l (.tup ys))) ∨ (SqT K H p ys ∧ Q (.ref p) H))) (tCons ta tNil)) σ F (Tup.mk xs) := fun H e Q k =>
  h H e _ fun v F1 H1 g1 ⟨a, vs, hv, ha, hs⟩ => ⟨a, vs, by rw [hv], .inl ⟨SqL.of (g1.fh _ _ ha), fun l hl => k _ _ _ (g1.trans (.new g1.fh hl)) ⟨l, vs, rfl, upd_same, hs.mono fun _ _ z => Rep.mono (ex_upd (ex_none g1.fh hl)) z⟩⟩⟩
theorem et_tupT {α : Type} [Rep α] {xs : Tup α} (h : ET ta σ F xs) : ET (tCB (fun xs H Q => ∃ p ys, xs = [.ref p] ∧ ((SqL K H p ys ∧ ∀ l, H l = none → Q (.ref l) (upd H l (.tup ys))) ∨ (SqT K H p ys ∧ Q (.ref p) H))) (tCons ta tNil)) σ F xs := fun H e Q k =>
  h H e _ fun v F1 H1 g1 ⟨a, vs, hv, ha, hs⟩ => ⟨a, vs, by rw [hv], .inr ⟨SqT.of (g1.fh _ _ ha), k _ F1 H1 g1 ⟨a, vs, rfl, ha, hs⟩⟩⟩
theorem et_all {bs : List Bool} (h : ET ta σ F bs) : ET (tCB (rAll K) (tCons ta tNil)) σ F (bs.all id) := fun H e Q k =>
  h H e _ fun v F1 H1 g1 ⟨a, vs, hv, ha, hs⟩ => ⟨a, bs, by rw [hv], by
    have : vs = bs.map V.bl := All2.eq_map (f := V.bl) hs
    rw [← this]
    exact SqL.of (g1.fh _ _ ha), k _ F1 H1 g1 rfl⟩
theorem is_ints {G : Hp} {v : V} {ns : List Int} (h : Is G v ns) : ∃ a, v = .ref a ∧ G a = some (.lst (ns.map V.int)) := by
  obtain ⟨a, vs, hv, ha, hs⟩ := h
  have : vs = ns.map V.int := All2.eq_map (f := V.int) hs
  exact ⟨a, hv, by rw [← this]; exact ha⟩
/-- the greatest of a list that is not empty -/
def mx (x : Int) (xs : List Int) : Int := xs.foldl max x
theorem mx_le {x y : Int} {xs : List Int} (hx : x ≤ y) (h : ∀ z ∈ xs, z ≤ y) : mx x xs ≤ y := by
  unfold mx
  induction xs generalizing x with
  | nil => exact hx
  | cons z r ih => exact ih (Int.max_le.mpr ⟨hx, h z (List.mem_cons_self ..)⟩) fun w hw => h w (List.mem_cons_of_mem _ hw)
theorem le_mx0 {x : Int} {xs : List Int} : x ≤ mx x xs := by
  unfold mx
  induction xs generalizing x with
  | nil => exact Int.le_refl _
  | cons z r ih => exact Int.le_trans (Int.le_max_left x z) ih
theorem le_mx {x z : Int} {xs : List Int} (h : z ∈ xs) : z ≤ mx x xs := by
  induction xs generalizing x with
  | nil => cases h
  | cons y r ih =>
    rcases List.mem_cons.mp h with e | e
    · subst e; exact Int.le_trans (Int.le_max_right x z) (le_mx0 (xs := r))
    · exact ih e
theorem mx_mem {x : Int} {xs : List Int} : mx x xs ∈ x :: xs := by
  unfold mx
  induction xs generalizing x with
  | nil => exact List.mem_cons_self ..
  | cons z r ih =>
    have h := ih (x := max x z)
    rcases List.mem_cons.mp h with e | e
    · show List.foldl max (max x z) r ∈ _
      rw [e]
      by_cases hxz : x ≤ z
      · rw [Int.max_eq_right hxz]; exact List.mem_cons_of_mem _ (List.mem_cons_self ..)
      · rw [Int.max_eq_left (by omega)]; exact List.mem_cons_self ..
    · exact List.mem_cons_of_mem _ (List.mem_cons_of_mem _ e)
theorem et_max {x : Int} {xs : List Int} (h : ET ta σ F (x :: xs)) : ET (tCB (rMax K) (tCons ta tNil)) σ F (mx x xs) := fun H e Q k =>
  h H e _ fun v F1 H1 g1 i => by
    obtain ⟨a, hv, ha⟩ := is_ints i
    refine ⟨a, x :: xs, by rw [hv], SqL.of (g1.fh _ _ ha), by simp, fun m hm hle => ?_⟩
    have e : m = mx x xs := by
      refine Int.le_antisymm ?_ (hle _ mx_mem)
      rcases List.mem_cons.mp hm with e | e
      · rw [e]; exact le_mx0
      · exact le_mx e
    rw [e]
    exact k _ F1 H1 g1 rfl
theorem et_max2 {tb : TE} {i j : Int} (h : ET ta σ F i) (h2 : ET tb σ F j) : ET (tCB (fun xs H Q => ∃ i j, xs = [.int i, .int j] ∧ Q (.int (if j > i then j else i)) H) (tCons ta (tCons tb tNil))) σ F (max i j) := fun H e Q k =>
  h H e _ fun v F1 H1 g1 i1 => (ET.mono h2 g1.ff) H1 g1.fh _ fun w F2 H2 g2 i2 => ⟨i, j, by rw [show v = .int i from i1, show w = .int j from i2], k _ F2 H2 (g1.trans g2) (congrArg V.int (by
    split
    · exact (Int.max_eq_right (by omega)).symm
    · exact (Int.max_eq_left (by omega)).symm))⟩
theorem et_cat {α : Type} [Rep α] {tb : TE} {xs ys : List α} (h : ET ta σ F xs) (h2 : ET tb σ F ys) (hz : xs.length + ys.length ≤ 100000) : ET (tOp rCat ta tb) σ F (xs ++ ys) :=
  et_op h h2 fun F1 H1 v w Q _ e1 ⟨a, vs, hv, ha, hs⟩ ⟨b, us, hu, hb, ht⟩ k => ⟨a, b, vs, us, hv, hu, e1 _ _ ha, e1 _ _ hb, by rw [hs.len, ht.len]; exact sz_le hz, fun p hp =>
    k _ _ _ (.new e1 hp) ⟨p, _, rfl, upd_same, (hs.append ht).mono fun _ _ z => Rep.mono (ex_upd (ex_none e1 hp)) z⟩⟩
theorem od_cat (a b : List Bool) : (Od.mk a).str ++ (Od.mk b).str = (Od.mk (a ++ b)).str := by
  refine TL.ext_tl ?_
  rw [TL.tl_append]
  show (a.map code).toArray.toList ++ (b.map code).toArray.toList = ((a ++ b).map code).toArray.toList
  simp
theorem et_catO {tb : TE} {o : Od} {c : Ltr} (h : ET ta σ F o) (h2 : ET tb σ F c) (hz : o.l.length < 100000) : ET (tOp (fun x y H Q => ∃ i j, x = .str i ∧ y = .str j ∧ i.length + j.length ≤ sizeLine ∧ Q (.str (i ++ j)) H) ta tb) σ F (Od.mk (o.l ++ [c.b])) :=
  et_op h h2 fun F1 H1 v w Q _ e1 hv hw k => ⟨o.str, c.str, hv, hw, by
    rw [odlen]
    have : c.str.length = 1 := rfl
    rw [this]
    exact sz_le hz, k _ F1 H1 (.refl e1) (congrArg V.str (by
      have e := od_cat o.l [c.b]
      exact e))⟩
end
end LT
/-! ## LRul1 -/
set_option Elab.async false
set_option linter.all false
set_option maxRecDepth 100000
set_option maxHeartbeats 4000000
/-! Rules that the layer lacks: o[i] += e of a list, len(o) by an own __len__, o.f among several targets, sorted of tuples. -/
namespace LT
open PySem PySem.Spec PyProof.Rows L2
section
variable {X : Cx}
/-- xs[i], 0 ≤ i, to be stored again -/
def rGetL (K : PySem.W.Frag) : V → V → Hp → VK → Prop := fun o i H Q => ∃ p xs k v, o = .ref p ∧ i = .int (k : Nat) ∧ SqL K H p xs ∧ xs[k]? = some v ∧ Q v H
theorem get_list : PGet X (rGetL X.K) := by
  intro pins s σ H o i ov iv Q I ro ri h
  obtain ⟨p, xs, k, v, rfl, rfl, hs, hk, q⟩ := h
  cases ro
  obtain ⟨t, rfl⟩ := ri
  obtain ⟨its, r, pl, hz⟩ := I.list hs
  obtain ⟨w, ew, rw'⟩ := r.get hk
  have hlt := (List.getElem?_eq_some_iff.mp hk).1
  have hn := line63
  exact wpAny_getItem_list pl.isList (by omega) (by omega) (by simpa using ew) ⟨v, H, I, rw', q⟩
/-- len(o), o an instance whose class has a __len__ -/
theorem call_lenO {k j : Nat} {C : Addr} {sp : Sp} (M : Met X.prog X.w X.K X.mg X.base k C "__len__" sp) (hr : Room j X.A) (hk : k + 1 ≤ j) :
    CallR X (.builtin "len") (fun xs H Q => ∃ a dx fs, xs = [.ref a] ∧ H a = some (.ins C dx fs) ∧ sp [.ref a] H (fun v H2 => ∃ n : Nat, v = .int n ∧ n < 2 ^ 62 ∧ Q (.int n) H2) E0) := by
  intro pins s σ H xs us Q I r h
  obtain ⟨a, dx, fs, rfl, ha, h⟩ := h
  obtain ⟨u, rfl, ru⟩ := vals1 r
  cases ru
  obtain ⟨f, fd, ps, hc, hm, F, b⟩ := M.ex
  obtain ⟨mA, O, _, _, _, _⟩ := ins_get I.hok ha
  obtain ⟨od, In, _⟩ := O.look
  refine Calls.call_function_entry kind_len plain_len entry_len (args_len1 _) ?_
  unfold Builtin.«len»
  refine wpAny_bind (m := PySem.oneArg "len" _) (wpAny_pure ?_)
  refine wpAny_bind (m := callSpecial? (.ref a) (Str.ofString "__len__")) (PySem.W.special_fn I.kIn In hm.at_ (beq_iff_eq.mp hm.fn) ?_)
  have hl : ([Value.ref a] ++ ([] : List Value)).length = ps.length := F.len _ _ _ _ h
  refine wpAny_call (codeAny_mono (F.run X.A.in1 X.stack s H ⟨[.ref a], []⟩ [.ref a] [.ref a] _ E0 ((hr.mono hk).in1) I.env0.in1 (by have := b s [.ref a] I.kIn hl; rwa [List.append_nil] at this) (.cons rfl .nil) h) fun r s' hq => ?_)
  cases r with
  | error e => exact hq.elim
  | ok fl =>
    cases fl with
    | ret u =>
      obtain ⟨v, H', I3, rv, n, rfl, hn, q3⟩ := I.after hq
      obtain ⟨t, rfl⟩ := rv
      refine wpAny_bind (wpAny_holding (wpAny_pure ?_))
      refine wpAny_bind (wpAny_letGo ?_)
      show wpAny _ _ (if (n : Int) < 0 then _ else _) _ _ _
      rw [if_neg (by omega)]
      show wpAny _ _ (if (n : Int) ≥ 2 ^ 63 then _ else _) _ _ _
      rw [if_neg (by omega)]
      exact wpAny_bind (wpAny_mkInt (wpAny_pure ⟨_, rfl, ⟨.int n, H', I3.tok _, ⟨_, rfl⟩, q3⟩⟩))
    | next => exact hq.elim
    | brk => exact hq.elim
    | cont => exact hq.elim
/-- o.f = .. among several targets -/
def gFld (K : PySem.W.Frag) (to : TE) (f : Str) : TG := fun v σ H Q => to σ H fun x H1 => ∃ a C dx fs, x = .ref a ∧ H1 a = some (.ins C dx fs) ∧ Cls K C ∧ NoAttr K C f ∧ fs.length < 1000 ∧ Q σ (upd H1 a (.ins C dx (putF f v fs)))
theorem pg_fld {o : Expr} {f : Str} {pos : Pos} {to : TE} (ho : PE X o to) : PG X (.Attribute o f pos) (gFld X.K to f) := by
  refine ⟨fun pins s σ H v u Q I r h => ?_⟩
  rw [arm_assign_Attribute]
  refine wpAny_bind (wpAny_holding (thn (ho.run pins s σ H _ I h) fun ov s1 ⟨x, H1, I1, r1, a, C, dx, fs, ex, ea, c, n, l, q1⟩ => ?_))
  subst ex
  obtain rfl : ov = Value.ref a := r1
  refine wpAny_bind (wpAny_standAt (wpAny_bind (wpAny_holding (setattr_ok I1 ea c n l r fun s2 I2 => ?_))))
  exact wpAny_release ⟨σ, _, I2, q1⟩
end
end LT
/-! ## LRul2 -/
set_option Elab.async false
set_option linter.all false
set_option maxRecDepth 100000
set_option maxHeartbeats 4000000
/-! zip of two things (lists, texts), zip of three lists, enumerate of a text. -/
namespace LT
open PySem PySem.Spec PyProof.Rows L2
/-- a thing that is drawn: a list, a text -/
inductive Src where
  | l (a : Addr)
  | t (x : Str)
def Src.v : Src → V
  | .l a => .ref a
  | .t x => .str x
def Src.has (K : PySem.W.Frag) (H : Hp) : Src → List V → Prop
  | .l a, xs => SqL K H a xs
  | .t x, xs => xs = x.cps.toList.map fun c => V.str ⟨#[c]⟩
def Src.st (tk : Tok) (it : Addr) : Src → Nat → Heap → Prop
  | .l a, i, h => h.IsListIter it a i
  | .t x, i, h => h.IsStrIter it (strIterType x) x tk i
def Src.fp (it : Addr) : Src → List Addr
  | .l a => [it, a]
  | .t _ => [it]
def Src.no (it : Addr) : Src → Prop
  | .l a => a ≠ it
  | .t _ => True
def Src.ob (tk : Tok) : Src → Obj
  | .l a => { cls := .type "list_iterator", data := .fields #[.ref a, .int 0 0] }
  | .t x => { cls := .type (strIterType x), data := .fields #[.str x tk, .int 0 0] }
def Src.val (tk : Tok) : Src → Value
  | .l a => .ref a
  | .t x => .str x tk
theorem Src.at0 {tk : Tok} {it : Addr} {s : Src} {h : Heap} (e : h.get? it = some (s.ob tk)) : s.st tk it 0 h := by
  cases s with
  | l a => exact ⟨_, e, rfl, rfl⟩
  | t x => exact ⟨_, e, rfl, rfl⟩
theorem Src.stEx {tk : Tok} {it : Addr} {s : Src} {i : Nat} {h : Heap} (e : s.st tk it i h) : ∃ o, h.get? it = some o ∧ ∀ v, o.data ≠ .cell v := by
  cases s with
  | l a => obtain ⟨o, h1, _, h3⟩ := e; exact ⟨o, h1, fun v q => by rw [h3] at q; cases q⟩
  | t x => obtain ⟨o, h1, _, h3⟩ := e; exact ⟨o, h1, fun v q => by rw [h3] at q; cases q⟩
theorem Src.stKeep {tk : Tok} {it : Addr} {s : Src} {i : Nat} {h h' : Heap} (e : s.st tk it i h) (k : ∀ o, h.get? it = some o → h'.get? it = some o) : s.st tk it i h' := by
  cases s with
  | l a => obtain ⟨o, h1, h2⟩ := e; exact ⟨o, k o h1, h2⟩
  | t x => obtain ⟨o, h1, h2⟩ := e; exact ⟨o, k o h1, h2⟩
theorem Src.of_val {v : V} {u : Value} {s : Src} (e : v = s.v) (r : RelV v u) : ∃ tk, u = s.val tk := by
  cases s with
  | l a => subst e; cases r; exact ⟨0, rfl⟩
  | t x => subst e; obtain ⟨t, rfl⟩ := r; exact ⟨t, rfl⟩
theorem Src.inj {X : Cx} {pins : List (Addr × Obj)} {σ : L2.St} {H : Hp} {s : Shared} (I : Inv X pins σ H s) {q : Src} {xs ys : List V} (h : q.has X.K H xs) (h2 : q.has X.K H ys) : xs = ys := by
  cases q with
  | l a => exact I.list_inj h h2
  | t x => exact h.trans h2.symm
/-- how it is drawn -/
theorem Src.draws {X : Cx} {pins : List (Addr × Obj)} {σ : L2.St} {H : Hp} {s : Shared} (I : Inv X pins σ H s) (hc : X.calm = true) {q : Src} {it : Addr} {tk : Tok} {i : Nat} {xs : List V} (h : q.has X.K H xs) (a : q.st tk it i s.heap) (no : q.no it) :
    ∃ (P : Nat → Value → Prop) (St : Nat → Heap → Prop), Draws X.prog X.w X.A.in1 it (q.fp it) xs.length P St ∧ St i s.heap ∧ (∀ j h, St j h → q.st tk it j h) ∧ (∀ j v, P j v → ∃ x, xs[j]? = some x ∧ RelV x v) := by
  cases q with
  | l a' =>
    obtain ⟨its, rv, p, _⟩ := I.list h
    have hl := rv.length
    refine ⟨fun i v => its.toArray[i]? = some v, fun i h => h.IsListIter it a' i ∧ h.IsList a' its.toArray, by
      have d := Draws.list (prog := X.prog) (w := X.w) (A := X.A.in1) (I.ok.hd hc) it a' no its.toArray
      rw [List.size_toArray, ← hl] at d
      exact d, ⟨a, p.isList⟩, fun j h st => st.1, fun j v hv => ?_⟩
    have hj : its[j]? = some v := by simpa using hv
    have hlt := (List.getElem?_eq_some_iff.mp hj).1
    obtain ⟨u, hu, ru⟩ := rv.get (i := j) (x := xs[j]'(by omega)) (List.getElem?_eq_getElem _)
    rw [hj] at hu
    cases hu
    exact ⟨_, List.getElem?_eq_getElem (by omega), ru⟩
  | t x =>
    have hx : xs = x.cps.toList.map fun c => V.str ⟨#[c]⟩ := h
    refine ⟨fun i v => ∃ c u, x.cps[i]? = some c ∧ v = .str ⟨#[c]⟩ u, fun i h => h.IsStrIter it (strIterType x) x tk i, by
      have d := Draws.text (prog := X.prog) (w := X.w) (A := X.A.in1) (I.ok.hd hc) it x tk
      rw [show xs.length = x.cps.size by rw [hx]; simp]
      exact d, a, fun j h st => st, fun j v ⟨c, u, hcx, e⟩ => ⟨.str ⟨#[c]⟩, ?_, u, e⟩⟩
    rw [hx, List.getElem?_map]
    have : x.cps.toList[j]? = some c := by simpa using hcx
    rw [this]
    rfl
theorem Src.begins {X : Cx} {pins : List (Addr × Obj)} {σ : L2.St} {H : Hp} {s : Shared} (I : Inv X pins σ H s) {q : Src} {tk : Tok} {xs : List V} (h : q.has X.K H xs) :
    ∃ Hq : Heap → Prop, Begins (q.val tk) (q.ob tk) Hq ∧ Hq s.heap := by
  cases q with
  | l a =>
    obtain ⟨its, rv, p, _⟩ := I.list h
    exact ⟨_, begins_list a its.toArray, p.isList⟩
  | t x => exact ⟨_, begins_text x tk, trivial⟩
theorem Src.lt {X : Cx} {pins : List (Addr × Obj)} {σ : L2.St} {H : Hp} {s : Shared} (I : Inv X pins σ H s) {q : Src} {xs : List V} (h : q.has X.K H xs) : ∀ b, b ∈ (match q with | .l a => [a] | .t _ => []) → b < s.heap.objs.size := by
  cases q with
  | l a =>
    obtain ⟨its, rv, p, _⟩ := I.list h
    intro b hb
    have e : b = a := by simpa using hb
    rw [e]
    exact p.lt
  | t x => intro b hb; simp at hb
def Src.old : Src → List Addr
  | .l a => [a]
  | .t _ => []
theorem Src.lt' {X : Cx} {pins : List (Addr × Obj)} {σ : L2.St} {H : Hp} {s : Shared} (I : Inv X pins σ H s) {q : Src} {xs : List V} (h : q.has X.K H xs) : ∀ b, b ∈ q.old → b < s.heap.objs.size := by
  cases q with
  | l a => exact Src.lt I (q := .l a) h
  | t x => exact Src.lt I (q := .t x) h
theorem Src.fp_eq (q : Src) (it : Addr) : q.fp it = it :: q.old := by cases q <;> rfl
theorem Src.no_of {q : Src} {N : Nat} {it : Addr} (h : ∀ b, b ∈ q.old → b < N) (hle : N ≤ it) : q.no it := by
  cases q with
  | l a => exact Nat.ne_of_lt (Nat.lt_of_lt_of_le (h a (by simp [Src.old])) hle)
  | t x => trivial

/-! ### zip(a, b) -/
def ItzS (K : PySem.W.Frag) (p q : Src) : It :=
  ⟨fun i H => ∃ (xs ys : List V), p.has K H xs ∧ q.has K H ys ∧ i < min xs.length ys.length,
    fun i H v H' => ∃ T x y, v = .ref T ∧ H T = none ∧ H' = upd H T (.tup [x, y]) ∧ (∀ xs, p.has K H xs → xs[i]? = some x) ∧ ∀ ys, q.has K H ys → ys[i]? = some y,
    fun i H => ∃ xs ys : List V, p.has K H xs ∧ q.has K H ys ∧ i = min xs.length ys.length⟩
theorem turn_zipS {P : Program} {w : World} {K : PySem.W.Frag} {elts : List Expr} {kk : Nat} {tpos : Pos} {p q : Src} {z TI TO i1 i2 : Addr} {t1 t2 : Tok} (D : ZipSep2 z TI TO i1 i2 (p.fp i1) (q.fp i2)) (n1 : p.no i1) (n2 : q.no i2) :
    Turn P w K (.Tuple elts kk tpos) (ItzS K p q) [z, TI, TO, i1, i2] z (fun i h => IsZip h z TI TO .none ∧ IsTupOf2 h TI (.ref i1) (.ref i2) ∧ (∃ x y, IsTupOf2 h TO x y) ∧ p.st t1 i1 i h ∧ q.st t2 i2 i h) where
  mem := by simp
  obj := fun i h st c hc => by
    obtain ⟨hz, hTI, ⟨x, y, hTO⟩, h1, h2⟩ := st
    have e' : c = z ∨ c = TI ∨ c = TO ∨ c = i1 ∨ c = i2 := by simpa using hc
    rcases e' with q' | q' | q' | q' | q'
    · rw [q']; exact ⟨_, hz, fun v q => nomatch q⟩
    · rw [q']; exact ⟨_, hTI, fun v q => nomatch q⟩
    · rw [q']; exact ⟨_, hTO, fun v q => nomatch q⟩
    · rw [q']; exact Src.stEx h1
    · rw [q']; exact Src.stEx h2
  keep := fun i h h' st k => by
    obtain ⟨hz, hTI, ⟨x, y, hTO⟩, h1, h2⟩ := st
    exact ⟨k z (by simp) _ hz, k TI (by simp) _ hTI, ⟨x, y, k TO (by simp) _ hTO⟩, Src.stKeep h1 fun o q => k i1 (by simp) o q, Src.stKeep h2 fun o q => k i2 (by simp) o q⟩
  item := by
    intro X hP hw hK hc i pins s σ H E I hf st hg
    subst hP hw hK
    obtain ⟨hz, hTI, hTO, h1, h2⟩ := st
    obtain ⟨xs, ys, hqx, hqy, hi⟩ := hg
    obtain ⟨P1, St1, D1, s1, b1, r1⟩ := Src.draws I hc hqx h1 n1
    obtain ⟨P2, St2, D2, s2, b2, r2⟩ := Src.draws I hc hqy h2 n2
    have G := GoesN.zip2 (elts := elts) (x1 := kk) (pos := tpos) D D1 D2
    refine G.goes i s _ E hi ⟨hz, hTI, hTO, s1, s2⟩ fun v h' tk hY st' hk htk => ?_
    obtain ⟨T, u1, u2, rfl, hT, hu1, hu2, ht⟩ := hY
    obtain ⟨x, hx, rx⟩ := r1 i u1 hu1
    obtain ⟨y, hy, ry⟩ := r2 i u2 hu2
    obtain ⟨hz', hTI', hTO', s1', s2'⟩ := st'
    have new : ObjOk X.prog X.w (upd H T (.tup [x, y])) h' T (.tup [x, y]) :=
      ⟨by show 2 ≤ sizeLine; decide, [u1, u2], .cons rx (.cons ry .nil), ht⟩
    have hk2 : ∀ b o, b ∉ [z, TO, i1, i2] → s.heap.get? b = some o → h'.get? b = some o := hk
    have I1 : Inv X pins σ (upd H T (.tup [x, y])) { s with heap := h', toks := tk } :=
      I.turnedNew (ch := [z, TI, TO, i1, i2]) (fun c o hb e => hk2 c o (fun q' => hb (by
        have e' : c = z ∨ c = TO ∨ c = i1 ∨ c = i2 := by simpa using q'
        rcases e' with e' | e' | e' | e' <;> simp [e'])) e) hf hT new
    refine ⟨.ref T, _, I1, rfl, ⟨T, x, y, rfl, I.hok.fresh hT, rfl, fun l hl => by rw [Src.inj I hl hqx]; exact hx, fun l hl => by rw [Src.inj I hl hqy]; exact hy⟩, ⟨hz', hTI', hTO', b1 _ _ s1', b2 _ _ s2'⟩, fun c hcm => ?_⟩
    have hlt : c < s.heap.objs.size := by
      have e' : c = z ∨ c = TI ∨ c = TO ∨ c = i1 ∨ c = i2 := by simpa using hcm
      obtain ⟨_, _, hTO⟩ := hTO
      rcases e' with q | q | q | q | q
      · rw [q]; exact Heap.lt_size hz
      · rw [q]; exact Heap.lt_size hTI
      · rw [q]; exact Heap.lt_size hTO
      · rw [q]; obtain ⟨_, e1, _⟩ := Src.stEx h1; exact Heap.lt_size e1
      · rw [q]; obtain ⟨_, e2, _⟩ := Src.stEx h2; exact Heap.lt_size e2
    rw [upd_ne (Nat.ne_of_lt (Nat.lt_of_lt_of_le hlt hT))]
    exact (hf c hcm).1
  done := by
    intro X hP hw hK hc i pins s σ H E I hf st hg
    subst hP hw hK
    obtain ⟨hz, hTI, hTO, h1, h2⟩ := st
    obtain ⟨xs, ys, hqx, hqy, hi⟩ := hg
    obtain ⟨P1, St1, D1, s1, b1, r1⟩ := Src.draws I hc hqx h1 n1
    obtain ⟨P2, St2, D2, s2, b2, r2⟩ := Src.draws I hc hqy h2 n2
    have G := GoesN.zip2 (elts := elts) (x1 := kk) (pos := tpos) D D1 D2
    subst hi
    refine G.stops s _ E ⟨hz, hTI, hTO, s1, s2⟩ fun h' tk hk htk => ?_
    have hk2 : ∀ b o, b ∉ [z, TO, i1, i2] → s.heap.get? b = some o → h'.get? b = some o := hk
    exact I.turnedL (ch := [z, TI, TO, i1, i2]) (fun c o hb e => hk2 c o (fun q' => hb (by
        have e' : c = z ∨ c = TO ∨ c = i1 ∨ c = i2 := by simpa using q'
        rcases e' with e' | e' | e' | e' <;> simp [e'])) e) hf
  self := fun A i s Q E st h => wpAny_pyIter_zip st.1 h
def iZipS (K : PySem.W.Frag) (ta : TA) : TI := fun σ H R => ta σ H fun vs H1 => ∃ (p q : Src) (xs ys : List V), vs = [p.v, q.v] ∧ p.has K H1 xs ∧ q.has K H1 ys ∧ R (ItzS K p q) H1
theorem pi_zipS {X : Cx} {e e2 : Expr} {ta : TA} {p pos tpos : Pos} {elts : List Expr} {kk : Nat} (hg : Gl X "zip") (hm : X.mg "zip" = none) (ha : PA X [e, e2] ta)
    (hs : starEach [e, e2] X.env = (false, eval e X.env) :: starEach [e2] X.env := by rfl) (hpl : (backTo pos (starEach [e2] X.env)).any (·.1) = false := by rfl) :
    PI X (.Tuple elts kk tpos) (.Call (.Name "zip" p) [e, e2] [] pos) (iZipS X.K ta) := by
  refine ⟨fun pins s σ H R I h => ?_⟩
  refine Call_ (ld_blt I hg hm PyProof.Rows.boot_zip (PyProof.Rows.callWith_type1 (thn (ha.run pos pins s σ H _ I h) fun us s1 ⟨vs, H1, I1, r1, q1⟩ => ?_) hs hpl))
  obtain ⟨sp, sq, xs, ys, ex, hqx, hqy, q⟩ := q1
  subst ex
  obtain ⟨u1, u2, rfl, ru1, ru2⟩ := vals2 r1
  obtain ⟨t1, rfl⟩ := Src.of_val rfl ru1
  obtain ⟨t2, rfl⟩ := Src.of_val rfl ru2
  obtain ⟨Hp1, B1, hb1⟩ := Src.begins I1 (tk := t1) hqx
  obtain ⟨Hp2, B2, hb2⟩ := Src.begins I1 (tk := t2) hqy
  refine zip_begins2 B1 B2 hb1 hb2 fun h' hz hTI hTO h1 h2 hsz hk => wpAny_pyIter_zip hz ?_
  have I2 : Inv X pins σ H1 { s1 with heap := h' } := I1.kept (t' := s1.toks) hk
  have l1 := Src.lt' I1 hqx
  have l2 := Src.lt' I1 hqy
  have sep : ZipSep2 (s1.heap.objs.size + 4) (s1.heap.objs.size + 2) (s1.heap.objs.size + 3) s1.heap.objs.size (s1.heap.objs.size + 1) (sp.fp s1.heap.objs.size) (sq.fp (s1.heap.objs.size + 1)) := by
    rw [Src.fp_eq, Src.fp_eq]
    exact zip_sep2 l1 l2
  refine ⟨s1.heap.objs.size + 4, [s1.heap.objs.size + 4, s1.heap.objs.size + 2, s1.heap.objs.size + 3, s1.heap.objs.size, s1.heap.objs.size + 1], _, _, H1, rfl, I2, turn_zipS (t1 := t1) (t2 := t2) sep (Src.no_of l1 (Nat.le_refl _)) (Src.no_of l2 (Nat.le_succ _)), ⟨hz, hTI, ⟨_, _, hTO⟩, Src.at0 h1, Src.at0 h2⟩, fun c hcm => ?_, q⟩
  have e' : c = s1.heap.objs.size + 4 ∨ c = s1.heap.objs.size + 2 ∨ c = s1.heap.objs.size + 3 ∨ c = s1.heap.objs.size ∨ c = s1.heap.objs.size + 1 := by simpa using hcm
  have hle : s1.heap.objs.size ≤ c := by
    rcases e' with z | z | z | z | z
    · rw [z]; exact Nat.le_add_right _ _
    · rw [z]; exact Nat.le_add_right _ _
    · rw [z]; exact Nat.le_add_right _ _
    · rw [z]; exact Nat.le_refl _
    · rw [z]; exact Nat.le_add_right _ _
  exact I1.fpOk hle (I1.hok.fresh hle)
end LT
/-! ## LRul3 -/
set_option Elab.async false
set_option linter.all false
set_option maxRecDepth 100000
set_option maxHeartbeats 4000000
/-! zip of three things, enumerate of a text; by typed values. -/
namespace LT
open PySem PySem.Spec PyProof.Rows L2
/-! ### zip(a, b, c) -/
def ItzS3 (K : PySem.W.Frag) (p q r : Src) : It :=
  ⟨fun i H => ∃ (xs ys zs : List V), p.has K H xs ∧ q.has K H ys ∧ r.has K H zs ∧ i < min (min xs.length ys.length) zs.length,
    fun i H v H' => ∃ T x y z, v = .ref T ∧ H T = none ∧ H' = upd H T (.tup [x, y, z]) ∧ (∀ xs, p.has K H xs → xs[i]? = some x) ∧ (∀ ys, q.has K H ys → ys[i]? = some y) ∧ ∀ zs, r.has K H zs → zs[i]? = some z,
    fun i H => ∃ xs ys zs : List V, p.has K H xs ∧ q.has K H ys ∧ r.has K H zs ∧ i = min (min xs.length ys.length) zs.length⟩
theorem sub5 {z TI TO i1 i2 i3 c : Addr} (h : c ∈ [z, TO, i1, i2, i3]) : c ∈ [z, TI, TO, i1, i2, i3] := by
  have e' : c = z ∨ c = TO ∨ c = i1 ∨ c = i2 ∨ c = i3 := by simpa using h
  rcases e' with e' | e' | e' | e' | e' <;> simp [e']
theorem turn_zipS3 {P : Program} {w : World} {K : PySem.W.Frag} {elts : List Expr} {kk : Nat} {tpos : Pos} {p q r : Src} {z TI TO i1 i2 i3 : Addr} {t1 t2 t3 : Tok} (D : ZipSep3 z TI TO i1 i2 i3 (p.fp i1) (q.fp i2) (r.fp i3)) (n1 : p.no i1) (n2 : q.no i2) (n3 : r.no i3) :
    Turn P w K (.Tuple elts kk tpos) (ItzS3 K p q r) [z, TI, TO, i1, i2, i3] z (fun i h => IsZip h z TI TO .none ∧ IsTupOf3 h TI (.ref i1) (.ref i2) (.ref i3) ∧ (∃ x y u, IsTupOf3 h TO x y u) ∧ p.st t1 i1 i h ∧ q.st t2 i2 i h ∧ r.st t3 i3 i h) where
  mem := by simp
  obj := fun i h st c hc => by
    obtain ⟨hz, hTI, ⟨x, y, u, hTO⟩, h1, h2, h3⟩ := st
    have e' : c = z ∨ c = TI ∨ c = TO ∨ c = i1 ∨ c = i2 ∨ c = i3 := by simpa using hc
    rcases e' with q' | q' | q' | q' | q' | q'
    · rw [q']; exact ⟨_, hz, fun v q => nomatch q⟩
    · rw [q']; exact ⟨_, hTI, fun v q => nomatch q⟩
    · rw [q']; exact ⟨_, hTO, fun v q => nomatch q⟩
    · rw [q']; exact Src.stEx h1
    · rw [q']; exact Src.stEx h2
    · rw [q']; exact Src.stEx h3
  keep := fun i h h' st k => by
    obtain ⟨hz, hTI, ⟨x, y, u, hTO⟩, h1, h2, h3⟩ := st
    exact ⟨k z (by simp) _ hz, k TI (by simp) _ hTI, ⟨x, y, u, k TO (by simp) _ hTO⟩, Src.stKeep h1 fun o q => k i1 (by simp) o q, Src.stKeep h2 fun o q => k i2 (by simp) o q, Src.stKeep h3 fun o q => k i3 (by simp) o q⟩
  item := by
    intro X hP hw hK hc i pins s σ H E I hf st hg
    subst hP hw hK
    obtain ⟨hz, hTI, hTO, h1, h2, h3⟩ := st
    obtain ⟨xs, ys, zs, hqx, hqy, hqz, hi⟩ := hg
    obtain ⟨P1, St1, D1, s1, b1, r1⟩ := Src.draws I hc hqx h1 n1
    obtain ⟨P2, St2, D2, s2, b2, r2⟩ := Src.draws I hc hqy h2 n2
    obtain ⟨P3, St3, D3, s3, b3, r3⟩ := Src.draws I hc hqz h3 n3
    have G := GoesN.zip3 (elts := elts) (x1 := kk) (pos := tpos) D D1 D2 D3
    refine G.goes i s _ E hi ⟨hz, hTI, hTO, s1, s2, s3⟩ fun v h' tk hY st' hk htk => ?_
    obtain ⟨T, u1, u2, u3, rfl, hT, hu1, hu2, hu3, ht⟩ := hY
    obtain ⟨x, hx, rx⟩ := r1 i u1 hu1
    obtain ⟨y, hy, ry⟩ := r2 i u2 hu2
    obtain ⟨y3, hy3, ry3⟩ := r3 i u3 hu3
    obtain ⟨hz', hTI', hTO', s1', s2', s3'⟩ := st'
    have new : ObjOk X.prog X.w (upd H T (.tup [x, y, y3])) h' T (.tup [x, y, y3]) :=
      ⟨by show 3 ≤ sizeLine; decide, [u1, u2, u3], .cons rx (.cons ry (.cons ry3 .nil)), ht⟩
    have hk2 : ∀ b o, b ∉ [z, TO, i1, i2, i3] → s.heap.get? b = some o → h'.get? b = some o := hk
    have I1 : Inv X pins σ (upd H T (.tup [x, y, y3])) { s with heap := h', toks := tk } :=
      I.turnedNew (ch := [z, TI, TO, i1, i2, i3]) (fun c o hb e => hk2 c o (fun q' => hb (sub5 q')) e) hf hT new
    refine ⟨.ref T, _, I1, rfl, ⟨T, x, y, y3, rfl, I.hok.fresh hT, rfl, fun l hl => by rw [Src.inj I hl hqx]; exact hx, fun l hl => by rw [Src.inj I hl hqy]; exact hy, fun l hl => by rw [Src.inj I hl hqz]; exact hy3⟩, ⟨hz', hTI', hTO', b1 _ _ s1', b2 _ _ s2', b3 _ _ s3'⟩, fun c hcm => ?_⟩
    have hlt : c < s.heap.objs.size := by
      have e' : c = z ∨ c = TI ∨ c = TO ∨ c = i1 ∨ c = i2 ∨ c = i3 := by simpa using hcm
      obtain ⟨_, _, _, hTO⟩ := hTO
      rcases e' with q | q | q | q | q | q
      · rw [q]; exact Heap.lt_size hz
      · rw [q]; exact Heap.lt_size hTI
      · rw [q]; exact Heap.lt_size hTO
      · rw [q]; obtain ⟨_, e1, _⟩ := Src.stEx h1; exact Heap.lt_size e1
      · rw [q]; obtain ⟨_, e2, _⟩ := Src.stEx h2; exact Heap.lt_size e2
      · rw [q]; obtain ⟨_, e2, _⟩ := Src.stEx h3; exact Heap.lt_size e2
    rw [upd_ne (Nat.ne_of_lt (Nat.lt_of_lt_of_le hlt hT))]
    exact (hf c hcm).1
  done := by
    intro X hP hw hK hc i pins s σ H E I hf st hg
    subst hP hw hK
    obtain ⟨hz, hTI, hTO, h1, h2, h3⟩ := st
    obtain ⟨xs, ys, zs, hqx, hqy, hqz, hi⟩ := hg
    obtain ⟨P1, St1, D1, s1, b1, r1⟩ := Src.draws I hc hqx h1 n1
    obtain ⟨P2, St2, D2, s2, b2, r2⟩ := Src.draws I hc hqy h2 n2
    obtain ⟨P3, St3, D3, s3, b3, r3⟩ := Src.draws I hc hqz h3 n3
    have G := GoesN.zip3 (elts := elts) (x1 := kk) (pos := tpos) D D1 D2 D3
    subst hi
    refine G.stops s _ E ⟨hz, hTI, hTO, s1, s2, s3⟩ fun h' tk hk htk => ?_
    have hk2 : ∀ b o, b ∉ [z, TO, i1, i2, i3] → s.heap.get? b = some o → h'.get? b = some o := hk
    exact I.turnedL (ch := [z, TI, TO, i1, i2, i3]) (fun c o hb e => hk2 c o (fun q' => hb (sub5 q')) e) hf
  self := fun A i s Q E st h => wpAny_pyIter_zip st.1 h
def iZipS3 (K : PySem.W.Frag) (ta : TA) : TI := fun σ H R => ta σ H fun vs H1 => ∃ (p q r : Src) (xs ys zs : List V), vs = [p.v, q.v, r.v] ∧ p.has K H1 xs ∧ q.has K H1 ys ∧ r.has K H1 zs ∧ R (ItzS3 K p q r) H1
theorem vals3 {a b c : V} {us : List Value} (h : Vals [a, b, c] us) : ∃ u v w, us = [u, v, w] ∧ RelV a u ∧ RelV b v ∧ RelV c w := by
  cases h with
  | cons p q => cases q with
    | cons p' q' => cases q' with
      | cons p'' q'' => cases q''; exact ⟨_, _, _, rfl, p, p', p''⟩
theorem pi_zipS3 {X : Cx} {e e2 e3 : Expr} {ta : TA} {p pos tpos : Pos} {elts : List Expr} {kk : Nat} (hg : Gl X "zip") (hm : X.mg "zip" = none) (ha : PA X [e, e2, e3] ta)
    (hs : starEach [e, e2, e3] X.env = (false, eval e X.env) :: starEach [e2, e3] X.env := by rfl) (hpl : (backTo pos (starEach [e2, e3] X.env)).any (·.1) = false := by rfl) :
    PI X (.Tuple elts kk tpos) (.Call (.Name "zip" p) [e, e2, e3] [] pos) (iZipS3 X.K ta) := by
  refine ⟨fun pins s σ H R I h => ?_⟩
  refine Call_ (ld_blt I hg hm PyProof.Rows.boot_zip (PyProof.Rows.callWith_type1 (thn (ha.run pos pins s σ H _ I h) fun us s1 ⟨vs, H1, I1, r1, q1⟩ => ?_) hs hpl))
  obtain ⟨sp, sq, sr, xs, ys, zs, ex, hqx, hqy, hqz, q⟩ := q1
  subst ex
  obtain ⟨u1, u2, u3, rfl, ru1, ru2, ru3⟩ := vals3 r1
  obtain ⟨t1, rfl⟩ := Src.of_val rfl ru1
  obtain ⟨t2, rfl⟩ := Src.of_val rfl ru2
  obtain ⟨t3, rfl⟩ := Src.of_val rfl ru3
  obtain ⟨Hp1, B1, hb1⟩ := Src.begins I1 (tk := t1) hqx
  obtain ⟨Hp2, B2, hb2⟩ := Src.begins I1 (tk := t2) hqy
  obtain ⟨Hp3, B3, hb3⟩ := Src.begins I1 (tk := t3) hqz
  refine zip_begins3 B1 B2 B3 hb1 hb2 hb3 fun h' hz hTI hTO h1 h2 h3 hsz hk => wpAny_pyIter_zip hz ?_
  have I2 : Inv X pins σ H1 { s1 with heap := h' } := I1.kept (t' := s1.toks) hk
  have l1 := Src.lt' I1 hqx
  have l2 := Src.lt' I1 hqy
  have l3 := Src.lt' I1 hqz
  have sep : ZipSep3 (s1.heap.objs.size + 5) (s1.heap.objs.size + 3) (s1.heap.objs.size + 4) s1.heap.objs.size (s1.heap.objs.size + 1) (s1.heap.objs.size + 2) (sp.fp s1.heap.objs.size) (sq.fp (s1.heap.objs.size + 1)) (sr.fp (s1.heap.objs.size + 2)) := by
    rw [Src.fp_eq, Src.fp_eq, Src.fp_eq]
    exact zip_sep3 l1 l2 l3
  refine ⟨s1.heap.objs.size + 5, [s1.heap.objs.size + 5, s1.heap.objs.size + 3, s1.heap.objs.size + 4, s1.heap.objs.size, s1.heap.objs.size + 1, s1.heap.objs.size + 2], _, _, H1, rfl, I2, turn_zipS3 (t1 := t1) (t2 := t2) (t3 := t3) sep (Src.no_of l1 (Nat.le_refl _)) (Src.no_of l2 (Nat.le_add_right _ 1)) (Src.no_of l3 (Nat.le_add_right _ 2)), ⟨hz, hTI, ⟨_, _, _, hTO⟩, Src.at0 h1, Src.at0 h2, Src.at0 h3⟩, fun c hcm => ?_, q⟩
  have e' : c = s1.heap.objs.size + 5 ∨ c = s1.heap.objs.size + 3 ∨ c = s1.heap.objs.size + 4 ∨ c = s1.heap.objs.size ∨ c = s1.heap.objs.size + 1 ∨ c = s1.heap.objs.size + 2 := by simpa using hcm
  have hle : s1.heap.objs.size ≤ c := by
    rcases e' with z | z | z | z | z | z
    · rw [z]; exact Nat.le_add_right _ _
    · rw [z]; exact Nat.le_add_right _ _
    · rw [z]; exact Nat.le_add_right _ _
    · rw [z]; exact Nat.le_refl _
    · rw [z]; exact Nat.le_add_right _ _
    · rw [z]; exact Nat.le_add_right _ _
  exact I1.fpOk hle (I1.hok.fresh hle)
/-! ### enumerate(text) -/
def IteT (x : Str) : It :=
  ⟨fun i _ => i < x.cps.size, fun i H v H' => ∃ T c, v = .ref T ∧ H T = none ∧ H' = upd H T (.tup [.int (i : Nat), .str ⟨#[c]⟩]) ∧ x.cps[i]? = some c, fun i _ => i = x.cps.size⟩
theorem turn_enumT {P : Program} {w : World} {K : PySem.W.Frag} {elts : List Expr} {kk : Nat} {tpos : Pos} {x : Str} {e it : Addr} {t : Tok} (hne : e ≠ it) :
    Turn P w K (.Tuple elts kk tpos) (IteT x) [e, it] e (fun i h => (∃ old, IsEnum h e it (0 + ((i : Nat) : Int)) old) ∧ h.IsStrIter it (strIterType x) x t i) where
  mem := by simp
  obj := fun i h st c hc => by
    obtain ⟨⟨old, he⟩, h1⟩ := st
    have e' : c = e ∨ c = it := by simpa using hc
    rcases e' with q' | q'
    · rw [q']; exact ⟨_, he, fun v q => nomatch q⟩
    · rw [q']; obtain ⟨o, a1, a2, a3⟩ := h1; exact ⟨o, a1, fun v q => by rw [a3] at q; cases q⟩
  keep := fun i h h' st k => by
    obtain ⟨⟨old, he⟩, o, a1, a2⟩ := st
    exact ⟨⟨old, k e (by simp) _ he⟩, o, k it (by simp) o a1, a2⟩
  item := by
    intro X hP hw hK hc i pins s σ H E I hf st hg
    subst hP hw hK
    have D := Draws.text (prog := X.prog) (w := X.w) (A := X.A.in1) (I.ok.hd hc) it x t
    have G := GoesN.enumFrom (elts := elts) (x1 := kk) (pos := tpos) 0 D e hne (by simpa using hne) (by simp)
    have st0 := st
    refine G.goes i s _ E hg st fun v h' tk hY st' hk htk => ?_
    obtain ⟨T, tt, u, rfl, hT, ⟨c, u', hcx, rfl⟩, ht⟩ := hY
    have new : ObjOk X.prog X.w (upd H T (.tup [.int (i : Nat), .str ⟨#[c]⟩])) h' T (.tup [.int (i : Nat), .str ⟨#[c]⟩]) :=
      ⟨by show 2 ≤ sizeLine; decide, [.int (0 + (i : Int)) tt, .str ⟨#[c]⟩ u'], .cons ⟨tt, by rw [Int.zero_add]⟩ (.cons ⟨u', rfl⟩ .nil), ht⟩
    have I1 : Inv X pins σ (upd H T (.tup [.int (i : Nat), .str ⟨#[c]⟩])) { s with heap := h', toks := tk } :=
      I.turnedNew (ch := [e, it]) hk hf hT new
    refine ⟨.ref T, _, I1, rfl, ⟨T, c, rfl, I.hok.fresh hT, rfl, hcx⟩, st', fun c' hcm => ?_⟩
    obtain ⟨⟨old, he⟩, o, a1, a2⟩ := st0
    have hlt : c' < s.heap.objs.size := by
      have e' : c' = e ∨ c' = it := by simpa using hcm
      rcases e' with q | q
      · rw [q]; exact Heap.lt_size he
      · rw [q]; exact Heap.lt_size a1
    rw [upd_ne (Nat.ne_of_lt (Nat.lt_of_lt_of_le hlt hT))]
    exact (hf c' hcm).1
  done := by
    intro X hP hw hK hc i pins s σ H E I hf st hg
    subst hP hw hK
    have D := Draws.text (prog := X.prog) (w := X.w) (A := X.A.in1) (I.ok.hd hc) it x t
    have G := GoesN.enumFrom (elts := elts) (x1 := kk) (pos := tpos) 0 D e hne (by simpa using hne) (by simp)
    have hg : i = x.cps.size := hg
    subst hg
    exact G.stops s _ E st fun h' tk hk htk => I.turnedL (ch := [e, it]) hk hf
  self := fun A i s Q E st h => by
    obtain ⟨⟨old, he⟩, _⟩ := st
    exact wpAny_pyIter_enum he h
def iEnumT (ta : TA) : TI := fun σ H R => ta σ H fun vs H1 => ∃ x, vs = [.str x] ∧ R (IteT x) H1
theorem pi_enumT {X : Cx} {e : Expr} {ta : TA} {p pos tpos : Pos} {elts : List Expr} {kk : Nat} (hg : Gl X "enumerate") (hm : X.mg "enumerate" = none) (ha : PA X [e] ta) (hs : starEach [e] X.env = [(false, eval e X.env)] := by rfl) :
    PI X (.Tuple elts kk tpos) (.Call (.Name "enumerate" p) [e] [] pos) (iEnumT ta) := by
  refine ⟨fun pins s σ H R I h => ?_⟩
  refine Call_ (ld_blt I hg hm boot_enumerate (PyProof.Rows.callWith_type1 (thn (ha.run pos pins s σ H _ I h) fun us s1 ⟨vs, H1, I1, r1, q1⟩ => ?_) hs rfl))
  obtain ⟨x, ex, q⟩ := q1
  subst ex
  obtain ⟨u, rfl, t, rfl⟩ := vals1 r1
  refine call_enumerate_str fun h' he hit hsz hk => wpAny_pyIter_enum he ?_
  have I2 : Inv X pins σ H1 { s1 with heap := h' } := I1.kept (t' := s1.toks) hk
  refine ⟨s1.heap.objs.size + 1, [s1.heap.objs.size + 1, s1.heap.objs.size], _, _, H1, rfl, I2, turn_enumT (t := t) (Nat.succ_ne_self _), ⟨⟨.none, by rw [Int.zero_add]; exact he⟩, hit⟩, fun b hb => ?_, q⟩
  have e' : b = s1.heap.objs.size + 1 ∨ b = s1.heap.objs.size := by simpa using hb
  have hle : s1.heap.objs.size ≤ b := by
    rcases e' with z | z
    · rw [z]; exact Nat.le_add_right _ _
    · rw [z]; exact Nat.le_refl _
  exact I1.fpOk hle (I1.hok.fresh hle)
/-! ### by typed values -/
/-- a thing that zip draws, of the items xs -/
class Drw (β : Type) [Rep β] (α : outParam Type) [Rep α] where
  items : β → List α
  src : ∀ {K : PySem.W.Frag} {F : Hp} {v : V} {x : β}, Is F v x → ∃ (s : Src) (vs : List V), v = s.v ∧ (∀ H, Ex F H → s.has K H vs) ∧ All2 (Rep.is F) vs (items x)
instance {α : Type} [Rep α] : Drw (List α) α := ⟨id, fun {K F v x} h => by
  obtain ⟨a, vs, hv, ha, hs⟩ := h
  exact ⟨.l a, vs, hv, fun H e => SqL.of (e _ _ ha), hs⟩⟩
instance : Drw Od Ltr := ⟨fun o => o.l.map Ltr.mk, fun {K F v x} h => by
  refine ⟨.t x.str, x.str.cps.toList.map fun c => V.str ⟨#[c]⟩, h, fun H e => rfl, ?_⟩
  have e : x.str.cps.toList.map (fun c => V.str ⟨#[c]⟩) = x.l.map fun b => V.str (Ltr.mk b).str := by
    show ((x.l.map code).toArray.toList).map _ = _
    simp [Ltr.str]
  rw [e]
  exact All2.map_r ⟨by simp, fun i a b h1 h2 => by
    rw [List.getElem?_map, h2] at h1
    cases h1
    rfl⟩⟩
section
variable {σ : St} {F : Hp} {K : PySem.W.Frag}
theorem ei_zipS {α β A B : Type} [Rep α] [Rep β] [Rep A] [Rep B] [Drw A α] [Drw B β] {ta : TA} {x : A} {y : B} (h : EA ta σ F (x, y, ())) : EIt (iZipS K ta) σ F ((Drw.items x).zip (Drw.items y)) := fun H e R k =>
  h H e _ fun ws F1 H1 g1 ⟨v, ws', hv, iv, w, ws2, hw, iw, hn⟩ => by
    obtain ⟨p, vs, ep, hp, ap⟩ := Drw.src (K := K) (α := α) iv
    obtain ⟨q, us, eq, hq, aq⟩ := Drw.src (K := K) (α := β) iw
    exact ⟨p, q, vs, us, by rw [hv, hw, hn, ep, eq], hp _ g1.fh, hq _ g1.fh, k _ F1 H1 g1 {
      go := fun i H2 e2 hi => by
        rw [List.length_zip] at hi
        exact ⟨vs, us, hp _ e2, hq _ e2, by rw [ap.len, aq.len]; exact hi⟩
      stop := fun i H2 e2 hi => by
        rw [List.length_zip] at hi
        exact ⟨vs, us, hp _ e2, hq _ e2, by rw [ap.len, aq.len]; exact hi⟩
      yld := fun i H2 v H' x e2 hx hy => by
        obtain ⟨T, y, z, rfl, hT, rfl, hy, hz⟩ := hy
        obtain ⟨hx1, hx2⟩ := zip_get hx
        have iy := ap.at_ i y x.1 (hy vs (hp _ e2)) hx1
        have iz := aq.at_ i z x.2 (hz us (hq _ e2)) hx2
        have ee := ex_upd (o := .tup [y, z]) (ex_none e2 hT)
        exact ⟨_, Grow.new e2 hT, T, y, z, rfl, upd_same, Rep.mono ee iy, Rep.mono ee iz⟩ }⟩
/-- items of three lists side by side -/
def zip3 {α β γ : Type} : List α → List β → List γ → List (T3 α β γ)
  | a :: as, b :: bs, c :: cs => ⟨a, b, c⟩ :: zip3 as bs cs
  | _, _, _ => []
theorem zip3_len {α β γ : Type} : ∀ (as : List α) (bs : List β) (cs : List γ), (zip3 as bs cs).length = min (min as.length bs.length) cs.length
  | [], bs, cs => by simp [zip3]
  | _ :: _, [], cs => by simp [zip3]
  | _ :: _, _ :: _, [] => by simp [zip3]
  | a :: as, b :: bs, c :: cs => by
    show (zip3 as bs cs).length + 1 = _
    rw [zip3_len as bs cs]
    simp only [List.length_cons]
    omega
theorem zip3_get {α β γ : Type} : ∀ {as : List α} {bs : List β} {cs : List γ} {i : Nat} {p : T3 α β γ}, (zip3 as bs cs)[i]? = some p → as[i]? = some p.a ∧ bs[i]? = some p.b ∧ cs[i]? = some p.c
  | [], bs, cs, i, p, h => by simp [zip3] at h
  | _ :: _, [], cs, i, p, h => by simp [zip3] at h
  | _ :: _, _ :: _, [], i, p, h => by simp [zip3] at h
  | a :: as, b :: bs, c :: cs, 0, p, h => by
    have e : T3.mk a b c = p := Option.some.inj h
    subst e
    exact ⟨rfl, rfl, rfl⟩
  | a :: as, b :: bs, c :: cs, i + 1, p, h => zip3_get (as := as) (bs := bs) (cs := cs) (i := i) h
theorem ei_zip3 {α β γ : Type} [Rep α] [Rep β] [Rep γ] {ta : TA} {x : List α} {y : List β} {z : List γ} (h : EA ta σ F (x, y, z, ())) : EIt (iZipS3 K ta) σ F (zip3 x y z) := fun H e R k =>
  h H e _ fun ws F1 H1 g1 ⟨v, ws', hv, iv, w, ws2, hw, iw, u, ws3, hu, iu, hn⟩ => by
    obtain ⟨p, vs, ep, hp, ap⟩ := Drw.src (K := K) (α := α) iv
    obtain ⟨q, us, eq, hq, aq⟩ := Drw.src (K := K) (α := β) iw
    obtain ⟨r, rs, er, hr, ar⟩ := Drw.src (K := K) (α := γ) iu
    have ap' : All2 (Rep.is F1) vs x := ap
    have aq' : All2 (Rep.is F1) us y := aq
    have ar' : All2 (Rep.is F1) rs z := ar
    exact ⟨p, q, r, vs, us, rs, by rw [hv, hw, hu, hn, ep, eq, er], hp _ g1.fh, hq _ g1.fh, hr _ g1.fh, k _ F1 H1 g1 {
      go := fun i H2 e2 hi => by
        rw [zip3_len] at hi
        exact ⟨vs, us, rs, hp _ e2, hq _ e2, hr _ e2, by rw [ap'.len, aq'.len, ar'.len]; exact hi⟩
      stop := fun i H2 e2 hi => by
        rw [zip3_len] at hi
        exact ⟨vs, us, rs, hp _ e2, hq _ e2, hr _ e2, by rw [ap'.len, aq'.len, ar'.len]; exact hi⟩
      yld := fun i H2 v H' x e2 hx hy => by
        obtain ⟨T, y1, y2, y3, rfl, hT, rfl, h1, h2, h3⟩ := hy
        obtain ⟨hx1, hx2, hx3⟩ := zip3_get hx
        have i1 := ap'.at_ i y1 x.a (h1 vs (hp _ e2)) hx1
        have i2 := aq'.at_ i y2 x.b (h2 us (hq _ e2)) hx2
        have i3 := ar'.at_ i y3 x.c (h3 rs (hr _ e2)) hx3
        have ee := ex_upd (o := .tup [y1, y2, y3]) (ex_none e2 hT)
        exact ⟨_, Grow.new e2 hT, T, y1, y2, y3, rfl, upd_same, Rep.mono ee i1, Rep.mono ee i2, Rep.mono ee i3⟩ }⟩
theorem ei_enumT {ta : TA} {o : Od} (h : EA ta σ F (o, ())) : EIt (iEnumT ta) σ F (en (o.l.map Ltr.mk)) := fun H e R k =>
  h H e _ fun ws F1 H1 g1 ⟨v, ws', hv, iv, hw⟩ => ⟨o.str, by rw [hv, iv, hw], by
    have hsz : o.str.cps.size = (en (o.l.map Ltr.mk)).length := by rw [en_len]; unfold Od.str; simp
    exact k _ F1 H1 g1 {
      go := fun i H2 e2 hi => by show i < o.str.cps.size; rw [hsz]; exact hi
      stop := fun i H2 e2 hi => by show i = o.str.cps.size; rw [hsz]; exact hi
      yld := fun i H2 v H' x e2 hx hy => by
        obtain ⟨T, c, rfl, hT, rfl, hc⟩ := hy
        obtain ⟨e1, hx2⟩ := en_get hx
        rw [List.getElem?_map] at hx2
        cases eb : o.l[i]? with
        | none => rw [eb] at hx2; cases hx2
        | some b =>
          rw [eb] at hx2
          have ex2 : Ltr.mk b = x.2 := Option.some.inj hx2
          have h2 : o.str.cps[i]? = some (code b) := by unfold Od.str; simp [eb]
          rw [h2] at hc
          cases hc
          exact ⟨_, Grow.new e2 hT, T, _, _, rfl, upd_same, congrArg V.int (by rw [e1]), by rw [← ex2]; rfl⟩ }⟩
end
end LT
/-! ## LRul4 -/
set_option Elab.async false
set_option linter.all false
set_option maxRecDepth 100000
set_option maxHeartbeats 4000000
/-! sorted of tuples (int, int, letter). -/
namespace LT
open PySem PySem.Spec PyProof.Rows L2
abbrev Evt := T3 Int Int Ltr
def encE (b : Evt) : PyData := .tuple [.int b.a, .int b.b, .str b.c.str]
/-- the order of events -/
def leE : Evt → Evt → Bool := PySem.W.dataLe false encE
theorem leE_le {a b : Evt} (h : leE a b = true) : a.a ≤ b.a := by
  unfold leE at h
  rw [PySem.W.dataLe_eq] at h
  have h2 : PySem.W.dataLt (encE b) (encE a) = false := by
    have : (!PySem.W.dataLt (encE b) (encE a)) = true := h
    simpa using this
  refine Int.not_lt.mp fun lt => ?_
  unfold encE at h2
  rw [PySem.W.dataLt_tuple, PySem.W.dataLt_cons (by simp [PySem.W.alike])] at h2
  have e : PyData.eqv (.int b.a) (.int a.a) = false := by
    simp only [PyData.eqv]
    exact beq_eq_false_iff_ne.mpr (by omega)
  rw [e, if_neg Bool.false_ne_true, PySem.W.dataLt_int] at h2
  exact absurd lt (of_decide_eq_false h2)
theorem leE_total : PySem.W.TotalLe leE := PySem.W.sortLe_total _ false _
def srt (l : List Evt) : List Evt := l.mergeSort leE
theorem srt_perm (l : List Evt) : (srt l).Perm l := List.mergeSort_perm l leE
theorem srt_pair (l : List Evt) : (srt l).Pairwise fun a b => a.a ≤ b.a := (PySem.W.sort_pairwise leE_total l).imp fun h => leE_le h
section
variable {X : Cx}
def rSortT : List V → Hp → VK → Prop := fun vs H Q => ∃ (a : Addr) (xs : List V) (bs : List Evt) (R : V → Evt → Prop), vs = [.ref a] ∧ H a = some (.lst xs) ∧ (∀ v b, R v b → Is H v b) ∧ All2 R xs bs ∧ bs.length ≤ 1000 ∧
  ∀ p ys, H p = none → All2 R ys (srt bs) → Q (.ref p) (upd H p (.lst ys))
theorem each_of {H : Hp} {α : Type} {R : V → α → Prop} : ∀ {xs : List V} {us : List Value} {bs : List α}, Vals xs us → xs.length = bs.length → (∀ (i : Nat) v b, xs[i]? = some v → bs[i]? = some b → R v b) → PySem.W.EachIs (fun u b => ∃ v, RelV v u ∧ R v b) us bs
  | [], [], [], .nil, _, _ => .nil
  | v :: xs, u :: us, b :: bs, .cons r t, hl, h => .cons ⟨v, r, h 0 v b rfl rfl⟩ (each_of (H := H) t (by simpa using hl) fun i v b h1 h2 => h (i + 1) v b h1 h2)
  | [], [], _ :: _, .nil, hl, _ => by simp at hl
  | _ :: _, _ :: _, [], .cons _ _, hl, _ => by simp at hl
theorem of_each {α : Type} {R : V → α → Prop} : ∀ {us : List Value} {bs : List α}, PySem.W.EachIs (fun u b => ∃ v, RelV v u ∧ R v b) us bs → ∃ ys, Vals ys us ∧ All2 R ys bs
  | _, _, .nil => ⟨[], .nil, .nil⟩
  | _, _, .cons ⟨v, r, h⟩ t => by
    obtain ⟨ys, h1, h2⟩ := of_each t
    exact ⟨v :: ys, .cons r h1, .cons h h2⟩
theorem cr_sortT (hu : X.A.units + 64 < cLine) : CallR X (.builtin "sorted") rSortT := by
  intro pins s σ H vs us Q I r h
  obtain ⟨a, xs, bs, R, rfl, ha, hR, hs, hz, q⟩ := h
  obtain ⟨its, rv, hl, _⟩ := I.list (SqL.of ha)
  rw [Vals.ref1 r]
  have e : PySem.W.EachIs (fun u b => ∃ v, RelV v u ∧ R v b) its bs := each_of (H := H) rv hs.len hs.at_
  have er : PySem.W.EachIs (fun v b => ∃ as, Reads s.heap v (encE b) as) its bs := e.mono fun u b ⟨v, rvu, hvb⟩ => by
    obtain ⟨t, x, y, z, hv, ht, h1, h2, h3⟩ := hR v b hvb
    refine Dp.reads I (encE b) v u ?_ rvu
    rw [hv]
    have hx : x = .int b.a := h1
    have hy : y = .int b.b := h2
    have hzz : z = .str b.c.str := h3
    subst hx hy hzz
    exact .tup (SqT.of ht) (.cons (.int _) (.cons (.int _) (.cons (.str _) .nil)))
  refine PySem.W.sorted_data hl.isList e er (PySem.W.AllAlike.of fun b b' => by simp [encE, PySem.W.alike, PySem.W.alikeAll]) (PySem.W.Sortable.tuples fun b => ⟨_, _, rfl⟩) (Nat.le_trans hz (by decide)) (fun b _ => ?_) fun out hlen ho => ?_
  · have : (encE b).depth ≤ 2 := by
      unfold encE
      simp [PyData.depth, PyData.depthAll]
    omega
  · obtain ⟨ys, hv, hys⟩ := of_each ho
    obtain ⟨ep, he'⟩ := PyProof.Rows.sortedAll_at s.heap its (List.toArray out)
    have hl2 : ys.length ≤ sizeLine := by
      have : (1000 : Nat) ≤ sizeLine := by decide
      have h1 := hv.length
      omega
    exact ⟨.ref _, upd H (s.heap.objs.size + 1) (.lst ys), I.laid (t' := s.toks) (fun _ _ => PyProof.Rows.sortedAll_old) (Nat.le_succ _) ⟨hl2, out, ep, hv, he'⟩, rfl, q _ ys (I.hok.fresh (Nat.le_succ _)) hys⟩
end
section
variable {σ : St} {F : Hp} {ta : TE}
theorem et_sorted {bs : List Evt} (h : ET ta σ F bs) (hz : bs.length ≤ 1000) : ET (tCB rSortT (tCons ta tNil)) σ F (srt bs) := fun H e Q k =>
  h H e _ fun v F1 H1 g1 ⟨a, vs, hv, ha, hs⟩ => ⟨a, vs, bs, Rep.is F1, by rw [hv], g1.fh _ _ ha, fun v b z => Rep.mono g1.fh z, hs, hz, fun p ys hp hys =>
    k _ _ _ (g1.trans (.new g1.fh hp)) ⟨p, ys, rfl, upd_same, hys.mono fun _ _ z => Rep.mono (ex_upd (ex_none g1.fh hp)) z⟩⟩
end
end LT
/-! ## LRul5 -/
set_option Elab.async false
set_option linter.all false
set_option maxRecDepth 100000
set_option maxHeartbeats 4000000
/-! {(..): v for .. for ..}; d.update(e) of such. -/
namespace L2
open PySem PySem.Spec PyProof.Rows
theorem dcompTurn2_out (kx vx t0 i0 t1 i1 : Expr) (ifs0 ifs1 : List Expr) (scope : Scope) (pos : Pos) (it : Value) (D : Addr) (env : Env) :
    compTurn (.DictComp kx vx [⟨t0, i0, ifs0, 0⟩, ⟨t1, i1, ifs1, 0⟩] scope pos) 0 it (.ref D) env = (do
      standAt i0.pos
      match ← pyNext it with
      | none => pure (.done .next)
      | some v =>
        letOwnedTupleGo t0 it v
        assign t0 env v
        let mut ok := true
        for c in ifs0 do
          if ok then ok ← isTrue c env (eval c env)
        if ok then
          let x ← eval i1 env
          standAt i1.pos
          let x ← foldedSetIterable i1 env x
          let _ ← runOwn (.compStart (.DictComp kx vx [⟨t0, i0, ifs0, 0⟩, ⟨t1, i1, ifs1, 0⟩] scope pos) 1 (← holding [x] (pyIter x)) (.ref D) env) env
        again (.compLoop (.DictComp kx vx [⟨t0, i0, ifs0, 0⟩, ⟨t1, i1, ifs1, 0⟩] scope pos) 0 it (.ref D) env)) := by rfl
theorem dcompTurn2_in (kx vx t0 i0 t1 i1 : Expr) (ifs0 ifs1 : List Expr) (scope : Scope) (pos : Pos) (it : Value) (D : Addr) (env : Env) :
    compTurn (.DictComp kx vx [⟨t0, i0, ifs0, 0⟩, ⟨t1, i1, ifs1, 0⟩] scope pos) 1 it (.ref D) env = (do
      standAt i1.pos
      match ← pyNext it with
      | none => pure (.done .next)
      | some v =>
        letOwnedTupleGo t1 it v
        assign t1 env v
        let mut ok := true
        for c in ifs1 do
          if ok then ok ← isTrue c env (eval c env)
        if ok then
          (do
            let kv ← eval kx env
            let vv ← holding [kv] (eval vx env)
            standAt { kx.pos with endLine := vx.pos.endLine, endCol := vx.pos.endCol }
            holding [kv, vv] (dictSet D kv vv))
        again (.compLoop (.DictComp kx vx [⟨t0, i0, ifs0, 0⟩, ⟨t1, i1, ifs1, 0⟩] scope pos) 1 it (.ref D) env)) := by rfl

section
variable {prog : Program} {w : World} {A : Around} {R : Result → Shared → Prop} {s : Shared} {kx vx t0 i0 t1 i1 : Expr} {ifs0 ifs1 : List Expr} {scope : Scope} {pos : Pos} {it : Value} {D : Addr} {env : Env}
/-- the loop of the first clause -/
theorem dcompLoop2_out (hs : ∀ x, foldedSetIterable i1 env x = pure x) (I : Nat → Shared → Prop)
    (turn : ∀ n s, I n s → wpAny (model prog w) A (pyNext it) (fun r s₁ => match r with
      | none => R (.ok .next) s₁
      | some v => wpAny (model prog w) A (letOwnedTupleGo t0 it v) (fun _ s₁' => wpAny (model prog w) A (assign t0 env v) (fun _ s₂ =>
          wpAny (model prog w) A (forIn ifs0 true fun c r => if r = true then do let ok ← isTrue c env (eval c env); pure (ForInStep.yield ok) else pure (ForInStep.yield r)) (fun ok s₃ =>
            if ok = true then wpAny (model prog w) A (eval i1 env) (fun x s₄ => wpAny (model prog w) A (pyIter x) (fun it1 s₅ =>
              codeAny (model prog w) A (.compStart (.DictComp kx vx [⟨t0, i0, ifs0, 0⟩, ⟨t1, i1, ifs1, 0⟩] scope pos) 1 it1 (.ref D) env) (fun r s' => match r with
                | .ok _ => ∃ m, m < n ∧ I m s'
                | .error _ => False) s₅) (notedBy (model prog w) A env fun e s' => R (.error e) s') s₄) (notedBy (model prog w) A env fun e s' => R (.error e) s') s₃
            else ∃ m, m < n ∧ I m s₃) (notedBy (model prog w) A env fun e s' => R (.error e) s') s₂) (notedBy (model prog w) A env fun e s' => R (.error e) s') s₁') (notedBy (model prog w) A env fun e s' => R (.error e) s') s₁) (notedBy (model prog w) A env fun e s' => R (.error e) s') s)
    (n : Nat) (h : I n s) :
    codeAny (model prog w) A (.compLoop (.DictComp kx vx [⟨t0, i0, ifs0, 0⟩, ⟨t1, i1, ifs1, 0⟩] scope pos) 0 it (.ref D) env) R s := by
  refine codeAny_loop rfl I (fun n s hI => ?_) n h
  show wpAny _ A ((compTurn (.DictComp kx vx [⟨t0, i0, ifs0, 0⟩, ⟨t1, i1, ifs1, 0⟩] scope pos) 0 it (.ref D) env).onRaise (fun x => do noteFrame x env; theTreesLotGoes x)) _ _ s
  refine wpAny_noted ?_
  rw [dcompTurn2_out]
  refine wpAny_bind (wpAny_standAt (wpAny_bind (wpAny_mono (turn n s hI) (fun r s₁ h₁ => ?_) fun _ _ h' => h')))
  cases r with
  | none => exact wpAny_pure h₁
  | some v =>
    refine wpAny_bind (wpAny_mono h₁ (fun _ s₁' h₁' => ?_) fun _ _ h' => h')
    refine wpAny_bind (wpAny_mono h₁' (fun _ s₂ h₂ => wpAny_bind (wpAny_mono h₂ (fun ok s₃ h₃ => ?_) fun _ _ h' => h')) fun _ _ h' => h')
    cases ok with
    | false => exact wpAny_pure ⟨rfl, h₃⟩
    | true =>
      refine wpAny_bind (wpAny_mono h₃ (fun x s₄ h₄ => ?_) fun _ _ h' => h')
      refine wpAny_bind (wpAny_standAt (wpAny_bind (wpAny_of_eq (hs x) (wpAny_bind (wpAny_holding (wpAny_mono h₄ (fun it1 s₅ h₅ => ?_) fun _ _ h' => h'))))))
      refine wpAny_bind (wpAny_runOwn ?_)
      rw [Around.mark_none]
      refine codeAny_mono h₅ fun r s' hr => ?_
      cases r with
      | ok f =>
        first
          | exact wpAny_pure ⟨rfl, hr⟩
          | exact wpAny_bind (wpAny_pure (wpAny_pure ⟨rfl, hr⟩))
      | error e => exact hr.elim
/-- the loop of the second -/
theorem dcompLoop2_in (I : Nat → Shared → Prop)
    (turn : ∀ n s, I n s → wpAny (model prog w) A (pyNext it) (fun r s₁ => match r with
      | none => R (.ok .next) s₁
      | some v => wpAny (model prog w) A (letOwnedTupleGo t1 it v) (fun _ s₁' => wpAny (model prog w) A (assign t1 env v) (fun _ s₂ =>
          wpAny (model prog w) A (forIn ifs1 true fun c r => if r = true then do let ok ← isTrue c env (eval c env); pure (ForInStep.yield ok) else pure (ForInStep.yield r)) (fun ok s₃ =>
            if ok = true then wpAny (model prog w) A (eval kx env) (fun kv s₄ => wpAny (model prog w) A (eval vx env) (fun vv s₅ =>
              wpAny (model prog w) A (dictSet D kv vv) (fun _ s₆ => ∃ m, m < n ∧ I m s₆) (notedBy (model prog w) A env fun e s' => R (.error e) s') s₅) (notedBy (model prog w) A env fun e s' => R (.error e) s') s₄) (notedBy (model prog w) A env fun e s' => R (.error e) s') s₃
            else ∃ m, m < n ∧ I m s₃) (notedBy (model prog w) A env fun e s' => R (.error e) s') s₂) (notedBy (model prog w) A env fun e s' => R (.error e) s') s₁') (notedBy (model prog w) A env fun e s' => R (.error e) s') s₁) (notedBy (model prog w) A env fun e s' => R (.error e) s') s)
    (n : Nat) (h : I n s) :
    codeAny (model prog w) A (.compLoop (.DictComp kx vx [⟨t0, i0, ifs0, 0⟩, ⟨t1, i1, ifs1, 0⟩] scope pos) 1 it (.ref D) env) R s := by
  refine codeAny_loop rfl I (fun n s hI => ?_) n h
  show wpAny _ A ((compTurn (.DictComp kx vx [⟨t0, i0, ifs0, 0⟩, ⟨t1, i1, ifs1, 0⟩] scope pos) 1 it (.ref D) env).onRaise (fun x => do noteFrame x env; theTreesLotGoes x)) _ _ s
  refine wpAny_noted ?_
  rw [dcompTurn2_in]
  refine wpAny_bind (wpAny_standAt (wpAny_bind (wpAny_mono (turn n s hI) (fun r s₁ h₁ => ?_) fun _ _ h' => h')))
  cases r with
  | none => exact wpAny_pure h₁
  | some v =>
    refine wpAny_bind (wpAny_mono h₁ (fun _ s₁' h₁' => ?_) fun _ _ h' => h')
    refine wpAny_bind (wpAny_mono h₁' (fun _ s₂ h₂ => wpAny_bind (wpAny_mono h₂ (fun ok s₃ h₃ => ?_) fun _ _ h' => h')) fun _ _ h' => h')
    cases ok with
    | false => exact wpAny_pure ⟨rfl, h₃⟩
    | true =>
      exact wpAny_bind (wpAny_bind (wpAny_mono h₃ (fun kv s₄ h₄ => wpAny_bind (wpAny_holding (wpAny_mono h₄ (fun vv s₅ h₅ => wpAny_bind (wpAny_standAt (wpAny_holding (wpAny_mono h₅ (fun _ s₆ h₆ => wpAny_pure ⟨rfl, h₆⟩) fun _ _ h' => h')))) fun _ _ h' => h'))) fun _ _ h' => h'))
/-- the second clause's start -/
theorem dcompStart1_ok (h0 : codeAny (model prog w) A (.compLoop (.DictComp kx vx [⟨t0, i0, ifs0, 0⟩, ⟨t1, i1, ifs1, 0⟩] scope pos) 1 it (.ref D) env) R s)
    (h : wpAny (model prog w) A (pyIter it) (fun it' s' => codeAny (model prog w) A (.compLoop (.DictComp kx vx [⟨t0, i0, ifs0, 0⟩, ⟨t1, i1, ifs1, 0⟩] scope pos) 1 it' (.ref D) env) R s')
      (notedBy (model prog w) A env fun x s' => R (.error x) s') s) :
    codeAny (model prog w) A (.compStart (.DictComp kx vx [⟨t0, i0, ifs0, 0⟩, ⟨t1, i1, ifs1, 0⟩] scope pos) 1 it (.ref D) env) R s := by
  refine codeAny_of_tree ?_
  show wpAny _ _ ((compStart (.DictComp kx vx [⟨t0, i0, ifs0, 0⟩, ⟨t1, i1, ifs1, 0⟩] scope pos) 1 it (.ref D) env).onRaise (fun x => do noteFrame x env; standAt theWindowsPlace)) _ _ s
  refine wpAny_notedAt ?_
  unfold compStart
  show wpAny _ _ (ask >>= _) _ _ s
  refine wpAny_bind (wpAny_askSetting (wpAny_ite ?_))
  split
  · first
      | exact wpAny_bind (wpAny_pure (wpAny_pure (And.intro rfl h0)))
      | exact wpAny_pure (And.intro rfl h0)
  · first
      | exact wpAny_bind (wpAny_rule (wpAny_bind (wpAny_standAt (wpAny_bind (wpAny_mono h (fun it' s' h' => wpAny_pure (And.intro rfl h')) fun _ _ x => x)))))
      | (refine wpAny_bind (wpAny_rule ?_); show wpAny _ _ (standAt i1.pos >>= _) _ _ s; exact wpAny_bind (wpAny_standAt (wpAny_bind (wpAny_mono h (fun it' s' h' => wpAny_pure (And.intro rfl h')) fun _ _ x => x))))
end

/-- d[k] = v by a comprehension, k a tuple -/
theorem t_dictSet {X : Cx} {pins : List (Addr × Obj)} {σ : St} {H : Hp} {s : Shared} {E : Value → Shared → Prop} {D b : Addr} {kvs : List (List Key × V)} {k : List Key} {v : V} {u r : Value} {Q : Unit → Shared → Prop} (I : Inv X pins σ H s) (hD : H D = some (.dT kvs)) (eb : H b = some (.tup (k.map kV)))
    (hz : kvs.length < sizeLine) (hu : X.A.units + 1 < cLine) (ry : RelV (.ref b) u) (rv : RelV v r) (h : ∀ s', Inv X pins σ (upd H D (.dT (putK kvs k v))) s' → Q () s') : wpAny (model X.prog X.w) X.A (dictSet D u r) Q E s := by
  cases (show u = Value.ref b from ry)
  obtain ⟨z, hd, xs, rel, dd⟩ := dt_of I.hok hD
  have hz2 : xs.length ≤ sizeLine := by rw [← Paired.length rel]; exact z
  have hl : (putK kvs k v).length ≤ sizeLine := by have := length_putK kvs k v; omega
  refine wpAny_dictSet_heap (knd := tupleKind (mixKind X.prog X.w)) (hsz := hz2) (Nat.lt_of_succ_lt hu) (key_of I.hok eb) dd fun h' dd' hs => h _ ?_
  obtain ⟨q, es, ep, hq, h2, h3, h4, _, h5⟩ := dd'
  refine d_write I (by rw [hD]; exact True.intro) hs ⟨q, hq⟩ ⟨hl, hd, _, (rel.put k eb rv).keeps fun c ys ec => ?_, q, es, ep, hq, h2, h3, h4, h5⟩
  rw [upd_ne (ne_of ec hD (fun z => nomatch z))]
  exact ec
/-- {k: v for tg in iter for tg1 in iter1}, keys tuples -/
def tDc2 (wi : TI) (g : TG) (tt : TT) (wi1 : TI) (g1 : TG) (tt1 : TT) (tk tv : TE) (vs vs1 : List Nat) : TE := fun σ H Q => wi σ H fun J H1 => ∀ D, H1 D = none → ∃ W : Nat → Nat → Hp → Prop, (∃ m, W 0 m (upd H1 D (.dT []))) ∧ ∀ i m H, W i m H →
  (J.stop i H ∧ Q (.ref D) H) ∨ (J.go i H ∧ ∃ Nx : Hp → Prop, (∀ H', Nx H' → ∃ m', m' < m ∧ W (i + 1) m' H') ∧ ∀ x H', J.yld i H x H' → g x (wipe σ vs) H' fun σ2 H2 => wipe σ2 vs = wipe σ vs ∧ tt σ2 H2 fun b H3 =>
    if b = true then wi1 σ2 H3 fun J1 H4 => ∃ W1 : Nat → Nat → Hp → Prop, (∃ m, W1 0 m H4) ∧ ∀ j k H, W1 j k H →
      (J1.stop j H ∧ Nx H) ∨ (J1.go j H ∧ ∃ Nx1 : Hp → Prop, (∀ H', Nx1 H' → ∃ k', k' < k ∧ W1 (j + 1) k' H') ∧ ∀ x H', J1.yld j H x H' → g1 x (wipe σ2 vs1) H' fun σ3 H5 => wipe σ3 vs1 = wipe σ2 vs1 ∧ tt1 σ3 H5 fun b H6 =>
        if b = true then tk σ3 H6 fun y H7 => tv σ3 H7 fun z H8 => ∃ kvs k b2, y = .ref b2 ∧ H8 b2 = some (.tup (k.map kV)) ∧ H8 D = some (.dT kvs) ∧ kvs.length < sizeLine ∧ Nx1 (upd H8 D (.dT (putK kvs k z))) else Nx1 H6)
    else Nx H3)
section
variable {X : Cx}
theorem dc2_core {pins : List (Addr × Obj)} {s : Shared} {σ : St} {H : Hp} {Q : VK} {kx vx tg iter tg1 iter1 : Expr} {ifs ifs1 : List Expr} {scope : Scope} {own : List (Str × Nat)} {vs1 : List Nat} {pos pos' : Pos} {wi wi1 : TI} {g g1 : TG} {tt tt1 : TT} {tk tv : TE} {use : Option (Value → Sem Unit)} {Qf : Value → Shared → Prop}
    (hc : X.calm = true) (hu : X.A.units + 1 < cLine) (hN : X.N.Nodup) (I : Inv X pins σ H s) (hi : PI X tg iter wi) (ok : BlkOk X.N X.env.scope scope own) (hv : ∀ i ∈ vs1, i ∈ own.map (·.2))
    (hg : ∀ (s : Shared) (H : Hp) (C : Addr) (cl : List (Str × Addr)) (fp : List Addr), PG (X.blk s H scope (compEnvC scope cl C X.env) fp) tg g) (ht : ∀ (s : Shared) (H : Hp) (C : Addr) (cl : List (Str × Addr)) (fp : List Addr), PTs (X.blk s H scope (compEnvC scope cl C X.env) fp) ifs tt)
    (hk : ∀ (s : Shared) (H : Hp) (C : Addr) (cl : List (Str × Addr)) (fp : List Addr), PE (X.blk s H scope (compEnvC scope cl C X.env) fp) kx tk)
    (he : ∀ (s : Shared) (H : Hp) (C : Addr) (cl : List (Str × Addr)) (fp : List Addr), PE (X.blk s H scope (compEnvC scope cl C X.env) fp) vx tv) (hs : ∀ x, foldedSetIterable iter X.env x = pure x)
    (hi1 : ∀ (s : Shared) (H : Hp) (C : Addr) (cl : List (Str × Addr)) (fp : List Addr), PI (X.blk s H scope (compEnvC scope cl C X.env) fp) tg1 iter1 wi1)
    (hg1 : ∀ (s : Shared) (H : Hp) (C : Addr) (cl : List (Str × Addr)) (fp : List Addr), PG (X.blk s H scope (compEnvC scope cl C X.env) fp) tg1 g1)
    (ht1 : ∀ (s : Shared) (H : Hp) (C : Addr) (cl : List (Str × Addr)) (fp : List Addr), PTs (X.blk s H scope (compEnvC scope cl C X.env) fp) ifs1 tt1)
    (hs1 : ∀ env x, foldedSetIterable iter1 env x = pure x)
    (h : tDc2 wi g tt wi1 g1 tt1 tk tv (own.map (·.2)) vs1 σ H Q)
    (hRR : ∀ D C s' m H', Inv X pins σ H' s' → Q (.ref D) H' → s'.heap.Ns C m → FpOk X pins H' C → compPost (model X.prog X.w) X.A X.xe use Qf (.ref D) C (.ok .next) s') :
    wpAny (model X.prog X.w) X.A (comprehension (.DictComp kx vx [⟨tg, iter, ifs, 0⟩, ⟨tg1, iter1, ifs1, 0⟩] scope pos) scope X.env pos' newDict false (eval iter X.env) use) Qf X.xe s := by
  have hfree : ∀ y ∈ scope.names, y.2 = .free → ∃ c, X.env.cells.lookup y.1 = some c := fun y hy e => by
    rcases ok.free y hy e with k | k
    · exact I.ok.has _ (.inl k)
    · exact I.ok.has _ (.inr k)
  refine wpAny_comprehension_free (use := use) rfl hs (closure_ok hfree) ok.kind (fun y hy e => by rw [ok.uniq y hy, e])
    (thn (hi.run pins s σ H _ I h) fun xv s1 hx => thn hx fun itv s2 h2 => ?_)
  obtain ⟨it, fp, tn, J, H2, e, I2, T, st2, f2, q⟩ := h2
  subst e
  refine wpAny_newObj_type (newEnv_comp ?_)
  generalize hD : s2.heap.objs.size = D
  have hDn : H2 D = none := I2.hok.fresh (Nat.le_of_eq hD)
  obtain ⟨W, ⟨m0, w0⟩, turn⟩ := q D hDn
  -- the new list
  generalize hs3 : ({ s2 with heap := s2.heap.push { cls := .type "dict", data := .dict #[] } } : Shared) = s3
  have I3 : Inv X pins σ (upd H2 D (.dT [])) s3 := by
    rw [← hs3]
    refine I2.laid (t' := s2.toks) (fun b o e => Heap.get?_push_of_some _ e) (Nat.le_of_eq hD) ?_
    rw [← hD]
    exact dt_empty s2.heap I2.big
  have h3 : s3.heap = s2.heap.push { cls := .type "dict", data := .dict #[] } := by rw [← hs3]
  have sz : ∀ b ∈ fp, b < s2.heap.objs.size := fun b hb => by
    obtain ⟨o, e, _⟩ := T.obj _ _ st2 b hb
    exact Heap.lt_size e
  have f3 : ∀ b ∈ fp, FpOk X pins (upd H2 D (.dT [])) b ∧ b < s3.heap.objs.size := fun b hb => by
    have hlt := sz b hb
    refine ⟨⟨?_, (f2 b hb).2⟩, by rw [h3, Heap.size_push]; exact Nat.lt_succ_of_lt hlt⟩
    rw [upd_ne (by rw [← hD]; exact Nat.ne_of_lt hlt)]
    exact (f2 b hb).1
  have st3 : tn 0 s3.heap := T.keep _ _ _ st2 fun b _ o e => by rw [h3]; exact Heap.get?_push_of_some _ e
  have I4 := block_start I3 ok hN f3
  have pg := hg s3 (upd H2 D (.dT [])) s3.heap.objs.size (cellsFrom (s3.heap.objs.size + 1) scope.names (cloFrom X.env.cells scope.names [])) fp
  have pt := ht s3 (upd H2 D (.dT [])) s3.heap.objs.size (cellsFrom (s3.heap.objs.size + 1) scope.names (cloFrom X.env.cells scope.names [])) fp
  have pk := hk s3 (upd H2 D (.dT [])) s3.heap.objs.size (cellsFrom (s3.heap.objs.size + 1) scope.names (cloFrom X.env.cells scope.names [])) fp
  have pe := he s3 (upd H2 D (.dT [])) s3.heap.objs.size (cellsFrom (s3.heap.objs.size + 1) scope.names (cloFrom X.env.cells scope.names [])) fp
  have pi1 := hi1 s3 (upd H2 D (.dT [])) s3.heap.objs.size (cellsFrom (s3.heap.objs.size + 1) scope.names (cloFrom X.env.cells scope.names [])) fp
  have pg1 := hg1 s3 (upd H2 D (.dT [])) s3.heap.objs.size (cellsFrom (s3.heap.objs.size + 1) scope.names (cloFrom X.env.cells scope.names [])) fp
  have pt1 := ht1 s3 (upd H2 D (.dT [])) s3.heap.objs.size (cellsFrom (s3.heap.objs.size + 1) scope.names (cloFrom X.env.cells scope.names [])) fp
  show codeAny _ _ (.compStart (.DictComp kx vx [⟨tg, iter, ifs, 0⟩, ⟨tg1, iter1, ifs1, 0⟩] scope pos) 0 (.ref it) (.ref D) (compEnvC scope (cellsFrom (s3.heap.objs.size + 1) scope.names (cloFrom X.env.cells scope.names [])) s3.heap.objs.size X.env)) (compPost (model X.prog X.w) X.A X.xe use Qf (.ref D) s3.heap.objs.size) { s3 with heap := pushCells (s3.heap.push { cls := .type "dict", data := .dict #[] }) scope.names }
  have nfp : ∀ b ∈ fp, (upd H2 D (.dT [])) b = none := fun b hb => (f3 b hb).1.1
  generalize hce : compEnvC scope (cellsFrom (s3.heap.objs.size + 1) scope.names (cloFrom X.env.cells scope.names [])) s3.heap.objs.size X.env = ce at I4 pg pt pk pe pi1 pg1 pt1 ⊢
  have cL : ce.locals = s3.heap.objs.size := by subst hce; rfl
  generalize hH3 : upd H2 D (.dT []) = H3 at I3 I4 pg pt pk pe pi1 pg1 pt1 w0 nfp f3
  generalize hs4 : ({ s3 with heap := pushCells (s3.heap.push { cls := .type "dict", data := .dict #[] }) scope.names } : Shared) = s4 at I4 ⊢
  have st4 : tn 0 s4.heap := T.keep _ _ _ st3 fun b _ o e => by rw [← hs4]; exact pushCells_keeps _ _ _ _ (Heap.get?_push_of_some _ e)
  have stat : ∀ {σ' : St} {H' : Hp} {s' : Shared}, Inv (X.blk s3 H3 scope ce fp) [] σ' H' s' → (∀ b ∈ fp, H' b = none) → ∀ b ∈ fp, FpOk (X.blk s3 H3 scope ce fp) [] H' b := fun {σ' H' s'} I' hn b hb =>
    ⟨hn b hb, (I'.ok.exf b hb).1, I'.ok.exfs b hb, .inl hb, fun x c e => (I'.ok.exf b hb).2 x c e, fun p hp => absurd (show p ∈ ([] : List (Addr × Obj)) ++ [] from hp) (by simp)⟩
  have loop : codeAny (model X.prog X.w) X.A (.compLoop (.DictComp kx vx [⟨tg, iter, ifs, 0⟩, ⟨tg1, iter1, ifs1, 0⟩] scope pos) 0 (.ref it) (.ref D) ce) (compPost (model X.prog X.w) X.A X.xe use Qf (.ref D) s3.heap.objs.size) s4 := by
    refine dcompLoop2_out (hs1 ce) (fun n s' => ∃ i H', Inv (X.blk s3 H3 scope ce fp) [] (wipe σ (own.map (·.2))) H' s' ∧ tn i s'.heap ∧ (∀ b ∈ fp, H' b = none) ∧ W i n H') ?_ m0 ⟨0, H3, I4, st4, nfp, w0⟩
    rintro n s5 ⟨i, H5, I5, st5, n5, w5⟩
    rcases turn i n H5 w5 with ⟨stop, qq⟩ | ⟨go, Nx, hNx, step⟩
    · have td := T.done (X.blk s3 H3 scope ce fp) rfl rfl rfl hc i [] s5 _ H5 (fun _ _ => False) I5 (stat I5 n5) st5 stop
      refine thnF td fun r s6 ⟨hr, I6⟩ => ?_
      subst hr
      -- back in the def's context
      have I7 : Inv X pins σ H5 s6 := I3.call' (ch := fp) I6.os I6.base I6.hok I6.bare fun b hb => ⟨(f3 b hb).1.2.2.2.1, (f3 b hb).1.2.1, (f3 b hb).1.2.2.2.2.1, (f3 b hb).1.2.2.2.2.2⟩
      have nC : H5 s3.heap.objs.size = none := by
        have z : H5 ce.locals = none := I6.free
        rw [cL] at z
        exact z
      obtain ⟨m, hn, _⟩ := I6.loc
      have hn : s6.heap.Ns ce.locals m := hn
      rw [cL] at hn
      exact hRR D s3.heap.objs.size s6 m H5 I7 qq hn (I3.fpOk (Nat.le_refl _) nC)
    · have ti := T.item (X.blk s3 H3 scope ce fp) rfl rfl rfl hc i [] s5 _ H5 (fun _ _ => False) I5 (stat I5 n5) st5 go
      refine thnF ti fun r s6 ⟨u, hr, h6⟩ => ?_
      subst hr
      refine thnF h6 fun _ s7 ⟨x, H7, I7, r7, y7, st7, n7⟩ => ?_
      have I7' := I7.pinned (stat I7 n7) (T.obj _ _ st7)
      refine thnF (pg.run _ s7 _ H7 x u _ I7' r7 (step x H7 y7)) fun _ s8 ⟨σ8, H8, I8, hw8, q8⟩ => ?_
      refine thnF (pt.run _ s8 σ8 H8 _ I8 q8) fun b s9 ⟨H9, I9, q9⟩ => ?_
      -- the turn's end, from any slots that know what the block knew at its start
      have fin : ∀ {σ9 : St} {s' : Shared} {H' : Hp}, Inv (X.blk s3 H3 scope ce fp) ([] ++ pinsAt fp s7.heap) σ9 H' s' → (wipe σ (own.map (·.2))).length = σ9.length → (∀ (j : Nat) v, (wipe σ (own.map (·.2)))[j]? = some (some v) → σ9[j]? = some (some v)) → Nx H' →
          ∃ m, m < n ∧ ∃ i H', Inv (X.blk s3 H3 scope ce fp) [] (wipe σ (own.map (·.2))) H' s' ∧ tn i s'.heap ∧ (∀ b ∈ fp, H' b = none) ∧ W i m H' := fun {σ9 s' H'} I' hl hk nx => by
        obtain ⟨m', hm, w'⟩ := hNx H' nx
        have pin' : ∀ b ∈ fp, ∀ o, s7.heap.get? b = some o → s'.heap.get? b = some o ∧ H' b = none := fun b hb o e =>
          let z := I'.pin (b, o) (List.mem_append_right _ (List.mem_append_right _ (mem_pinsAt hb e)))
          ⟨z.1, z.2.1⟩
        refine ⟨m', hm, i + 1, H', (I'.unpinned (pins := [])).weak hl hk, T.keep _ _ _ st7 fun b hb o e => (pin' b hb o e).1, fun b hb => ?_, w'⟩
        obtain ⟨o, e, _⟩ := T.obj _ _ st7 b hb
        exact (pin' b hb o e).2
      have hl8 : (wipe σ (own.map (·.2))).length = σ8.length := by rw [← hw8, wipe_length]
      have hk8 : ∀ (j : Nat) v, (wipe σ (own.map (·.2)))[j]? = some (some v) → σ8[j]? = some (some v) := fun j v e => by
        rw [← hw8] at e
        exact (wipe_some e).1
      have hk9 : ∀ (j : Nat) v, (wipe σ (own.map (·.2)))[j]? = some (some v) → (wipe σ8 vs1)[j]? = some (some v) := fun j v e => by
        rw [← hw8] at e
        obtain ⟨e1, e2⟩ := wipe_some e
        rw [wipe_out fun z => e2 (hv j z)]
        exact e1
      cases b with
      | false =>
        simp only [Bool.false_eq_true, if_false] at q9 ⊢
        exact fin I9 hl8 hk8 q9
      | true =>
        simp only [if_true] at q9 ⊢
        refine thnF (pi1.run _ s9 σ8 H9 _ I9 q9) fun xv s10 hx => thnF hx fun itv s11 h11 => ?_
        obtain ⟨it1, fp1, tn1, J1, H11, e1, I11, T1, st11, f11, W1, ⟨m1, w1⟩, turn1⟩ := h11
        subst e1
        -- the inner loop
        have stat1 : ∀ {H' : Hp}, (∀ b ∈ fp1, H' b = none) → ∀ b ∈ fp1, FpOk (X.blk s3 H3 scope ce fp) ([] ++ pinsAt fp s7.heap) H' b := fun hn b hb => ⟨hn b hb, (f11 b hb).2⟩
        have loop1 : codeAny (model X.prog X.w) X.A (.compLoop (.DictComp kx vx [⟨tg, iter, ifs, 0⟩, ⟨tg1, iter1, ifs1, 0⟩] scope pos) 1 (.ref it1) (.ref D) ce)
            (fun r s' => match r with
              | .ok _ => ∃ m, m < n ∧ ∃ i H', Inv (X.blk s3 H3 scope ce fp) [] (wipe σ (own.map (·.2))) H' s' ∧ tn i s'.heap ∧ (∀ b ∈ fp, H' b = none) ∧ W i m H'
              | .error _ => False) s11 := by
          refine dcompLoop2_in (fun k s' => ∃ j H', Inv (X.blk s3 H3 scope ce fp) ([] ++ pinsAt fp s7.heap) (wipe σ8 vs1) H' s' ∧ tn1 j s'.heap ∧ (∀ b ∈ fp1, H' b = none) ∧ W1 j k H') ?_ m1 ⟨0, H11, I11.weak (wipe_length _ _) (fun j v e => (wipe_some e).1), st11, fun b hb => (f11 b hb).1, w1⟩
          rintro k s12 ⟨j, H12, I12, st12, n12, w12⟩
          rcases turn1 j k H12 w12 with ⟨stop1, nx1⟩ | ⟨go1, Nx1, hNx1, step1⟩
          · refine thnF (T1.done (X.blk s3 H3 scope ce fp) rfl rfl rfl hc j _ s12 (wipe σ8 vs1) H12 (fun _ _ => False) I12 (stat1 n12) st12 stop1) fun r s13 ⟨hr, I13⟩ => ?_
            subst hr
            exact fin I13 (hl8.trans (wipe_length σ8 vs1).symm) hk9 nx1
          · refine thnF (T1.item (X.blk s3 H3 scope ce fp) rfl rfl rfl hc j _ s12 (wipe σ8 vs1) H12 (fun _ _ => False) I12 (stat1 n12) st12 go1) fun r s13 ⟨u1, hr, h13⟩ => ?_
            subst hr
            refine thnF h13 fun _ s14 ⟨x1, H14, I14, r14, y14, st14, n14⟩ => ?_
            have I14' := I14.pinned (stat1 n14) (T1.obj _ _ st14)
            refine thnF (pg1.run _ s14 (wipe σ8 vs1) H14 x1 u1 _ I14' r14 (step1 x1 H14 y14)) fun _ s15 ⟨σ15, H15, I15, hw15, q15⟩ => ?_
            refine thnF (pt1.run _ s15 σ15 H15 _ I15 q15) fun b1 s16 ⟨H16, I16, q16⟩ => ?_
            have fin1 : ∀ {s' : Shared} {H' : Hp}, Inv (X.blk s3 H3 scope ce fp) (([] ++ pinsAt fp s7.heap) ++ pinsAt fp1 s14.heap) σ15 H' s' → Nx1 H' → ∃ m, m < k ∧ ∃ j H', Inv (X.blk s3 H3 scope ce fp) ([] ++ pinsAt fp s7.heap) (wipe σ8 vs1) H' s' ∧ tn1 j s'.heap ∧ (∀ b ∈ fp1, H' b = none) ∧ W1 j m H' := fun {s' H'} I' nx => by
              obtain ⟨m', hm, w'⟩ := hNx1 H' nx
              have pin' : ∀ b ∈ fp1, ∀ o, s14.heap.get? b = some o → s'.heap.get? b = some o ∧ H' b = none := fun b hb o e =>
                let z := I'.pin (b, o) (List.mem_append_right _ (List.mem_append_right _ (mem_pinsAt hb e)))
                ⟨z.1, z.2.1⟩
              refine ⟨m', hm, j + 1, H', I'.unpinned.weak (by rw [← hw15, wipe_length]) (fun j v e => by rw [← hw15] at e; exact (wipe_some e).1), T1.keep _ _ _ st14 fun b hb o e => (pin' b hb o e).1, fun b hb => ?_, w'⟩
              obtain ⟨o, e, _⟩ := T1.obj _ _ st14 b hb
              exact (pin' b hb o e).2
            cases b1 with
            | false =>
              simp only [Bool.false_eq_true, if_false] at q16 ⊢
              exact fin1 I16 q16
            | true =>
              simp only [if_true] at q16 ⊢
              refine thnF (pk.run _ s16 σ15 H16 _ I16 q16) fun z s17 ⟨yk, H17, I17, r17, q17⟩ => ?_
              refine thnF (pe.run _ s17 σ15 H17 _ I17 q17) fun z2 s18 ⟨yv, H18, I18, r18, kvs, k2, b2, ek, hb2, hD18, hz18, nx⟩ => ?_
              subst ek
              exact t_dictSet (X := X.blk s3 H3 scope ce fp) I18 hD18 hb2 hz18 hu r17 r18 fun s19 I19 => fin1 I19 nx
        exact dcompStart1_ok loop1 (T1.self X.A 0 _ _ _ st11 loop1)
  exact codeAny_compStart_dict loop (T.self X.A 0 _ _ _ st4 loop)
theorem pe_dc2 {kx vx tg iter tg1 iter1 : Expr} {ifs ifs1 : List Expr} {scope : Scope} {own : List (Str × Nat)} {vs1 : List Nat} {pos : Pos} {wi wi1 : TI} {g g1 : TG} {tt tt1 : TT} {tk tv : TE} (hc : X.calm = true) (hu : X.A.units + 1 < cLine) (hN : X.N.Nodup) (hi : PI X tg iter wi) (ok : BlkOk X.N X.env.scope scope own) (hv : ∀ i ∈ vs1, i ∈ own.map (·.2))
    (hg : ∀ (s : Shared) (H : Hp) (C : Addr) (cl : List (Str × Addr)) (fp : List Addr), PG (X.blk s H scope (compEnvC scope cl C X.env) fp) tg g) (ht : ∀ (s : Shared) (H : Hp) (C : Addr) (cl : List (Str × Addr)) (fp : List Addr), PTs (X.blk s H scope (compEnvC scope cl C X.env) fp) ifs tt)
    (hi1 : ∀ (s : Shared) (H : Hp) (C : Addr) (cl : List (Str × Addr)) (fp : List Addr), PI (X.blk s H scope (compEnvC scope cl C X.env) fp) tg1 iter1 wi1)
    (hg1 : ∀ (s : Shared) (H : Hp) (C : Addr) (cl : List (Str × Addr)) (fp : List Addr), PG (X.blk s H scope (compEnvC scope cl C X.env) fp) tg1 g1) (ht1 : ∀ (s : Shared) (H : Hp) (C : Addr) (cl : List (Str × Addr)) (fp : List Addr), PTs (X.blk s H scope (compEnvC scope cl C X.env) fp) ifs1 tt1)
    (hk : ∀ (s : Shared) (H : Hp) (C : Addr) (cl : List (Str × Addr)) (fp : List Addr), PE (X.blk s H scope (compEnvC scope cl C X.env) fp) kx tk)
    (he : ∀ (s : Shared) (H : Hp) (C : Addr) (cl : List (Str × Addr)) (fp : List Addr), PE (X.blk s H scope (compEnvC scope cl C X.env) fp) vx tv) (hs : ∀ x, foldedSetIterable iter X.env x = pure x := by intro _; rfl) (hs1 : ∀ env x, foldedSetIterable iter1 env x = pure x := by intro _ _; rfl) :
    PE X (.DictComp kx vx [⟨tg, iter, ifs, 0⟩, ⟨tg1, iter1, ifs1, 0⟩] scope pos) (tDc2 wi g tt wi1 g1 tt1 tk tv (own.map (·.2)) vs1) := by
  refine ⟨fun pins s σ H Q I h => ?_⟩
  rw [arm_eval_DictComp]
  refine dc2_core hc hu hN I hi ok hv hg ht hk he hs hi1 hg1 ht1 hs1 h fun D C s' m H' I' q hn f => ⟨m, hn, fun h'' sb => ?_⟩
  obtain ⟨f0, f1, f2, f3, f4, f5⟩ := f
  exact ⟨.ref D, H', I'.turned (t' := s'.toks) (fun b o hb e => (sb.2 b hb).trans e) f0 f1 f3 f4 f5, rfl, q⟩
end
end L2
namespace L2
open PySem PySem.Spec PyProof.Rows
/-! ### d.update(e) -/
def mergeT (kvs ms : List (List Key × V)) : List (List Key × V) := ms.foldl (fun acc p => putK acc p.1 p.2) kvs
theorem length_mergeT : ∀ (ms kvs : List (List Key × V)), (mergeT kvs ms).length ≤ kvs.length + ms.length
  | [], kvs => Nat.le_refl _
  | p :: ms, kvs => by
    have h1 := length_mergeT ms (putK kvs p.1 p.2)
    have h2 := length_putK kvs p.1 p.2
    show (mergeT (putK kvs p.1 p.2) ms).length ≤ _
    rw [List.length_cons]
    omega
theorem KT.merge {H : Hp} : ∀ {ms : List (List Key × V)} {ys : List (List Key × Addr × Value)} {kvs : List (List Key × V)} {xs : List (List Key × Addr × Value)}, KT H kvs xs → KT H ms ys → KT H (mergeT kvs ms) (storedAllH xs ys)
  | [], [], kvs, xs, r, .nil => r
  | p :: ms, q :: ys, kvs, xs, r, .cons ⟨e, hb, rv⟩ t => by
    have r2 : KT H (putK kvs p.1 p.2) (storedH xs q.1 q.2.1 q.2.2) := by
      rw [← e]
      exact KT.put r p.1 hb rv
    show KT H (mergeT (putK kvs p.1 p.2) ms) (storedAllH (storedH xs q.1 q.2.1 q.2.2) ys)
    exact KT.merge (kvs := putK kvs p.1 p.2) (xs := storedH xs q.1 q.2.1 q.2.2) r2 t
/-- small pairs of numbers hash apart -/
def grid : List (List Key) := (List.range 9).flatMap fun (i : Nat) => (List.range 9).map fun (j : Nat) => [Sum.inl (i : Int), Sum.inl (j : Int)]
def gridH (k : List Key) : Int := PySem.reduceHash (Builtin.Tuple.tupleHashOf (k.map fun
  | .inl i => hashInt i
  | .inr _ => 0))
theorem gridH_nodup : (grid.map gridH).Nodup := by decide +kernel
theorem gridH_eq (P : Program) (w : World) : ∀ k ∈ grid, (tupleKind (mixKind P w)).hash k = gridH k := by
  intro k hk
  obtain ⟨i, _, hk⟩ := List.mem_flatMap.mp hk
  obtain ⟨j, _, rfl⟩ := List.mem_map.mp hk
  rfl
theorem nodup_map_inj {α β : Type} {f : α → β} : ∀ {l : List α}, (l.map f).Nodup → ∀ a ∈ l, ∀ b ∈ l, f a = f b → a = b
  | x :: l, h, a, ha, b, hb, e => by
    obtain ⟨h1, h2⟩ := List.nodup_cons.mp (show (f x :: l.map f).Nodup from h)
    rcases List.mem_cons.mp ha with e1 | e1
    · rcases List.mem_cons.mp hb with e2 | e2
      · rw [e1, e2]
      · exact absurd (List.mem_map.mpr ⟨b, e2, by rw [← e, e1]⟩) h1
    · rcases List.mem_cons.mp hb with e2 | e2
      · exact absurd (List.mem_map.mpr ⟨a, e1, by rw [e, e2]⟩) h1
      · exact nodup_map_inj h2 a e1 b e2 e
theorem nodup_map_of {α β : Type} {f : α → β} : ∀ {l : List α}, l.Nodup → (∀ a ∈ l, ∀ b ∈ l, f a = f b → a = b) → (l.map f).Nodup
  | [], _, _ => List.nodup_nil
  | x :: l, h, k => by
    obtain ⟨h1, h2⟩ := List.nodup_cons.mp h
    refine List.nodup_cons.mpr ⟨fun hm => ?_, nodup_map_of h2 fun a ha b hb => k a (List.mem_cons_of_mem _ ha) b (List.mem_cons_of_mem _ hb)⟩
    obtain ⟨b, hb, e⟩ := List.mem_map.mp hm
    rw [k b (List.mem_cons_of_mem _ hb) x (List.mem_cons_self ..) e] at hb
    exact h1 hb
section
variable {X : Cx}
def rUpdT : V → List V → Hp → VK → Prop := fun x vs H Q => ∃ (a b : Addr) (kvs ms : List (List Key × V)), x = .ref a ∧ vs = [.ref b] ∧ H a = some (.dT kvs) ∧ H b = some (.dT ms) ∧ a ≠ b ∧ (∀ p ∈ ms, p.1 ∈ grid) ∧ kvs.length + ms.length ≤ sizeLine ∧
  Q .non (upd H a (.dT (mergeT kvs ms)))
theorem KT.keys {H : Hp} : ∀ {ms : List (List Key × V)} {ys : List (List Key × Addr × Value)}, KT H ms ys → ys.map (·.1) = ms.map (·.1)
  | [], [], .nil => rfl
  | p :: ms, q :: ys, .cons ⟨e, _, _⟩ t => by
    rw [List.map_cons, List.map_cons, KT.keys t, e]
theorem KT.tups {H : Hp} {pins : List (Addr × Obj)} {σ : St} {s : Shared} (I : Inv X pins σ H s) : ∀ {ms : List (List Key × V)} {ys : List (List Key × Addr × Value)}, KT H ms ys → ∀ x ∈ ys, s.TypeIs (.ref x.2.1) "tuple"
  | _, [], _, x, hx => by simp at hx
  | p :: ms, q :: ys, .cons ⟨_, hb, _⟩ t, x, hx => by
    rcases List.mem_cons.mp hx with e | e
    · subst e
      obtain ⟨_, its, r, o, h1, h2, n, h3⟩ := (show ObjOk X.prog X.w H s.heap x.2.1 (.tup (p.1.map kV)) from I.hok _ _ hb)
      exact ⟨o, h1, h2⟩
    · exact KT.tups I t x e
theorem mt_updT (hu : X.A.units + 1 < cLine) : MtR X "dict.update" rUpdT := by
  intro pins s σ H x xs v us Q I rx rxs h
  obtain ⟨a, b, kvs, ms, rfl, rfl, ha, hb, hne, hg, hz, q⟩ := h
  cases (show v = Value.ref a from rx)
  obtain ⟨u, rfl, ru⟩ := vals1 rxs
  cases (show u = Value.ref b from ru)
  obtain ⟨z, hd, ks, rel, dd⟩ := dt_of I.hok ha
  obtain ⟨z2, hd2, ls, rel2, dd2⟩ := dt_of I.hok hb
  have l1 := Paired.length rel
  have l2 := Paired.length rel2
  have hk := KT.keys rel2
  refine call_update_dictH (knd := tupleKind (mixKind X.prog X.w)) hu hne hd2 dd dd2 (.inr ⟨KT.tups I rel2, ?_⟩) (by rw [← l1, ← l2]; exact hz) fun h' dd' _ hs => ?_
  · obtain ⟨_, _, _, _, _, _, _, _, hn⟩ := dd2
    have e : (ls.map fun x => (tupleKind (mixKind X.prog X.w)).hash x.1) = (ls.map (·.1)).map (tupleKind (mixKind X.prog X.w)).hash := by rw [List.map_map]; rfl
    rw [e]
    refine nodup_map_of hn fun c hc d hd e => ?_
    rw [hk] at hc hd
    obtain ⟨p, hp, rfl⟩ := List.mem_map.mp hc
    obtain ⟨p', hp', rfl⟩ := List.mem_map.mp hd
    rw [gridH_eq _ _ _ (hg p hp), gridH_eq _ _ _ (hg p' hp')] at e
    exact nodup_map_inj gridH_nodup _ (hg p hp) _ (hg p' hp') e
  · obtain ⟨qo, es, ep, hq, h2, h3, h4, _, h5⟩ := dd'
    have hl : (mergeT kvs ms).length ≤ sizeLine := Nat.le_trans (length_mergeT ms kvs) hz
    have I2 : Inv X pins σ (upd H a (.dT (mergeT kvs ms))) { s with heap := h', toks := s.toks } := d_write I (by rw [ha]; exact True.intro) hs ⟨qo, hq⟩ ⟨hl, hd, _, (KT.merge rel rel2).keeps fun c ys ec => by
      rw [upd_ne (ne_of ec ha (fun z => nomatch z))]
      exact ec, qo, es, ep, hq, h2, h3, h4, h5⟩
    exact ⟨.non, _, I2, rfl, q⟩
end
end L2
/-! ## LTy3 -/
set_option Elab.async false
set_option linter.all false
set_option maxRecDepth 100000
set_option maxHeartbeats 4000000
/-! Loops with growing knowledge, own classes, nested comprehensions. -/
namespace LT
open PySem PySem.Spec PyProof.Rows L2
theorem Grow.keep {F H F1 H1 F2 H2 : Hp} (g : Grow F H F1 H1) (g2 : Grow F1 H1 F2 H2) : Grow F H F1 H2 := ⟨g.ff, g2.fh0, g.hh.trans g2.hh, g.nw⟩
theorem pi_or {X : Cx} {tg l : Expr} {w1 w2 : TI} (h1 : PI X tg l w1) (h2 : PI X tg l w2) : PI X tg l (fun σ H R => w1 σ H R ∨ w2 σ H R) :=
  ⟨fun pins s σ H R I h => h.elim (h1.run pins s σ H R I) (h2.run pins s σ H R I)⟩
section
variable {σ : St} {F : Hp} {K : PySem.W.Frag} {D : Ends} {te : TE} {H : Hp}
/-- a loop; J i: what holds at turn i, told from what is known by then -/
theorem st_loop {α : Type} [Rep α] {wi : TI} {g : TG} {tb : TS} {xs : List α} (J : Nat → Hp → St → Hp → Prop) (hi : EIt wi σ F xs) (hF : Ex F H) (h0 : ∀ F1 H1, Grow F H F1 H1 → J 0 F1 σ H1)
    (hs : ∀ (N : St → Hp → Prop) i x Fi σ' H' v F2 H2, xs[i]? = some x → Ex F Fi → J i Fi σ' H' → Grow Fi H' F2 H2 → Is F2 v x → (∀ F3 σ3 H3, Ex Fi F3 → Ex F3 H3 → J (i + 1) F3 σ3 H3 → N σ3 H3) →
      g v σ' H2 fun σ2 H3 => tb { D with nx := N, ct := N, bk := D.nx } σ2 H3)
    (hd : ∀ Fi σ' H', Ex F Fi → Ex Fi H' → J xs.length Fi σ' H' → D.nx σ' H') : tFor wi g tb D σ H :=
  st_for (fun F1 i σ' H' => ∃ Fi, Ex F1 Fi ∧ Ex Fi H' ∧ J i Fi σ' H') hi hF (fun F1 H1 g1 => ⟨F1, Ex.refl _, g1.fh, h0 F1 H1 g1⟩)
    (fun F1 i σ' H' ⟨Fi, e1, e2, _⟩ => e1.trans e2)
    (fun F1 i x σ' H' v F2 H2 e hx ⟨Fi, e1, e2, j⟩ g2 iv =>
      let ⟨g3, y⟩ := g2.widen e1 e2
      hs _ i x Fi σ' H' v _ H2 hx (e.trans e1) j g3 (Rep.mono y iv) fun F3 σ3 H3 e3 e4 j3 => ⟨F3, e1.trans e3, e4, j3⟩)
    (fun F1 σ' H' e ⟨Fi, e1, e2, j⟩ => hd Fi σ' H' (e.trans e1) e2 j)
/-- a list or a tuple -/
structure Sq (α : Type) where
  l : List α
instance {α : Type} [Rep α] : Rep (Sq α) := ⟨fun F v x => ∃ a vs, v = .ref a ∧ (F a = some (.lst vs) ∨ F a = some (.tup vs)) ∧ All2 (Rep.is F) vs x.l,
  fun e ⟨a, vs, h1, h2, h3⟩ => ⟨a, vs, h1, h2.imp (e _ _) (e _ _), h3.mono fun _ _ h => Rep.mono e h⟩⟩
theorem sq_list {α : Type} [Rep α] {G : Hp} {v : V} {xs : List α} (h : Is G v xs) : Is G v (Sq.mk xs) := let ⟨a, vs, h1, h2, h3⟩ := h; ⟨a, vs, h1, .inl h2, h3⟩
theorem sq_tup {α : Type} [Rep α] {G : Hp} {v : V} {xs : Tup α} (h : Is G v xs) : Is G v (Sq.mk xs.l) := let ⟨a, vs, h1, h2, h3⟩ := h; ⟨a, vs, h1, .inr h2, h3⟩
theorem sq_or {α : Type} [Rep α] {G : Hp} {v : V} {xs : Sq α} (h : Is G v xs) : Is G v xs.l ∨ Is G v (Tup.mk xs.l) := let ⟨a, vs, h1, h2, h3⟩ := h; h2.imp (fun z => ⟨a, vs, h1, z, h3⟩) (fun z => ⟨a, vs, h1, z, h3⟩)
theorem ei_sq {α : Type} [Rep α] {i : Nat} {v : V} {xs : Sq α} (h : σ[i]? = some (some v)) (r : Is F v xs) : EIt (fun σ H R => iList K (tVar i) σ H R ∨ iTup K (tVar i) σ H R) σ F xs.l := fun H e R k => by
  rcases sq_or r with r | r
  · exact .inl (ei_list (et_var h r) H e R k)
  · exact .inr (ei_tup (et_var h r) H e R k)
theorem et_lenS {α : Type} [Rep α] {ta : TE} {xs : Sq α} (h : ET ta σ F xs) : ET (tCB (fun xs H Q => ∃ p ys, xs = [.ref p] ∧ (SqL K H p ys ∨ SqT K H p ys) ∧ Q (.int ys.length) H) (tCons ta tNil)) σ F xs.l.length := fun H e Q k =>
  h H e _ fun v F1 H1 g1 ⟨a, vs, hv, ha, hs⟩ => ⟨a, vs, by rw [hv], ha.imp (fun z => SqL.of (g1.fh _ _ z)) (fun z => SqT.of (g1.fh _ _ z)), k _ F1 H1 g1 (congrArg V.int (by rw [hs.len]))⟩
theorem et_ixS {α : Type} [Rep α] {K : PySem.W.Frag} {ta tb : TE} {xs : Sq α} {i : Nat} {x : α} (ha : ET ta σ F xs) (hb : ET tb σ F i) (h : xs.l[i]? = some x) : ET (tOp (rIx K) ta tb) σ F x :=
  et_op ha hb fun F1 H1 v w Q _ e1 ⟨a, vs, hv, ha, hs⟩ hw k => by
    obtain ⟨u, hu, iu⟩ := hs.get h
    rcases ha with ha | ha
    · exact .inl ⟨a, vs, _, u, hv, hw, SqL.of (e1 _ _ ha), atI_of hu, k u F1 H1 (.refl e1) iu⟩
    · exact .inr (.inl ⟨a, vs, _, u, hv, hw, SqT.of (e1 _ _ ha), atI_of hu, k u F1 H1 (.refl e1) iu⟩)
theorem et_tupS {α : Type} [Rep α] {ta : TE} {xs : Sq α} (h : ET ta σ F xs) : ET (tCB (fun xs H Q => ∃ p ys, xs = [.ref p] ∧ ((SqL K H p ys ∧ ∀ l, H l = none → Q (.ref l) (upd H l (.tup ys))) ∨ (SqT K H p ys ∧ Q (.ref p) H))) (tCons ta tNil)) σ F (Tup.mk xs.l) := fun H e Q k =>
  h H e _ fun v F1 H1 g1 ⟨a, vs, hv, ha, hs⟩ => ⟨a, vs, by rw [hv], by
    rcases ha with ha | ha
    · exact .inl ⟨SqL.of (g1.fh _ _ ha), fun l hl => k _ _ _ (g1.trans (.new g1.fh hl)) ⟨l, vs, rfl, upd_same, hs.mono fun _ _ z => Rep.mono (ex_upd (ex_none g1.fh hl)) z⟩⟩
    · exact .inr ⟨SqT.of (g1.fh _ _ ha), k _ F1 H1 g1 ⟨a, vs, rfl, ha, hs⟩⟩⟩
theorem et_listS {α : Type} [Rep α] {ta : TE} {xs : Sq α} (h : ET ta σ F xs) : ET (tCB (fun xs H Q => ∃ p ys, xs = [.ref p] ∧ (SqL K H p ys ∨ SqT K H p ys) ∧ ∀ l, H l = none → Q (.ref l) (upd H l (.lst ys))) (tCons ta tNil)) σ F xs.l := fun H e Q k =>
  h H e _ fun v F1 H1 g1 ⟨a, vs, hv, ha, hs⟩ => ⟨a, vs, by rw [hv], ha.imp (fun z => SqL.of (g1.fh _ _ z)) (fun z => SqT.of (g1.fh _ _ z)), fun l hl => k _ _ _ (g1.trans (.new g1.fh hl)) ⟨l, vs, rfl, upd_same, hs.mono fun _ _ z => Rep.mono (ex_upd (ex_none g1.fh hl)) z⟩⟩
/-! isinstance -/
theorem isi_int {i : Int} {n : String} {b : Bool} (h : ET te σ F i) (k : PySem.W.kitOne K (.type "int") (.type n) = some b) : ET (tCB (rIsi K) (tCons te (tCons (tC (.ty n)) tNil))) σ F b := fun H e Q q =>
  h H e _ fun v F1 H1 g1 i1 => ⟨v, .ty n, .type "int", .type n, b, rfl, .ty n, by rw [show v = .int i from i1]; exact .base (.int i), k, q _ F1 H1 g1 rfl⟩
theorem isi_lst {α : Type} [Rep α] {x : List α} {n : String} {b : Bool} (h : ET te σ F x) (k : PySem.W.kitOne K (.type "list") (.type n) = some b) : ET (tCB (rIsi K) (tCons te (tCons (tC (.ty n)) tNil))) σ F b := fun H e Q q =>
  h H e _ fun v F1 H1 g1 ⟨a, vs, hv, ha, hs⟩ => ⟨v, .ty n, .type "list", .type n, b, rfl, .ty n, by rw [hv]; exact .base (.lst (g1.fh _ _ ha)), k, q _ F1 H1 g1 rfl⟩
theorem isi_pair {α β : Type} [Rep α] [Rep β] {x : α × β} {n : String} {b : Bool} (h : ET te σ F x) (k : PySem.W.kitOne K (.type "tuple") (.type n) = some b) : ET (tCB (rIsi K) (tCons te (tCons (tC (.ty n)) tNil))) σ F b := fun H e Q q =>
  h H e _ fun v F1 H1 g1 ⟨a, u, w, hv, ha, hs⟩ => ⟨v, .ty n, .type "tuple", .type n, b, rfl, .ty n, by rw [hv]; exact .base (.tup (g1.fh _ _ ha)), k, q _ F1 H1 g1 rfl⟩
theorem isi_str {o : Od} {n : String} {b : Bool} (h : ET te σ F o) (k : PySem.W.kitOne K (.type "str") (.type n) = some b) : ET (tCB (rIsi K) (tCons te (tCons (tC (.ty n)) tNil))) σ F b := fun H e Q q =>
  h H e _ fun v F1 H1 g1 i1 => ⟨v, .ty n, .type "str", .type n, b, rfl, .ty n, by rw [show v = .str o.str from i1]; exact .base (.str _), k, q _ F1 H1 g1 rfl⟩
theorem isiT_sq {α : Type} [Rep α] {x : Sq α} (h : ET te σ F x) : ET (tCB (rIsiT K) (tCons te (tCons (tTup (tCons (tC (.ty "list")) (tCons (tC (.ty "tuple")) tNil))) tNil))) σ F true := fun H e Q q =>
  h H e _ fun v F1 H1 g1 ⟨a, vs, hv, ha, hs⟩ => ⟨by decide, fun p hp => by
    have g2 := g1.trans (.new (o := .tup [.ty "list", .ty "tuple"]) g1.fh hp)
    have gt : PySem.W.kitOne K (.type "tuple") (.type "list") = some false := kit_ty (by decide +kernel)
    have tt : PySem.W.kitOne K (.type "tuple") (.type "tuple") = some true := kit_ty (by decide +kernel)
    have ll : PySem.W.kitOne K (.type "list") (.type "list") = some true := kit_ty (by decide +kernel)
    have hne : ∀ o, F1 a = some o → a ≠ p := fun o z => ne_of_none z (ex_none g1.fh hp)
    rcases ha with ha | ha
    · refine ⟨v, p, _, .type "list", [.type "list", .type "tuple"], true, rfl, upd_same, .cons (.ty _) (.cons (.ty _) .nil), ?_, kitAny_cons ll (by simp) (fun _ => rfl), q _ _ _ g2 rfl⟩
      rw [hv]
      exact .base (.lst (by rw [upd_ne (hne _ ha)]; exact g1.fh _ _ ha))
    · refine ⟨v, p, _, .type "tuple", [.type "list", .type "tuple"], true, rfl, upd_same, .cons (.ty _) (.cons (.ty _) .nil), ?_, kitAny_cons gt (fun _ => kitAny_cons tt (by simp) fun _ => rfl) (by simp), q _ _ _ g2 rfl⟩
      rw [hv]
      exact .base (.tup (by rw [upd_ne (hne _ ha)]; exact g1.fh _ _ ha))⟩
/-! displays with a star -/
theorem eas_star {α : Type} [Rep α] {ta : TE} {tr : TA} {ys xs : List α} (h : ET ta σ F ys) (t : EAs tr σ F xs) : EAs (StX.tStar K ta tr) σ F (ys ++ xs) := fun H e Q k =>
  h H e _ fun v F1 H1 g1 ⟨a, vs, hv, ha, hs⟩ => ⟨a, vs, hv, .inr (SqL.of (g1.fh _ _ ha)), (t.mono g1.ff) H1 g1.fh _ fun ws F2 H2 g2 i2 => k _ F2 H2 (g1.trans g2) ((hs.mono fun _ _ z => Rep.mono g2.ff z).append i2)⟩
/-! ### own classes -/
structure Bk (C : Addr) where
  first : Int
  ch : List (Int × Int)
def Bk.ps {C : Addr} (b : Bk C) : List Int := b.first :: b.ch.map (·.2)
def Bk.ms {C : Addr} (b : Bk C) : List Int := b.ch.map (·.1)
instance {C : Addr} : Rep (Bk C) := ⟨fun F v b => ∃ a dx u w, v = .ref a ∧ F a = some (.ins C dx [("its_changes", u), ("its_prices", w)]) ∧ Rep.is F u (Tup.mk b.ch) ∧ Rep.is F w (Tup.mk b.ps),
  fun e ⟨a, dx, u, w, h1, h2, h3, h4⟩ => ⟨a, dx, u, w, h1, e _ _ h2, Rep.mono e h3, Rep.mono e h4⟩⟩
structure Ln (C D : Addr) where
  book : Bk C
  board : Int × Int
  sent : List Int
instance {C D : Addr} : Rep (Ln C D) := ⟨fun F v b => ∃ a dx u w z, v = .ref a ∧ F a = some (.ins D dx [("its_book", u), ("its_board", w), ("its_sent", z)]) ∧ Rep.is F u b.book ∧ Rep.is F w b.board ∧ Rep.is F z (Tup.mk b.sent),
  fun e ⟨a, dx, u, w, z, h1, h2, h3, h4, h5⟩ => ⟨a, dx, u, w, z, h1, e _ _ h2, Rep.mono e h3, Rep.mono e h4, Rep.mono e h5⟩⟩
class InsR (α : Type) [Rep α] (C : outParam Addr) where
  fn : List Str
  ins : ∀ {F : Hp} {v : V} {x : α}, Is F v x → ∃ a dx fs, v = .ref a ∧ F a = some (.ins C dx fs) ∧ fs.map (·.1) = fn
instance {C : Addr} : InsR (Bk C) C := ⟨["its_changes", "its_prices"], fun ⟨a, dx, u, w, h1, h2, _⟩ => ⟨a, dx, _, h1, h2, rfl⟩⟩
instance {C D : Addr} : InsR (Ln C D) D := ⟨["its_book", "its_board", "its_sent"], fun ⟨a, dx, u, w, z, h1, h2, _⟩ => ⟨a, dx, _, h1, h2, rfl⟩⟩
theorem lookup_no {m : Str} : ∀ {fs : List (Str × V)}, (fs.map (·.1)).any (m == ·) = false → fs.lookup m = none
  | [], _ => rfl
  | (f, v) :: r, h => by
    rw [List.map_cons, List.any_cons, Bool.or_eq_false_iff] at h
    rw [List.lookup, show (m == f) = false from h.1]
    exact lookup_no h.2
section
variable {C C2 : Addr} {ta : TE} {t : TA} {E : XK}
theorem et_fldC {b : Bk C} (h : ET ta σ F b) (c : Cls K C) (n : NoAttr K C "its_changes") : ET (tFld K ta "its_changes") σ F (Tup.mk b.ch) := fun H e Q q =>
  h H e _ fun v F1 H1 g1 ⟨a, dx, u, w, hv, ha, h1, h2⟩ => ⟨a, C, dx, _, u, hv, g1.fh _ _ ha, c, n, rfl, q u F1 H1 g1 h1⟩
theorem et_fldP {b : Bk C} (h : ET ta σ F b) (c : Cls K C) (n : NoAttr K C "its_prices") : ET (tFld K ta "its_prices") σ F (Tup.mk b.ps) := fun H e Q q =>
  h H e _ fun v F1 H1 g1 ⟨a, dx, u, w, hv, ha, h1, h2⟩ => ⟨a, C, dx, _, w, hv, g1.fh _ _ ha, c, n, rfl, q w F1 H1 g1 h2⟩
theorem et_fldB {b : Ln C C2} (h : ET ta σ F b) (c : Cls K C2) (n : NoAttr K C2 "its_board") : ET (tFld K ta "its_board") σ F b.board := fun H e Q q =>
  h H e _ fun v F1 H1 g1 ⟨a, dx, u, w, z, hv, ha, h1, h2, h3⟩ => ⟨a, C2, dx, _, w, hv, g1.fh _ _ ha, c, n, rfl, q w F1 H1 g1 h2⟩
theorem et_fldS {b : Ln C C2} (h : ET ta σ F b) (c : Cls K C2) (n : NoAttr K C2 "its_sent") : ET (tFld K ta "its_sent") σ F (Tup.mk b.sent) := fun H e Q q =>
  h H e _ fun v F1 H1 g1 ⟨a, dx, u, w, z, hv, ha, h1, h2, h3⟩ => ⟨a, C2, dx, _, z, hv, g1.fh _ _ ha, c, n, rfl, q z F1 H1 g1 h3⟩
theorem er_meth {α A : Type} [Rep α] [i : InsR α C] [RepA A] {m : Str} {pre : α × A → Prop} {post : α × A → Hp → V → Prop} {x : α} {args : A} (h : ET ta σ F x) (ha : EA t σ F args) (hp : pre (x, args)) (hm : (i.fn).any (m == ·) = false) :
    ER (tMeth C m (spR pre post) [] E ta t) σ F (post (x, args)) := fun H e Q k =>
  h H e _ fun v F1 H1 g1 i1 => by
    obtain ⟨a, dx, fs, hv, hfa, hfs⟩ := i.ins i1
    refine ⟨a, dx, fs, hv, g1.fh _ _ hfa, lookup_no (by rw [hfs]; exact hm), (ha.mono g1.ff) H1 g1.fh _ fun ws F2 H2 g2 i2 => ⟨F2, (x, args), g2.fh, ⟨v, ws, by rw [List.append_nil], Rep.mono g2.ff i1, i2⟩, hp, fun u F3 H3 g3 r => k u F3 H3 ((g1.trans g2).trans g3) r⟩⟩
theorem et_meth {α A γ : Type} [Rep α] [i : InsR α C] [RepA A] [Rep γ] {m : Str} {pre : α × A → Prop} {f : α × A → γ} {x : α} {args : A} (h : ET ta σ F x) (ha : EA t σ F args) (hp : pre (x, args)) (hm : (i.fn).any (m == ·) = false) :
    ET (tMeth C m (spP pre f) [] E ta t) σ F (f (x, args)) := er_meth h ha hp hm
/-- len(o) by its __len__ -/
theorem et_lenM {α : Type} [Rep α] [i : InsR α C] {f : α × Unit → Nat} {x : α} (h : ET ta σ F x) (hz : f (x, ()) ≤ 100000) :
    ET (tCB (fun xs H Q => ∃ a dx fs, xs = [.ref a] ∧ H a = some (.ins C dx fs) ∧ spP (A := α × Unit) (fun _ => True) f [.ref a] H (fun v H2 => ∃ n : Nat, v = .int n ∧ n < 2 ^ 62 ∧ Q (.int n) H2) E0) (tCons ta tNil)) σ F (f (x, ())) := fun H e Q k =>
  h H e _ fun v F1 H1 g1 i1 => by
    obtain ⟨a, dx, fs, hv, hfa, hfs⟩ := i.ins i1
    refine ⟨a, dx, fs, by rw [hv], g1.fh _ _ hfa, F1, (x, ()), g1.fh, ⟨_, [], rfl, by rw [← hv]; exact i1, rfl⟩, trivial, fun u F3 H3 g3 r => ⟨f (x, ()), r, by omega, k _ F3 H3 (g1.trans g3) rfl⟩⟩
/-- the promise of an __init__ -/
def spMk {A : Type} [RepA A] (C : Addr) (pre : A → Prop) (post : A → Hp → List (Str × V) → Prop) : Sp := fun vs H Q _ => ∃ F H0 args a dx ws, vs = .ref a :: ws ∧ Grow F H0 F H ∧ F a = none ∧ H0 a = none ∧ H a = some (.ins C dx []) ∧ RepA.is F ws args ∧ pre args ∧
  ∀ fs F2 H2, Grow F H0 F2 H2 → F2 a = none → H2 a = some (.ins C dx fs) → post args F2 fs → Q .non H2
theorem et_make {A γ : Type} [RepA A] [Rep γ] {pre : A → Prop} {post : A → Hp → List (Str × V) → Prop} {args : A} {r : γ} (ha : EA t σ F args) (hp : pre args)
    (hr : ∀ a dx fs F2, F2 a = none → post args F2 fs → Is (upd F2 a (.ins C dx fs)) (.ref a) r) : ET (tMake C (spMk C pre post) [] E t) σ F r := fun H e Q k =>
  ha H e _ fun vs F1 H1 g1 i1 x dx hx hdx hne => by
    have fx := ex_none g1.fh hx
    have fd := ex_none g1.fh hdx
    refine ⟨F1, H1, args, x, dx, vs, by rw [List.append_nil], ((Grow.refl g1.fh).mut fd hdx).mut fx hx, fx, hx, upd_same, i1, hp, fun fs F2 H2 g2 hF2 hH2 po => ⟨rfl, ?_⟩⟩
    exact k _ _ _ (g1.trans (g2.frz hF2 hx hH2)) (hr x dx fs F2 hF2 po)
theorem spMk_len {A : Type} [RepA A] [RepN A] {pre : A → Prop} {post : A → Hp → List (Str × V) → Prop} {vs : List V} {Q : VK} (h : spMk C pre post vs H Q E) : vs.length = RepN.n A + 1 := by
  obtain ⟨F, H0, args, a, dx, ws, rfl, _, _, _, _, i, _⟩ := h
  rw [List.length_cons, RepN.len i]
theorem st_no {tt : TT} {u w : TS} (h : EB tt σ F false) (hF : Ex F H) (k : ∀ F2 H2, Grow F H F2 H2 → w D σ H2) : tIfS tt u w D σ H := st_if h hF (fun z => by cases z) fun _ => k
theorem st_yes {tt : TT} {u w : TS} (h : EB tt σ F true) (hF : Ex F H) (k : ∀ F2 H2, Grow F H F2 H2 → u D σ H2) : tIfS tt u w D σ H := st_if h hF (fun _ => k) fun z => by cases z
theorem rg_all {G : Hp} (n : Nat) : All2 (Rep.is G) (rgV 0 (n : Int)) (List.range n) := by
  refine ⟨by rw [rgV_length, List.length_range]; omega, fun i a b h1 h2 => ?_⟩
  have hi := (List.getElem?_eq_some_iff.mp h2).1
  rw [List.length_range] at hi
  rw [List.getElem?_range hi] at h2
  unfold rgV at h1
  rw [List.getElem?_map, List.getElem?_range (by omega)] at h1
  cases h2
  cases h1
  exact congrArg V.int (by omega)
theorem list_not_none {α : Type} [Rep α] {G : Hp} {v : V} {xs : List α} (h : Is G v xs) : decide (v = .non) = false := by
  obtain ⟨a, vs, rfl, _⟩ := h
  rfl
theorem ET_and_no {tt : TT} (h : ET te σ F true) (h2 : EB tt σ F false) : EB (tAnd (tB te) tt) σ F false := (eb_and (a := true) (b := false) (eb_B h) fun _ => h2).to rfl
theorem isC_bk {b : Bk C} {te : TE} (h : ET te σ F b) : ET (tCB (fun xs H Q => ∃ a dx fs, xs = [.ref a, .ref C] ∧ H a = some (.ins C dx fs) ∧ Q (.bl true) H) (tCons te (tCons (tC (.ref C)) tNil))) σ F true := fun H e Q q =>
  h H e _ fun v F1 H1 g1 ⟨a, dx, u, w, hv, ha, _⟩ => ⟨a, dx, _, by rw [hv], g1.fh _ _ ha, q _ F1 H1 g1 rfl⟩
/-- xs[n:], xs[:n], xs[-1:] -/
theorem et_slFrom {α : Type} [Rep α] {tn : TE} {xs : List α} {n : Nat} (h : ET te σ F xs) (hn : ET tn σ F n) : ET (tSl (rSlL K) te (tPart tn) tNoPart) σ F (xs.drop n) := fun H e Q k =>
  h H e _ fun v F1 H1 g1 i1 => (hn.mono g1.ff) H1 g1.fh _ fun w F2 H2 g2 i2 => ⟨n, i2, by
    obtain ⟨a, vs, hv, ha, hs⟩ := Rep.mono g2.ff i1
    refine ⟨a, vs, hv, SqL.of (g2.fh _ _ ha), fun p hp => ?_⟩
    have e0 : cutV vs (some (n : Int)) none = vs.drop n := by
      unfold cutV
      rw [HT.sIx_nat, HT.sIx_none]
      by_cases hl : n ≤ vs.length
      · rw [Nat.min_eq_left hl]
        exact List.take_of_length_le (by rw [List.length_drop]; omega)
      · rw [Nat.min_eq_right (by omega), Nat.sub_self, List.take_zero, List.drop_eq_nil_of_le (by omega)]
    rw [e0]
    exact k _ _ _ (g1.trans (g2.trans (.new g2.fh hp))) ⟨p, _, rfl, upd_same, (hs.drop n).mono fun _ _ z => Rep.mono (ex_upd (ex_none g2.fh hp)) z⟩⟩
/-- list(range(n)) -/
theorem et_listRg {n : Nat} (h : ET ta σ F n) (hz : n ≤ 100000) : ET (tLstRg (tRg1 ta)) σ F (List.range n) := fun H e Q k =>
  h H e _ fun v F1 H1 g1 i => ⟨n, i, RgOk.of_le (by omega) (by omega) (by omega) (by omega), fun p hp => k _ _ _ (g1.trans (.new g1.fh hp)) ⟨p, _, rfl, upd_same, rg_all n⟩⟩
/-- self.f = e, in an __init__ -/
theorem st_fld {i : Nat} {a C dx : Addr} {f : Str} {R : Hp → V → Prop} {fs : List (Str × V)} {F0 H0 : Hp} (h : ER te σ F R) (g : Grow F0 H0 F H) (hs : σ[i]? = some (some (.ref a))) (ha : H a = some (.ins C dx fs)) (hF : F a = none) (h0 : H0 a = none) (c : Cls K C) (n : NoAttr K C f) (hl : fs.length < 1000)
    (k : ∀ v F2 H2, Ex F F2 → Grow F0 H0 F2 H2 → F2 a = none → H2 a = some (.ins C dx (putF f v fs)) → R F2 v → D.nx σ H2) : sFld K (tVar i) te f D σ H :=
  h H g.fh _ fun v F1 H1 g1 r => ⟨.ref a, hs, a, C, dx, fs, rfl, g1.hh _ _ ha, c, n, hl, k v F1 _ g1.ff ((g.trans g1).mut (g1.off hF ha) h0) (g1.off hF ha) upd_same r⟩
end
/-! ### a comprehension of two fors, over names -/
theorem flatMap_take_le {α β : Type} {G : α → List β} {xs : List α} {i : Nat} {x : α} (h : xs[i]? = some x) : ((xs.take i).flatMap G).length + (G x).length ≤ (xs.flatMap G).length := by
  have e : xs = xs.take i ++ x :: xs.drop (i + 1) := by
    have := List.take_append_drop i xs
    rw [← List.getElem_cons_drop (by exact (List.getElem?_eq_some_iff.mp h).1), (List.getElem?_eq_some_iff.mp h).2] at this
    exact this.symm
  conv => rhs; rw [e]
  rw [List.flatMap_append, List.flatMap_cons, List.length_append, List.length_append]
  omega
theorem flatMap_succ {α β : Type} {G : α → List β} {xs : List α} {i : Nat} {x : α} (h : xs[i]? = some x) : (xs.take (i + 1)).flatMap G = (xs.take i).flatMap G ++ G x := by
  rw [List.take_add_one, h, List.flatMap_append]
  simp
theorem tYes_if {H : Hp} {A B : Hp → Prop} (h : A H) : tYes σ H (fun b H3 => if b = true then A H3 else B H3) := by
  show ite (true = true) (A H) (B H)
  rw [if_pos rfl]
  exact h
theorem et_lc2N {α β γ : Type} [Rep α] [Rep β] [Rep γ] {wi wi1 : TI} {tt1 : TT} {j l : Nat} {vs vs1 : List Nat} {xs : List α} {ys : α → List β} {p : α → β → Bool} {f : α → β → γ} (hi : EIt wi σ F xs)
    (hw : ∀ v, wipe ((wipe σ vs).set j (some v)) vs = wipe σ vs)
    (hw1 : ∀ v u, wipe ((wipe ((wipe σ vs).set j (some v)) vs1).set l (some u)) vs1 = wipe ((wipe σ vs).set j (some v)) vs1)
    (hi1 : ∀ x, x ∈ xs → ∀ F1 v, Ex F F1 → Is F1 v x → EIt wi1 ((wipe σ vs).set j (some v)) F1 (ys x))
    (ht : ∀ x, x ∈ xs → ∀ y, y ∈ ys x → ∀ F1 v u, Ex F F1 → Is F1 v x → Is F1 u y → EB tt1 ((wipe ((wipe σ vs).set j (some v)) vs1).set l (some u)) F1 (p x y))
    (he : ∀ x, x ∈ xs → ∀ y, y ∈ ys x → ∀ F1 v u, Ex F F1 → Is F1 v x → Is F1 u y → p x y = true → ET te ((wipe ((wipe σ vs).set j (some v)) vs1).set l (some u)) F1 (f x y))
    (hz : (xs.flatMap fun x => ((ys x).filter (p x)).map (f x)).length ≤ 50000) : ET (tLc2 wi (gName j) tYes wi1 (gName l) tt1 te vs vs1) σ F (xs.flatMap fun x => ((ys x).filter (p x)).map (f x)) := fun H e Q k =>
  hi H e _ fun J F1 H1 g1 w D hD => by
    have hD1 : F1 D = none := ex_none g1.fh hD
    refine ⟨fun i m H' => m = xs.length - i ∧ i ≤ xs.length ∧ ∃ Fi acc, Grow F1 H1 Fi H' ∧ Fi D = none ∧ H' D = some (.lst acc) ∧ All2 (Rep.is Fi) acc ((xs.take i).flatMap fun x => ((ys x).filter (p x)).map (f x)),
      ⟨xs.length, rfl, Nat.zero_le _, F1, [], (Grow.refl g1.fh).mut hD1 hD, hD1, upd_same, .nil⟩, ?_⟩
    rintro i m H2 ⟨rfl, hi, Fi, acc, gi, hDi, hHD, ha⟩
    by_cases hlt : i < xs.length
    · have hx : xs[i]? = some xs[i] := List.getElem?_eq_getElem hlt
      have hm : xs[i] ∈ xs := List.getElem_mem hlt
      have wi := w.mono gi.ff
      refine .inr ⟨wi.go i H2 gi.fh hlt, fun H' => i + 1 ≤ xs.length ∧ ∃ Fi acc, Grow F1 H1 Fi H' ∧ Fi D = none ∧ H' D = some (.lst acc) ∧ All2 (Rep.is Fi) acc ((xs.take (i + 1)).flatMap fun x => ((ys x).filter (p x)).map (f x)), fun H' h => ⟨xs.length - (i + 1), by omega, rfl, h.1, h.2⟩, fun v H' hy => ?_⟩
      obtain ⟨F3, g3, iv⟩ := wi.yld i H2 v H' _ gi.fh hx hy
      have hD3 : F3 D = none := g3.off hDi hHD
      have hH3 := g3.hh _ _ hHD
      have eF3 : Ex F F3 := g1.ff.trans (gi.ff.trans g3.ff)
      refine ⟨hw v, tYes_if ?_⟩
      refine hi1 _ hm F3 v eF3 iv H' g3.fh _ fun J1 F4 H4 g4 w1 => ?_
      have hD4 : F4 D = none := g4.off hD3 hH3
      have hH4 := g4.hh _ _ hH3
      have g14 := gi.trans (g3.trans g4)
      refine ⟨fun j k H' => k = (ys xs[i]).length - j ∧ j ≤ (ys xs[i]).length ∧ ∃ Fj acc, Ex F4 Fj ∧ Grow F1 H1 Fj H' ∧ Fj D = none ∧ H' D = some (.lst acc) ∧ All2 (Rep.is Fj) acc (((xs.take i).flatMap fun x => ((ys x).filter (p x)).map (f x)) ++ (((ys xs[i]).take j).filter (p xs[i])).map (f xs[i])),
        ⟨_, rfl, Nat.zero_le _, F4, acc, Ex.refl _, g14, hD4, hH4, by
          rw [List.take_zero, List.filter_nil, List.map_nil, List.append_nil]
          exact ha.mono fun _ _ z => Rep.mono (g3.ff.trans g4.ff) z⟩, ?_⟩
      rintro jj kk H5 ⟨rfl, hj, Fj, acc2, e4, gj, hDj, hHDj, ha2⟩
      by_cases hlt2 : jj < (ys xs[i]).length
      · have hy : (ys xs[i])[jj]? = some (ys xs[i])[jj] := List.getElem?_eq_getElem hlt2
        have hmy : (ys xs[i])[jj] ∈ ys xs[i] := List.getElem_mem hlt2
        have w2 := w1.mono e4
        refine .inr ⟨w2.go jj H5 gj.fh hlt2, fun H' => jj + 1 ≤ (ys xs[i]).length ∧ ∃ Fj acc, Ex F4 Fj ∧ Grow F1 H1 Fj H' ∧ Fj D = none ∧ H' D = some (.lst acc) ∧ All2 (Rep.is Fj) acc (((xs.take i).flatMap fun x => ((ys x).filter (p x)).map (f x)) ++ (((ys xs[i]).take (jj + 1)).filter (p xs[i])).map (f xs[i])), fun H' h => ⟨_, by omega, rfl, h.1, h.2⟩, fun u H6 hyy => ?_⟩
        obtain ⟨F6, g6, iu⟩ := w2.yld jj H5 u H6 _ gj.fh hy hyy
        have hD6 : F6 D = none := g6.off hDj hHDj
        have hH6 := g6.hh _ _ hHDj
        have e6 : Ex F3 F6 := g4.ff.trans (e4.trans g6.ff)
        refine ⟨hw1 v u, ?_⟩
        refine ht _ hm _ hmy F6 v u (eF3.trans e6) (Rep.mono e6 iv) iu H6 g6.fh _ fun F7 H7 g7 => ?_
        have hD7 : F7 D = none := g7.off hD6 hH6
        have hH7 := g7.hh _ _ hH6
        have g17 := gj.trans (g6.trans g7)
        by_cases hp : p xs[i] (ys xs[i])[jj] = true
        · rw [if_pos hp]
          refine ((he _ hm _ hmy F6 v u (eF3.trans e6) (Rep.mono e6 iv) iu hp).mono g7.ff) H7 g7.fh _ fun y F8 H8 g8 iy => ?_
          have hD8 : F8 D = none := g8.off hD7 hH7
          have hl : acc2.length ≤ 50000 := by
            refine Nat.le_trans ?_ hz
            refine Nat.le_trans ?_ (flatMap_take_le hx)
            rw [ha2.len, List.length_append, List.length_map, List.length_map]
            refine Nat.add_le_add_left ?_ _
            exact ((List.take_sublist jj (ys xs[i])).filter (p xs[i])).length_le
          refine ⟨acc2, g8.hh _ _ hH7, sz_lt (by omega), hlt2, F8, _, e4.trans (g6.ff.trans (g7.ff.trans g8.ff)), (g17.trans g8).mut hD8 hD, hD8, upd_same, ?_⟩
          rw [take_fm hy, if_pos hp, ← List.append_assoc]
          exact (ha2.mono fun _ _ z => Rep.mono (g6.ff.trans (g7.ff.trans g8.ff)) z).snoc iy
        · rw [if_neg hp]
          refine ⟨hlt2, F7, acc2, e4.trans (g6.ff.trans g7.ff), g17, hD7, hH7, ?_⟩
          rw [take_fm hy, if_neg hp, List.append_nil]
          exact ha2.mono fun _ _ z => Rep.mono (g6.ff.trans g7.ff) z
      · have e2 : jj = (ys xs[i]).length := by omega
        subst e2
        refine .inl ⟨w1.stop _ H5 (e4.trans gj.fh) rfl, hlt, Fj, acc2, gj, hDj, hHDj, ?_⟩
        rw [flatMap_succ hx]
        rw [List.take_of_length_le (Nat.le_refl _)] at ha2
        exact ha2
    · have e2 : i = xs.length := by omega
      subst e2
      refine .inl ⟨w.stop _ H2 gi.fh0 rfl, ?_⟩
      rw [List.take_of_length_le (Nat.le_refl _)] at ha
      exact k (.ref D) _ H2 (g1.trans (gi.frz hDi hD hHD)) ⟨D, acc, rfl, upd_same, ha.mono fun _ _ z => Rep.mono (ex_upd hDi) z⟩
end
end LT
/-! ## LTy4 -/
set_option Elab.async false
set_option linter.all false
set_option maxRecDepth 100000
set_option maxHeartbeats 4000000
/-! Letters, lists that may change, cells in lists, dicts of cells. -/
namespace LT
open PySem PySem.Spec PyProof.Rows L2
section
variable {σ : St} {F : Hp} {K : PySem.W.Frag} {D : Ends} {te ta tb : TE} {t : TA} {H : Hp}
/-! letters -/
def ltr (b : Bool) : Str := ⟨#[code b]⟩
theorem ltr_inj {a b : Bool} : ltr a = ltr b ↔ a = b := by
  cases a <;> cases b <;> decide
theorem sL : (("L" : Str)) = ltr true := by decide
theorem sT : (("T" : Str)) = ltr false := by decide
theorem is_L {G : Hp} : Is G (.str "L") (Ltr.mk true) := congrArg V.str sL
theorem is_T {G : Hp} : Is G (.str "T") (Ltr.mk false) := congrArg V.str sT
theorem et_L : ET (tC (.str "L")) σ F (Ltr.mk true) := et_c is_L
theorem et_T : ET (tC (.str "T")) σ F (Ltr.mk false) := et_c is_T
theorem et_eqLL {a b : Ltr} (h : ET ta σ F a) (h2 : ET tb σ F b) : ET (tOp rEq ta tb) σ F (decide (a.b = b.b)) := et_eqV h h2 fun F1 v w hv hw => by
  cases (show v = .str (ltr a.b) from hv); cases (show w = .str (ltr b.b) from hw)
  exact ⟨rfl, dec_eq ⟨fun e => ltr_inj.mp (V.str.inj e), fun e => by rw [e]⟩⟩
theorem et_isL {a : Ltr} (h : ET ta σ F a) : ET (tOp rEq ta (tC (.str "L"))) σ F a.b := (et_eqLL h et_L).to (by cases a.b <;> rfl)
theorem et_isT {a : Ltr} (h : ET ta σ F a) : ET (tOp rEq ta (tC (.str "T"))) σ F (!a.b) := (et_eqLL h et_T).to (by cases a.b <;> rfl)
/-! order.count(letter) -/
theorem cnt_codes (c : Bool) : ∀ l : List Bool, cnt (code c) (l.map code) = (l.count c : Int)
  | [] => rfl
  | a :: r => by
    rw [List.map_cons, cnt_cons, cnt_codes c r, List.count_cons]
    cases a <;> cases c <;> simp [code] <;> omega
theorem count_od (o : Od) (c : Bool) : Txt.count o.str (ltr c) = (o.l.count c : Int) := by
  have h := count_is o.str (code c)
  have h2 := cnt_codes c o.l
  unfold ltr
  rw [h, ← h2]
  show cnt (code c) (o.l.map code).toArray.toList = _
  rw [List.toList_toArray]
theorem et_cntL {o : Od} (h : ET te σ F o) (c : Bool) (hx : ∀ G : Hp, Is G (.str x) (Ltr.mk c)) : ET (tM1 (fun x xs H Q => ∃ a b, x = .str a ∧ xs = [.str b] ∧ Q (.int (Txt.count a b)) H) te (tC (.str x))) σ F (o.l.count c) := fun H e Q k =>
  h H e _ fun v F1 H1 g1 i => by
    have hx2 : x = ltr c := V.str.inj (hx F1)
    subst hx2
    refine ⟨⟨o.str, i⟩, o.str, ltr c, i, rfl, ?_⟩
    rw [count_od]
    exact k _ F1 H1 g1 rfl
/-! order[:k] -/
theorem et_slO {tn : TE} {o : Od} {n : Nat} (h : ET te σ F o) (hn : ET tn σ F n) (hz : o.l.length ≤ 100000) : ET (tSl rSlS te tNoPart (tPart tn)) σ F (Od.mk (o.l.take n)) := fun H e Q k =>
  h H e _ fun v F1 H1 g1 i1 => (hn.mono g1.ff) H1 g1.fh _ fun w F2 H2 g2 i2 => ⟨n, i2, o.str, i1, by rw [odlen]; exact sz_le hz, by
    have e0 : cutS o.str none (some (n : Int)) = (Od.mk (o.l.take n)).str := by
      unfold cutS
      rw [HT.sIx_nat, HT.sIx_none, odlen]
      unfold Od.str
      refine congrArg Str.mk ?_
      rw [List.toList_toArray, List.drop_zero, Nat.sub_zero, ← List.map_take]
      congr 1
      congr 1
      by_cases hl : n ≤ o.l.length
      · rw [Nat.min_eq_left hl]
      · rw [Nat.min_eq_right (by omega), List.take_of_length_le (Nat.le_refl _), List.take_of_length_le (by omega)]
    rw [e0]
    exact k _ _ _ (g1.trans g2) rfl⟩
/-! lists that may change -/
/-- [..], to be changed later -/
theorem mk_lst {α : Type} [Rep α] {xs : List α} {Q : VK} (h : EAs t σ F xs) (hz : xs.length ≤ 100000) (hF : Ex F H)
    (k : ∀ p vs F2 H2, Grow F H F2 H2 → F2 p = none → H p = none → H2 p = some (.lst vs) → All2 (Rep.is F2) vs xs → Q (.ref p) H2) : tLst t σ H Q :=
  h H hF _ fun vs F1 H1 g1 i1 => ⟨by rw [i1.len]; exact sz_le hz, fun p hp =>
    k p vs F1 _ (g1.mut (ex_none g1.fh hp) (ex_none g1.hh hp)) (ex_none g1.fh hp) (ex_none g1.hh hp) upd_same i1⟩
/-- xs[-1] of a list that may change -/
theorem at_last {α : Type} [Rep α] {l : Addr} {vs : List V} {xs : List α} {x : α} (ho : ∀ H', Ex H H' → ∀ Q : VK, (∀ H2, Ex H' H2 → Q (.ref l) H2) → ta σ H' Q) (hl : H l = some (.lst vs)) (hs : All2 (Rep.is F) vs xs) (hx : xs.getLast? = some x) :
    ∀ H', Ex F H' → Ex H H' → ∀ Q : VK, (∀ v F2 H2, Grow F H' F2 H2 → Is F2 v x → Q v H2) → tOp (rIx K) ta (tUn (rU fun i => .int (-i)) (tC (.int 1))) σ H' Q := fun H' eF e Q k =>
  ho H' e _ fun H1 e1 => ⟨1, rfl, by
    have hne : xs ≠ [] := fun z => by rw [z] at hx; cases hx
    have hlen : 0 < xs.length := List.length_pos_iff.mpr hne
    have hz : xs[xs.length - 1]? = some x := by rw [← List.getLast?_eq_getElem?]; exact hx
    obtain ⟨u, hu, iu⟩ := hs.get hz
    have hl2 := hs.len
    refine .inl ⟨l, vs, -1, u, rfl, rfl, SqL.of (e1 _ _ (e _ _ hl)), ?_, k u F H1 ⟨Ex.refl _, eF.trans e1, e1, fun _ _ z => .inl z⟩ iu⟩
    unfold atI ixN
    rw [if_neg (by omega), if_pos (by omega)]
    show vs[((-1 : Int) + (vs.length : Int)).toNat]? = some u
    rw [show ((-1 : Int) + (vs.length : Int)).toNat = xs.length - 1 by omega]
    exact hu⟩
/-! a comprehension's list, to be changed later -/
theorem mk_lc {α β : Type} [Rep α] [Rep β] {wi : TI} {g : TG} {tt : TT} {vs : List Nat} {xs : List α} {p : α → Bool} {f : α → β} {Q : VK} (S : α → Hp → St → Prop) (hi : EIt wi σ F xs)
    (hg : ∀ x, x ∈ xs → ∀ F1 H1 v, Ex F F1 → Ex F1 H1 → Is F1 v x → ∀ Q : St → Hp → Prop, (∀ σ2, S x F1 σ2 → Q σ2 H1) → g v (wipe σ vs) H1 Q)
    (hw : ∀ x F1 σ2, S x F1 σ2 → wipe σ2 vs = wipe σ vs)
    (ht : ∀ x, x ∈ xs → ∀ F1 σ2, Ex F F1 → S x F1 σ2 → EB tt σ2 F1 (p x))
    (he : ∀ x, x ∈ xs → ∀ F1 σ2, Ex F F1 → S x F1 σ2 → p x = true → ET te σ2 F1 (f x)) (hz : xs.length ≤ 50000) (e : Ex F H)
    (k : ∀ D acc F2 H2, Grow F H F2 H2 → F2 D = none → H D = none → H2 D = some (.lst acc) → All2 (Rep.is F2) acc ((xs.filter p).map f) → Q (.ref D) H2) : tLc wi g tt te vs σ H Q :=
  hi H e _ fun J F1 H1 g1 w D hD => by
    have hD1 : F1 D = none := ex_none g1.fh hD
    refine ⟨fun i m H' => m = xs.length - i ∧ i ≤ xs.length ∧ ∃ Fi acc, Grow F1 H1 Fi H' ∧ Fi D = none ∧ H' D = some (.lst acc) ∧ All2 (Rep.is Fi) acc (((xs.take i).filter p).map f),
      ⟨xs.length, rfl, Nat.zero_le _, F1, [], (Grow.refl g1.fh).mut hD1 hD, hD1, upd_same, .nil⟩, ?_⟩
    rintro i m H2 ⟨rfl, hi, Fi, acc, gi, hDi, hHD, ha⟩
    by_cases hlt : i < xs.length
    · have hx : xs[i]? = some xs[i] := List.getElem?_eq_getElem hlt
      have hm : xs[i] ∈ xs := List.getElem_mem hlt
      have wi := w.mono gi.ff
      refine .inr ⟨wi.go i H2 gi.fh hlt, fun H' => i + 1 ≤ xs.length ∧ ∃ Fi acc, Grow F1 H1 Fi H' ∧ Fi D = none ∧ H' D = some (.lst acc) ∧ All2 (Rep.is Fi) acc (((xs.take (i + 1)).filter p).map f), fun H' h => ⟨xs.length - (i + 1), by omega, rfl, h.1, h.2⟩, fun v H' hy => ?_⟩
      obtain ⟨F3, g3, iv⟩ := wi.yld i H2 v H' _ gi.fh hx hy
      have hD3 : F3 D = none := g3.off hDi hHD
      have hH3 := g3.hh _ _ hHD
      have eF3 : Ex F F3 := g1.ff.trans (gi.ff.trans g3.ff)
      refine hg _ hm F3 H' v eF3 g3.fh iv _ fun σ2 hS => ⟨hw _ _ _ hS, ?_⟩
      refine (ht _ hm F3 σ2 eF3 hS) H' g3.fh _ fun F4 H4 g4 => ?_
      have hD4 : F4 D = none := g4.off hD3 hH3
      have hH4 := g4.hh _ _ hH3
      have g14 := gi.trans (g3.trans g4)
      by_cases hp : p xs[i] = true
      · rw [if_pos hp]
        refine ((he _ hm F3 σ2 eF3 hS hp).mono g4.ff) H4 g4.fh _ fun y F5 H5 g5 iy => ?_
        have hD5 : F5 D = none := g5.off hD4 hH4
        have hl : acc.length ≤ xs.length := by
          rw [ha.len, List.length_map]
          exact Nat.le_trans (List.length_filter_le _ _) (by rw [List.length_take]; omega)
        refine ⟨acc, g5.hh _ _ hH4, sz_lt (by omega), hlt, F5, _, (g14.trans g5).mut hD5 hD, hD5, upd_same, ?_⟩
        rw [take_fm hx, if_pos hp]
        exact (ha.mono fun _ _ z => Rep.mono (g3.ff.trans (g4.ff.trans g5.ff)) z).snoc iy
      · rw [if_neg hp]
        refine ⟨hlt, F4, acc, g14, hD4, hH4, ?_⟩
        rw [take_fm hx, if_neg hp, List.append_nil]
        exact ha.mono fun _ _ z => Rep.mono (g3.ff.trans g4.ff) z
    · have e2 : i = xs.length := by omega
      subst e2
      refine .inl ⟨w.stop _ H2 gi.fh0 rfl, ?_⟩
      rw [List.take_of_length_le (Nat.le_refl _)] at ha
      exact k D _ _ _ (g1.trans gi) hDi (ex_none g1.hh hD) hHD ha
/-! cells as data -/
def dC (c : Nat × Nat) : PyData := .tuple [.int c.1, .int c.2]
theorem dC_eqv (c d : Nat × Nat) : PyData.eqv (dC c) (dC d) = decide (c = d) := by
  unfold dC
  simp only [PyData.eqv, PyData.eqvAll, Bool.and_true]
  rw [Bool.eq_iff_iff, Bool.and_eq_true, beq_iff_eq, beq_iff_eq, decide_eq_true_eq, Prod.ext_iff]
  omega
theorem dC_lay (c : Nat × Nat) : (dC c).canLay0 = true := rfl
theorem dC_depth (c : Nat × Nat) : (dC c).depth ≤ 1 := by
  unfold dC
  simp [PyData.depth, PyData.depthAll]
theorem dC_shaped (c : Nat × Nat) : SeqAt.shaped (dC c) = true := by
  show ((dC c).canLay0 && decide ((dC c).depth ≤ 64)) = true
  rw [Bool.and_eq_true]
  exact ⟨dC_lay c, decide_eq_true (Nat.le_trans (dC_depth c) (by decide))⟩
theorem dCs_lay : ∀ l : List (Nat × Nat), PyData.canLayAll0 (l.map dC) = true
  | [] => rfl
  | c :: r => by
    rw [List.map_cons, PyData.canLayAll0, dC_lay, dCs_lay r]
    rfl
theorem dCs_depth : ∀ l : List (Nat × Nat), PyData.depthAll (l.map dC) ≤ 1
  | [] => by simp [PyData.depthAll]
  | c :: r => by
    have h := dCs_depth r
    have h2 := dC_depth c
    rw [List.map_cons, PyData.depthAll]
    omega
theorem dCs_shaped (l : List (Nat × Nat)) : SeqAt.shaped (.list (l.map dC)) = true := by
  have h1 := dCs_depth l
  have h2 : PyData.depth (.list (l.map dC)) ≤ 64 := by simp only [PyData.depth]; omega
  show (PyData.canLay0 (.list (l.map dC)) && decide (PyData.depth (.list (l.map dC)) ≤ 64)) = true
  rw [Bool.and_eq_true]
  exact ⟨by simp only [PyData.canLay0]; exact dCs_lay l, decide_eq_true h2⟩
theorem dp_c {G H : Hp} {v : V} {c : Nat × Nat} (e : Ex G H) (i : Is G v c) : Dp K H v (dC c) := by
  obtain ⟨a, u, w, rfl, ha, h1, h2⟩ := i
  rw [show u = .int (c.1 : Int) from h1, show w = .int (c.2 : Int) from h2] at ha
  exact .tup (SqT.of (e _ _ ha)) (.cons (.int _) (.cons (.int _) .nil))
theorem dp_all {G H : Hp} (e : Ex G H) : ∀ {vs : List V} {l : List (Nat × Nat)}, All2 (Rep.is G) vs l → DpAll K H vs (l.map dC)
  | [], [], _ => .nil
  | [], _ :: _, h => absurd h.len (by simp)
  | v :: vs, l, h => by
    obtain ⟨c, l', rfl, h1, h2⟩ := h.cons_inv
    exact .cons (dp_c e h1) (dp_all e h2)
theorem dp_cs {G H : Hp} {v : V} {l : List (Nat × Nat)} (e : Ex G H) (i : Is G v l) : Dp K H v (.list (l.map dC)) := by
  obtain ⟨a, vs, rfl, ha, hs⟩ := i
  exact .lst (SqL.of (e _ _ ha)) (dp_all e hs)
theorem any_dC (c : Nat × Nat) (l : List (Nat × Nat)) : ((l.map dC).any fun z => PyData.eqv z (dC c)) = decide (c ∈ l) := by
  rw [List.any_map, Bool.eq_iff_iff, List.any_eq_true, decide_eq_true_eq]
  constructor
  · rintro ⟨d, hd, h⟩
    have h : PyData.eqv (dC d) (dC c) = true := h
    rw [dC_eqv, decide_eq_true_eq] at h
    exact h ▸ hd
  · exact fun h => ⟨c, h, by show PyData.eqv (dC c) (dC c) = true; rw [dC_eqv]; exact decide_eq_true rfl⟩
theorem et_inC {c : Nat × Nat} {l : List (Nat × Nat)} (h : ET ta σ F c) (h2 : ET tb σ F l) : ET (tOp (rInD K) ta tb) σ F (decide (c ∈ l)) :=
  et_op h h2 fun F1 H1 v w Q _ e1 hv hw k => ⟨dC c, l.map dC, dp_c e1 hv, dp_cs e1 hw, dC_shaped c, dCs_shaped l, by rw [any_dC]; exact k _ F1 H1 (.refl e1) rfl⟩
theorem et_notInC {c : Nat × Nat} {l : List (Nat × Nat)} (h : ET ta σ F c) (h2 : ET tb σ F l) : ET (tOp (rNotInD K) ta tb) σ F (!decide (c ∈ l)) :=
  et_op h h2 fun F1 H1 v w Q _ e1 hv hw k => ⟨dC c, l.map dC, dp_c e1 hv, dp_cs e1 hw, dC_shaped c, dCs_shaped l, by rw [any_dC]; exact k _ F1 H1 (.refl e1) rfl⟩
theorem et_eqC {c d : Nat × Nat} (h : ET ta σ F c) (h2 : ET tb σ F d) : ET (tOp (rEqD K) ta tb) σ F (decide (c = d)) :=
  et_op h h2 fun F1 H1 v w Q _ e1 hv hw k => ⟨dC c, dC d, dp_c e1 hv, dp_c e1 hw, dC_shaped c, dC_shaped d, by rw [dC_eqv]; exact k _ F1 H1 (.refl e1) rfl⟩
/-! dicts of cells -/
def kC (c : Nat × Nat) : List Key := [.inl (c.1 : Int), .inl (c.2 : Int)]
theorem kC_inj {c d : Nat × Nat} : kC c = kC d ↔ c = d := by
  unfold kC
  rw [Prod.ext_iff]
  constructor
  · intro h
    injection h with h1 h2
    injection h2 with h2 _
    injection h1 with h1
    injection h2 with h2
    omega
  · rintro ⟨h1, h2⟩
    rw [h1, h2]
/-- a dict from cells to numbers, read by get(c, 0) -/
structure Wy where
  f : Nat × Nat → Nat
def WyR (kvs : List (List Key × V)) (f : Nat × Nat → Nat) : Prop := ∀ c, (valV kvs (kC c)).getD (.int 0) = .int (f c : Nat)
instance : Rep Wy := ⟨fun F v x => ∃ a kvs, v = .ref a ∧ F a = some (.dT kvs) ∧ WyR kvs x.f, fun e ⟨a, kvs, h1, h2, h3⟩ => ⟨a, kvs, h1, e _ _ h2, h3⟩⟩
/-- a dict from cells, asked only whether a cell is there -/
structure Bd where
  f : Nat × Nat → Bool
def BdR (kvs : List (List Key × V)) (f : Nat × Nat → Bool) : Prop := ∀ c, (valV kvs (kC c)).isSome = f c
instance : Rep Bd := ⟨fun F v x => ∃ a kvs, v = .ref a ∧ F a = some (.dT kvs) ∧ BdR kvs x.f, fun e ⟨a, kvs, h1, h2, h3⟩ => ⟨a, kvs, h1, e _ _ h2, h3⟩⟩
theorem key_c {G H : Hp} {v : V} {c : Nat × Nat} (e : Ex G H) (i : Is G v c) : ∃ b, v = .ref b ∧ H b = some (.tup ((kC c).map kV)) := by
  obtain ⟨a, u, w, rfl, ha, h1, h2⟩ := i
  rw [show u = .int (c.1 : Int) from h1, show w = .int (c.2 : Int) from h2] at ha
  exact ⟨a, rfl, e _ _ ha⟩
theorem et_get0 {w : Wy} {c : Nat × Nat} (h : ET ta σ F w) (h2 : ET tb σ F c) : ET (tDGet2 ta tb (tC (.int 0))) σ F (w.f c) := fun H e Q k =>
  h H e _ fun v F1 H1 g1 ⟨a, kvs, hv, ha, hw⟩ => ⟨a, hv, .inr ⟨kvs, .inl (g1.fh _ _ ha)⟩, (h2.mono g1.ff) H1 g1.fh _ fun y F2 H2 g2 iy => by
    obtain ⟨b, rfl, hb⟩ := key_c g2.fh iy
    refine ⟨_, DGet.t (g2.fh _ _ (g2.ff _ _ ha)) hb, ?_⟩
    rw [hw c]
    exact k _ F2 H2 (g1.trans g2) rfl⟩
/-- the same, of a dict that may change -/
theorem get0_m {l : Addr} {kvs : List (List Key × V)} {f : Nat × Nat → Nat} {c : Nat × Nat} (ho : ∀ H', Ex H H' → ∀ Q : VK, (∀ H2, Ex H' H2 → Q (.ref l) H2) → ta σ H' Q) (hl : H l = some (.dT kvs)) (hf : WyR kvs f) (h2 : ET tb σ F c) :
    ∀ H', Ex F H' → Ex H H' → ∀ Q : VK, (∀ v F2 H2, Grow F H' F2 H2 → Is F2 v (f c) → Q v H2) → tDGet2 ta tb (tC (.int 0)) σ H' Q := fun H' eF e Q k =>
  ho H' e _ fun H1 e1 => ⟨l, rfl, .inr ⟨kvs, .inl (e1 _ _ (e _ _ hl))⟩, h2 H1 (eF.trans e1) _ fun y F2 H2 g2 iy => by
    obtain ⟨b, rfl, hb⟩ := key_c g2.fh iy
    refine ⟨_, DGet.t (g2.hh _ _ (e1 _ _ (e _ _ hl))) hb, ?_⟩
    rw [hf c]
    exact k _ F2 H2 ⟨g2.ff, g2.fh, e1.trans g2.hh, fun a o z => (g2.nw a o z).imp id (ex_none e1)⟩ rfl⟩
theorem et_inB {w : Bd} {c : Nat × Nat} (h2 : ET tb σ F c) (h : ET ta σ F w) : ET (tDIn tb ta) σ F (w.f c) := fun H e Q k =>
  h2 H e _ fun y F1 H1 g1 iy => (h.mono g1.ff) H1 g1.fh _ fun v F2 H2 g2 ⟨a, kvs, hv, ha, hw⟩ => by
    obtain ⟨b, rfl, hb⟩ := key_c g2.fh (Rep.mono g2.ff iy)
    refine ⟨a, _, hv, DGet.t (g2.fh _ _ ha) hb, ?_⟩
    rw [hw c]
    exact k _ F2 H2 (g1.trans g2) rfl
theorem inB_m {l : Addr} {kvs : List (List Key × V)} {f : Nat × Nat → Bool} {c : Nat × Nat} (ho : ∀ H', Ex H H' → ∀ Q : VK, (∀ H2, Ex H' H2 → Q (.ref l) H2) → ta σ H' Q) (hl : H l = some (.dT kvs)) (hf : BdR kvs f) (h2 : ET tb σ F c) :
    ∀ H', Ex F H' → Ex H H' → ∀ Q : VK, (∀ v F2 H2, Grow F H' F2 H2 → Is F2 v (f c) → Q v H2) → tDIn tb ta σ H' Q := fun H' eF e Q k =>
  h2 H' eF _ fun y F1 H1 g1 iy => ho H1 (e.trans g1.hh) _ fun H2 e2 => by
    obtain ⟨b, rfl, hb⟩ := key_c (g1.fh.trans e2) iy
    refine ⟨l, _, rfl, DGet.t (e2 _ _ (g1.hh _ _ (e _ _ hl))) hb, ?_⟩
    rw [hf c]
    exact k _ F1 H2 ⟨g1.ff, g1.fh.trans e2, g1.hh.trans e2, g1.nw⟩ rfl
/-- d[c] = e, of a dict of cells that may change -/
theorem st_put {l : Addr} {kvs : List (List Key × V)} {c : Nat × Nat} {R : Hp → V → Prop} (h : ∀ H', Ex F H' → Ex H H' → ∀ Q : VK, (∀ v F2 H2, Grow F H' F2 H2 → R F2 v → Q v H2) → te σ H' Q)
    (ho : ∀ H', Ex H H' → ∀ Q : VK, (∀ H2, Ex H' H2 → Q (.ref l) H2) → ta σ H' Q) (hc : ET tb σ F c) (hF : Ex F H) (hl : H l = some (.dT kvs)) (hz : kvs.length < 100000) (hR : ∀ {F G : Hp} {v : V}, Ex F G → R F v → R G v)
    (k : ∀ v F2 H2, Grow F H F2 H2 → H2 l = some (.dT kvs) → R F2 v → D.nx σ (upd H2 l (.dT (putK kvs (kC c) v)))) : sDPut ta tb te D σ H :=
  h H hF (Ex.refl _) _ fun v F1 H1 g1 r => ho H1 g1.hh _ fun H2 e2 => (hc.mono g1.ff) H2 (g1.fh.trans e2) _ fun y F3 H3 g3 iy => by
    obtain ⟨b, rfl, hb⟩ := key_c g3.fh iy
    have hl3 := g3.hh _ _ (e2 _ _ (g1.hh _ _ hl))
    exact ⟨l, _, rfl, DPut.t hl3 hb (sz_lt hz), k v F3 H3 ⟨g1.ff.trans g3.ff, g3.fh, g1.hh.trans (e2.trans g3.hh), fun a o z => by
      rcases g3.nw a o z with h | h
      · exact g1.nw a o h
      · exact .inr (ex_none (g1.hh.trans e2) h)⟩ hl3 (hR g3.ff r)⟩
/-! what may change, known for the time of one evaluation -/
def dropA (F : Hp) (l : Addr) : Hp := fun a => if a = l then none else F a
theorem dropA_ne {F : Hp} {l a : Addr} (h : a ≠ l) : dropA F l a = F a := if_neg h
class Leaf (α : Type) [Rep α] where
  off : ∀ {F : Hp} {v : V} {x : α} {l : Addr} {o : HO}, F l = some o → (∀ vs, o ≠ .tup vs) → Is F v x → Is (dropA F l) v x
instance : Leaf Int := ⟨fun _ _ h => h⟩
instance : Leaf Nat := ⟨fun _ _ h => h⟩
instance : Leaf Bool := ⟨fun _ _ h => h⟩
instance : Leaf Unit := ⟨fun _ _ h => h⟩
instance : Leaf Ltr := ⟨fun _ _ h => h⟩
instance : Leaf Od := ⟨fun _ _ h => h⟩
instance {α β : Type} [Rep α] [Rep β] [Leaf α] [Leaf β] : Leaf (α × β) := ⟨fun {F v x l o} h1 h2 ⟨a, u, w, hv, ha, iu, iw⟩ => ⟨a, u, w, hv, by
  rw [dropA_ne (fun z => by rw [z, h1] at ha; exact h2 _ (Option.some.inj ha))]; exact ha, Leaf.off h1 h2 iu, Leaf.off h1 h2 iw⟩⟩
theorem Grow.drop {F H F2 H2 : Hp} {l : Addr} {o : HO} (g : Grow (upd F l o) H F2 H2) (hn : F l = none) : Grow F H (dropA F2 l) H2 ∧ dropA F2 l l = none ∧ F2 l = some o :=
  ⟨⟨fun a u e => by
    have hne : a ≠ l := fun z => by rw [z, hn] at e; cases e
    rw [dropA_ne hne]
    exact g.ff a u (by rw [upd_ne hne]; exact e), fun a u e => by
    by_cases z : a = l
    · unfold dropA at e; rw [if_pos z] at e; cases e
    · rw [dropA_ne z] at e; exact g.fh a u e, g.hh, fun a u e => by
    by_cases z : a = l
    · unfold dropA at e; rw [if_pos z] at e; cases e
    · rw [dropA_ne z] at e
      rcases g.nw a u e with h | h
      · rw [upd_ne z] at h; exact .inl h
      · exact .inr h⟩, if_pos rfl, g.ff l o upd_same⟩
theorem borrow {α : Type} [Rep α] [Leaf α] {l : Addr} {o : HO} {x : α} {Q : VK} (h : ET te σ (upd F l o) x) (hF : Ex F H) (hn : F l = none) (hl : H l = some o) (ho : ∀ vs, o ≠ .tup vs)
    (k : ∀ v F2 H2, Grow F H F2 H2 → F2 l = none → H2 l = some o → Is F2 v x → Q v H2) : te σ H Q :=
  h H (ex_put hF hl) _ fun v F2 H2 g2 i => let ⟨g, h0, h1⟩ := g2.drop hn; k v _ H2 g h0 (g2.fh _ _ h1) (Leaf.off h1 ho i)
theorem borrowB {l : Addr} {o : HO} {b : Bool} {tt : TT} {Q : Bool → Hp → Prop} (h : EB tt σ (upd F l o) b) (hF : Ex F H) (hn : F l = none) (hl : H l = some o)
    (k : ∀ F2 H2, Grow F H F2 H2 → F2 l = none → H2 l = some o → Q b H2) : tt σ H Q :=
  h H (ex_put hF hl) _ fun F2 H2 g2 => let ⟨g, h0, h1⟩ := g2.drop hn; k _ H2 g h0 (g2.fh _ _ h1)
/-- if, its test reads what may change -/
theorem st_ifB {l : Addr} {o : HO} {b : Bool} {tt : TT} {u w : TS} (h : EB tt σ (upd F l o) b) (hF : Ex F H) (hn : F l = none) (hl : H l = some o)
    (k1 : b = true → ∀ F2 H2, Grow F H F2 H2 → F2 l = none → H2 l = some o → u D σ H2) (k2 : b = false → ∀ F2 H2, Grow F H F2 H2 → F2 l = none → H2 l = some o → w D σ H2) : tIfS tt u w D σ H :=
  borrowB h hF hn hl fun F2 H2 g h0 h1 => by
    cases b with
    | true => exact k1 rfl F2 H2 g h0 h1
    | false => exact k2 rfl F2 H2 g h0 h1
/-- l.append(e), e reads l -/
theorem st_appB {α : Type} [Rep α] [Leaf α] {l : Addr} {vs : List V} {x : α} (ho : ∀ H', Ex H H' → ∀ Q : VK, (∀ H2, Ex H' H2 → Q (.ref l) H2) → ta σ H' Q) (h : ET te σ (upd F l (.lst vs)) x) (hF : Ex F H) (hn : F l = none) (hl : H l = some (.lst vs)) (hz : vs.length < 100000)
    (k : ∀ v F2 H2, Grow F H F2 H2 → F2 l = none → H2 l = some (.lst vs) → Is F2 v x → D.nx σ (upd H2 l (.lst (vs ++ [v])))) : tDrop (tBM K "list" rAppend ta (tCons te tNil)) D σ H :=
  ho H (Ex.refl _) _ fun H1 e1 => ⟨.inl ⟨rfl, _, .inl (.inl (e1 _ _ hl))⟩, borrow h (hF.trans e1) hn (e1 _ _ hl) (fun _ z => by cases z) fun v F2 H2 g2 hn2 hl2 i =>
    ⟨l, vs, v, rfl, rfl, hl2, sz_lt hz, k v F2 H2 ⟨g2.ff, g2.fh, e1.trans g2.hh, fun a o e => by
      rcases g2.nw a o e with z | z
      · exact .inl z
      · exact .inr (ex_none e1 z)⟩ hn2 hl2 i⟩⟩
/-- d[c] = e, e reads d -/
theorem st_putB {α : Type} [Rep α] [Leaf α] {l : Addr} {kvs : List (List Key × V)} {c : Nat × Nat} {x : α} (h : ET te σ (upd F l (.dT kvs)) x) (ho : ∀ H', Ex H H' → ∀ Q : VK, (∀ H2, Ex H' H2 → Q (.ref l) H2) → ta σ H' Q) (hc : ET tb σ F c)
    (hF : Ex F H) (hn : F l = none) (hl : H l = some (.dT kvs)) (hz : kvs.length < 100000)
    (k : ∀ v F2 H2, Grow F H F2 H2 → F2 l = none → H2 l = some (.dT kvs) → Is F2 v x → D.nx σ (upd H2 l (.dT (putK kvs (kC c) v)))) : sDPut ta tb te D σ H :=
  borrow h hF hn hl (fun _ z => by cases z) fun v F1 H1 g1 hn1 hl1 r => ho H1 g1.hh _ fun H2 e2 => (hc.mono g1.ff) H2 (g1.fh.trans e2) _ fun y F3 H3 g3 iy => by
    obtain ⟨b, rfl, hb⟩ := key_c g3.fh iy
    have hl2 := e2 _ _ hl1
    have hl3 := g3.hh _ _ hl2
    exact ⟨l, _, rfl, DPut.t hl3 hb (sz_lt hz), k v F3 H3 ⟨g1.ff.trans g3.ff, g3.fh, g1.hh.trans (e2.trans g3.hh), fun a o z => by
      rcases g3.nw a o z with h | h
      · exact g1.nw a o h
      · exact .inr (ex_none (g1.hh.trans e2) h)⟩ (g3.off hn1 hl2) hl3 (Rep.mono g3.ff r)⟩
/-- what may change is told as known -/
theorem is_lent {α : Type} [Rep α] {l : Addr} {vs : List V} {xs : List α} (hn : F l = none) (h : All2 (Rep.is F) vs xs) : Is (upd F l (.lst vs)) (.ref l) xs := ⟨l, vs, rfl, upd_same, h.mono fun _ _ z => Rep.mono (ex_upd hn) z⟩
/-- i += e, ints -/
theorem st_aug {i : Nat} {v : V} {a b : Int} (hs : σ[i]? = some (some v)) (hv : v = .int a) (h : ET te σ F b) (hF : Ex F H) (k : ∀ F2 H2, Grow F H F2 H2 → D.nx (σ.set i (some (.int (a + b)))) H2) : tAug i te (ipI fun i j => i + j) D σ H :=
  ⟨v, hs, h H hF _ fun w F2 H2 g2 iw => ⟨a, b, hv, iw, k F2 H2 g2⟩⟩
theorem wy_put {kvs : List (List Key × V)} {f : Nat × Nat → Nat} (h : WyR kvs f) (c : Nat × Nat) (n : Nat) : WyR (putK kvs (kC c) (.int n)) (fun d => if d = c then n else f d) := fun d => by
  show _ = V.int ((if d = c then n else f d : Nat) : Int)
  rw [valV_put]
  by_cases e : d = c
  · rw [if_pos (kC_inj.mpr e), if_pos e]; rfl
  · rw [if_neg (fun z => e (kC_inj.mp z)), if_neg e]; exact h d
theorem bd_put {kvs : List (List Key × V)} {f : Nat × Nat → Bool} (h : BdR kvs f) (c : Nat × Nat) (v : V) : BdR (putK kvs (kC c) v) (fun d => decide (d = c) || f d) := fun d => by
  show _ = (decide (d = c) || f d)
  rw [valV_put]
  by_cases e : d = c
  · rw [if_pos (kC_inj.mpr e), decide_eq_true e]; rfl
  · rw [if_neg (fun z => e (kC_inj.mp z)), decide_eq_false e]; exact h d
end
end LT
/-! ## LTy5 -/
set_option Elab.async false
set_option linter.all false
set_option maxRecDepth 100000
set_option maxHeartbeats 4000000
/-! A dict comprehension over two ranges; update. -/
namespace LT
open PySem PySem.Spec PyProof.Rows L2
theorem mem_putK {κ : Type} [DecidableEq κ] {kvs : List (κ × V)} {k : κ} {v : V} {p : κ × V} (h : p ∈ putK kvs k v) : p.1 = k ∨ ∃ p' ∈ kvs, p'.1 = p.1 := by
  unfold putK at h
  split at h
  · rw [List.mem_map] at h
    obtain ⟨p', hp, e⟩ := h
    refine .inr ⟨p', hp, ?_⟩
    rw [← e]
    split <;> rfl
  · rcases List.mem_append.mp h with h | h
    · exact .inr ⟨p, h, rfl⟩
    · rw [List.mem_singleton] at h
      rw [h]
      exact .inl rfl
/-- the keys are cells of xs × ys -/
structure Rect (ms : List (List Key × V)) (f : Nat × Nat → Bool) (m : Nat) : Prop where
  bd : BdR ms f
  key : ∀ p ∈ ms, ∃ c, p.1 = kC c ∧ f c = true
  len : ms.length ≤ m
theorem Rect.put {ms : List (List Key × V)} {f : Nat × Nat → Bool} {m : Nat} (h : Rect ms f m) (c : Nat × Nat) (v : V) : Rect (putK ms (kC c) v) (fun d => decide (d = c) || f d) (m + 1) where
  bd := bd_put h.bd c v
  key p hp := by
    rcases mem_putK hp with e | ⟨p', hp', e⟩
    · exact ⟨c, e, by simp⟩
    · obtain ⟨d, hd, hf⟩ := h.key p' hp'
      exact ⟨d, by rw [← e]; exact hd, by rw [hf]; simp⟩
  len := Nat.le_trans (length_putK _ _ _) (by have := h.len; omega)
theorem Rect.congr {ms : List (List Key × V)} {f g : Nat × Nat → Bool} {m m' : Nat} (h : Rect ms f m) (e : ∀ c, f c = g c) (hm : m ≤ m') : Rect ms g m' := by
  have : f = g := funext e
  subst this
  exact ⟨h.bd, h.key, Nat.le_trans h.len hm⟩
theorem Rect.nil : Rect [] (fun _ => false) 0 := ⟨fun _ => rfl, fun p hp => absurd hp (List.not_mem_nil), Nat.le_refl _⟩
section
variable {σ : St} {F : Hp}
theorem et_dc2N {wi wi1 : TI} {j l : Nat} {vs vs1 : List Nat} {tk tv : TE} {xs ys : List Nat} (hi : EIt wi σ F xs)
    (hw : ∀ v, wipe ((wipe σ vs).set j (some v)) vs = wipe σ vs)
    (hw1 : ∀ v u, wipe ((wipe ((wipe σ vs).set j (some v)) vs1).set l (some u)) vs1 = wipe ((wipe σ vs).set j (some v)) vs1)
    (hi1 : ∀ x, x ∈ xs → ∀ F1 v, Ex F F1 → Is F1 v x → EIt wi1 ((wipe σ vs).set j (some v)) F1 ys)
    (hk : ∀ x, x ∈ xs → ∀ y, y ∈ ys → ∀ F1 v u, Ex F F1 → Is F1 v x → Is F1 u y → ET tk ((wipe ((wipe σ vs).set j (some v)) vs1).set l (some u)) F1 (x, y))
    (he : ∀ x, x ∈ xs → ∀ y, y ∈ ys → ∀ F1 v u, Ex F F1 → Is F1 v x → Is F1 u y → ET tv ((wipe ((wipe σ vs).set j (some v)) vs1).set l (some u)) F1 true)
    (hz : xs.length ≤ 100) (hz1 : ys.length ≤ 100) : ER (tDc2 wi (gName j) tYes wi1 (gName l) tYes tk tv vs vs1) σ F (fun F2 v => ∃ a ms, v = .ref a ∧ F2 a = some (.dT ms) ∧ Rect ms (fun c => decide (c.1 ∈ xs) && decide (c.2 ∈ ys)) (xs.length * ys.length)) := fun H e Q k =>
  hi H e _ fun J F1 H1 g1 w D hD => by
    have hD1 : F1 D = none := ex_none g1.fh hD
    refine ⟨fun i m H' => m = xs.length - i ∧ i ≤ xs.length ∧ ∃ Fi ms, Grow F1 H1 Fi H' ∧ Fi D = none ∧ H' D = some (.dT ms) ∧ Rect ms (fun c => decide (c.1 ∈ xs.take i) && decide (c.2 ∈ ys)) (i * ys.length),
      ⟨xs.length, rfl, Nat.zero_le _, F1, [], (Grow.refl g1.fh).mut hD1 hD, hD1, upd_same, Rect.nil.congr (fun c => by simp) (Nat.zero_le _)⟩, ?_⟩
    rintro i m H2 ⟨rfl, hi, Fi, ms, gi, hDi, hHD, ha⟩
    by_cases hlt : i < xs.length
    · have hx : xs[i]? = some xs[i] := List.getElem?_eq_getElem hlt
      have hm : xs[i] ∈ xs := List.getElem_mem hlt
      have wi := w.mono gi.ff
      refine .inr ⟨wi.go i H2 gi.fh hlt, fun H' => i + 1 ≤ xs.length ∧ ∃ Fi ms, Grow F1 H1 Fi H' ∧ Fi D = none ∧ H' D = some (.dT ms) ∧ Rect ms (fun c => decide (c.1 ∈ xs.take (i + 1)) && decide (c.2 ∈ ys)) ((i + 1) * ys.length), fun H' h => ⟨xs.length - (i + 1), by omega, rfl, h.1, h.2⟩, fun v H' hy => ?_⟩
      obtain ⟨F3, g3, iv⟩ := wi.yld i H2 v H' _ gi.fh hx hy
      have hD3 : F3 D = none := g3.off hDi hHD
      have hH3 := g3.hh _ _ hHD
      have eF3 : Ex F F3 := g1.ff.trans (gi.ff.trans g3.ff)
      refine ⟨hw v, tYes_if ?_⟩
      refine hi1 _ hm F3 v eF3 iv H' g3.fh _ fun J1 F4 H4 g4 w1 => ?_
      have hD4 : F4 D = none := g4.off hD3 hH3
      have hH4 := g4.hh _ _ hH3
      have g14 := gi.trans (g3.trans g4)
      refine ⟨fun j k H' => k = ys.length - j ∧ j ≤ ys.length ∧ ∃ Fj ms, Ex F4 Fj ∧ Grow F1 H1 Fj H' ∧ Fj D = none ∧ H' D = some (.dT ms) ∧ Rect ms (fun c => (decide (c.1 ∈ xs.take i) && decide (c.2 ∈ ys)) || (decide (c.1 = xs[i]) && decide (c.2 ∈ ys.take j))) (i * ys.length + j),
        ⟨_, rfl, Nat.zero_le _, F4, ms, Ex.refl _, g14, hD4, hH4, ha.congr (fun c => by simp) (Nat.le_refl _)⟩, ?_⟩
      rintro jj kk H5 ⟨rfl, hj, Fj, ms2, e4, gj, hDj, hHDj, ha2⟩
      by_cases hlt2 : jj < ys.length
      · have hy : ys[jj]? = some ys[jj] := List.getElem?_eq_getElem hlt2
        have hmy : ys[jj] ∈ ys := List.getElem_mem hlt2
        have w2 := w1.mono e4
        refine .inr ⟨w2.go jj H5 gj.fh hlt2, fun H' => jj + 1 ≤ ys.length ∧ ∃ Fj ms, Ex F4 Fj ∧ Grow F1 H1 Fj H' ∧ Fj D = none ∧ H' D = some (.dT ms) ∧ Rect ms (fun c => (decide (c.1 ∈ xs.take i) && decide (c.2 ∈ ys)) || (decide (c.1 = xs[i]) && decide (c.2 ∈ ys.take (jj + 1)))) (i * ys.length + (jj + 1)), fun H' h => ⟨_, by omega, rfl, h.1, h.2⟩, fun u H6 hyy => ?_⟩
        obtain ⟨F6, g6, iu⟩ := w2.yld jj H5 u H6 _ gj.fh hy hyy
        have hD6 : F6 D = none := g6.off hDj hHDj
        have hH6 := g6.hh _ _ hHDj
        have e6 : Ex F3 F6 := g4.ff.trans (e4.trans g6.ff)
        refine ⟨hw1 v u, tYes_if ?_⟩
        refine hk _ hm _ hmy F6 v u (eF3.trans e6) (Rep.mono e6 iv) iu H6 g6.fh _ fun y F7 H7 g7 iy => ?_
        have hD7 : F7 D = none := g7.off hD6 hH6
        have hH7 := g7.hh _ _ hH6
        refine ((he _ hm _ hmy F6 v u (eF3.trans e6) (Rep.mono e6 iv) iu).mono g7.ff) H7 g7.fh _ fun z F8 H8 g8 iz => ?_
        have hD8 : F8 D = none := g8.off hD7 hH7
        have hH8 := g8.hh _ _ hH7
        obtain ⟨b, rfl, hb⟩ := key_c g8.fh (Rep.mono g8.ff iy)
        have hl := ha2.len
        have hmul : i * ys.length ≤ 100 * 100 := Nat.mul_le_mul (by omega) hz1
        refine ⟨ms2, kC (xs[i], ys[jj]), b, rfl, hb, hH8, sz_lt (by omega), hlt2, F8, _, e4.trans (g6.ff.trans (g7.ff.trans g8.ff)), (gj.trans (g6.trans (g7.trans g8))).mut hD8 hD, hD8, upd_same, ?_⟩
        refine (ha2.put (xs[i], ys[jj]) z).congr (fun c => ?_) (by omega)
        rw [List.take_add_one, hy, Bool.eq_iff_iff]
        simp only [Bool.or_eq_true, Bool.and_eq_true, decide_eq_true_eq, Option.toList_some, List.mem_append, List.mem_singleton, Prod.ext_iff]
        constructor
        · rintro (⟨h1, h2⟩ | h | ⟨h1, h2⟩)
          · exact .inr ⟨h1, .inr h2⟩
          · exact .inl h
          · exact .inr ⟨h1, .inl h2⟩
        · rintro (h | ⟨h1, h2 | h2⟩)
          · exact .inr (.inl h)
          · exact .inr (.inr ⟨h1, h2⟩)
          · exact .inl ⟨h1, h2⟩
      · have e2 : jj = ys.length := by omega
        subst e2
        refine .inl ⟨w1.stop _ H5 (e4.trans gj.fh) rfl, hlt, Fj, ms2, gj, hDj, hHDj, ?_⟩
        refine ha2.congr (fun c => ?_) (by rw [Nat.add_mul]; omega)
        rw [List.take_of_length_le (Nat.le_refl _), List.take_add_one, hx, Bool.eq_iff_iff]
        simp only [Bool.or_eq_true, Bool.and_eq_true, decide_eq_true_eq, Option.toList_some, List.mem_append, List.mem_singleton]
        constructor
        · rintro (⟨h1, h2⟩ | ⟨h1, h2⟩)
          · exact ⟨.inl h1, h2⟩
          · exact ⟨.inr h1, h2⟩
        · rintro ⟨h1 | h1, h2⟩
          · exact .inl ⟨h1, h2⟩
          · exact .inr ⟨h1, h2⟩
    · have e2 : i = xs.length := by omega
      subst e2
      refine .inl ⟨w.stop _ H2 gi.fh0 rfl, ?_⟩
      rw [List.take_of_length_le (Nat.le_refl _)] at ha
      exact k (.ref D) _ H2 (g1.trans (gi.frz hDi hD hHD)) ⟨D, ms, rfl, upd_same, ha⟩
theorem bd_merge : ∀ {ms kvs : List (List Key × V)} {f : Nat × Nat → Bool}, BdR kvs f → (∀ p ∈ ms, ∃ c, p.1 = kC c) → BdR (mergeT kvs ms) (fun c => (ms.any fun p => decide (p.1 = kC c)) || f c)
  | [], kvs, f, h, _ => h
  | p :: r, kvs, f, h, hk => by
    obtain ⟨c, hc⟩ := hk p (List.mem_cons_self ..)
    have h2 := bd_merge (ms := r) (bd_put h c p.2) fun q hq => hk q (List.mem_cons_of_mem _ hq)
    intro d
    have h3 := h2 d
    show (valV (mergeT (putK kvs p.1 p.2) r) (kC d)).isSome = _
    rw [hc]
    rw [h3]
    show ((r.any fun p => decide (p.1 = kC d)) || (decide (d = c) || f d)) = ((p :: r).any (fun p => decide (p.1 = kC d)) || f d)
    rw [List.any_cons, hc]
    have : decide (kC c = kC d) = decide (d = c) := dec_eq ⟨fun z => (kC_inj.mp z).symm, fun z => by rw [z]⟩
    rw [this]
    cases decide (d = c) <;> cases (r.any fun p => decide (p.1 = kC d)) <;> cases f d <;> rfl
theorem any_key {ms : List (List Key × V)} {g : Nat × Nat → Bool} {m : Nat} (h : Rect ms g m) (c : Nat × Nat) : (ms.any fun p => decide (p.1 = kC c)) = g c := by
  rw [valV_any]
  exact h.bd c
theorem Rect.merge {kvs ms : List (List Key × V)} {f g : Nat × Nat → Bool} {m : Nat} (hk : BdR kvs f) (h : Rect ms g m) : BdR (mergeT kvs ms) (fun c => g c || f c) := fun c => by
  rw [bd_merge hk (fun p hp => let ⟨d, hd, _⟩ := h.key p hp; ⟨d, hd⟩) c]
  show ((ms.any fun p => decide (p.1 = kC c)) || f c) = (g c || f c)
  rw [any_key h]
theorem kC_grid {c : Nat × Nat} (h1 : c.1 < 9) (h2 : c.2 < 9) : kC c ∈ grid := by
  unfold grid
  rw [List.mem_flatMap]
  exact ⟨c.1, List.mem_range.mpr h1, List.mem_map.mpr ⟨c.2, List.mem_range.mpr h2, rfl⟩⟩
/-- a loop over what is known only from within -/
theorem st_loopE {α : Type} [Rep α] {wi : TI} {g : TG} {tb : TS} {D : Ends} {H : Hp} {P : List α → Prop} (J : List α → Nat → Hp → St → Hp → Prop)
    (hi : ∀ H, Ex F H → ∀ R : It → Hp → Prop, (∀ xs J F2 H2, Grow F H F2 H2 → Walks J F2 xs → P xs → R J H2) → wi σ H R) (hF : Ex F H) (h0 : ∀ xs F1 H1, P xs → Grow F H F1 H1 → J xs 0 F1 σ H1)
    (hs : ∀ (N : St → Hp → Prop) xs i x Fi σ' H' v F2 H2, P xs → xs[i]? = some x → Ex F Fi → J xs i Fi σ' H' → Grow Fi H' F2 H2 → Is F2 v x → (∀ F3 σ3 H3, Ex Fi F3 → Ex F3 H3 → J xs (i + 1) F3 σ3 H3 → N σ3 H3) →
      g v σ' H2 fun σ2 H3 => tb { D with nx := N, ct := N, bk := D.nx } σ2 H3)
    (hd : ∀ xs Fi σ' H', P xs → Ex F Fi → Ex Fi H' → J xs xs.length Fi σ' H' → D.nx σ' H') : tFor wi g tb D σ H :=
  hi H hF _ fun xs Jt F1 H1 g1 w hP => by
    refine ⟨fun i m σ' H' => m = xs.length - i ∧ i ≤ xs.length ∧ ∃ Fi, Ex F1 Fi ∧ Ex Fi H' ∧ J xs i Fi σ' H', ⟨_, rfl, Nat.zero_le _, F1, Ex.refl _, g1.fh, h0 xs F1 H1 hP g1⟩, ?_⟩
    rintro i m σ' H' ⟨rfl, hi, Fi, e1, e2, hj⟩
    by_cases hlt : i < xs.length
    · have hx : xs[i]? = some xs[i] := List.getElem?_eq_getElem hlt
      refine .inr ⟨w.go i H' (e1.trans e2) hlt, fun σ2 H2 => i + 1 ≤ xs.length ∧ ∃ Fi, Ex F1 Fi ∧ Ex Fi H2 ∧ J xs (i + 1) Fi σ2 H2, fun σ2 H2 h => ⟨_, by omega, rfl, h.1, h.2⟩, fun v H2 hy => ?_⟩
      obtain ⟨F2, g2, iv⟩ := w.yld i H' v H2 _ (e1.trans e2) hx hy
      obtain ⟨g3, y⟩ := g2.widen e1 e2
      exact hs _ xs i _ Fi σ' H' v _ H2 hP hx (g1.ff.trans e1) hj g3 (Rep.mono y iv) fun F3 σ3 H3 e3 e4 j3 => ⟨hlt, F3, e1.trans e3, e4, j3⟩
    · have e3 : i = xs.length := by omega
      subst e3
      exact .inl ⟨w.stop _ H' (e1.trans e2) rfl, hd xs Fi σ' H' hP (g1.ff.trans e1) e2 hj⟩
/-- l.append(e), e reads p -/
theorem st_appP {α : Type} [Rep α] [Leaf α] {K : PySem.W.Frag} {ta te : TE} {D : Ends} {H : Hp} {p l : Addr} {o : HO} {vs : List V} {x : α} (ho : ∀ H', Ex H H' → ∀ Q : VK, (∀ H2, Ex H' H2 → Q (.ref l) H2) → ta σ H' Q) (h : ET te σ (upd F p o) x) (hF : Ex F H) (hn : F p = none) (hp : H p = some o) (hto : ∀ vs, o ≠ .tup vs) (hl : H l = some (.lst vs)) (hz : vs.length < 100000)
    (k : ∀ v F2 H2, Grow F H F2 H2 → F2 p = none → H2 p = some o → H2 l = some (.lst vs) → Is F2 v x → D.nx σ (upd H2 l (.lst (vs ++ [v])))) : tDrop (tBM K "list" rAppend ta (tCons te tNil)) D σ H :=
  ho H (Ex.refl _) _ fun H1 e1 => ⟨.inl ⟨rfl, _, .inl (.inl (e1 _ _ hl))⟩, borrow h (hF.trans e1) hn (e1 _ _ hp) hto fun v F2 H2 g2 hn2 hp2 i =>
    ⟨l, vs, v, rfl, rfl, g2.hh _ _ (e1 _ _ hl), sz_lt hz, k v F2 H2 ⟨g2.ff, g2.fh, e1.trans g2.hh, fun a o e => by
      rcases g2.nw a o e with z | z
      · exact .inl z
      · exact .inr (ex_none e1 z)⟩ hn2 hp2 (g2.hh _ _ (e1 _ _ hl)) i⟩⟩
/-- a dict from letters to numbers -/
structure Mt where
  f : Bool → Nat
def MtD (kvs : List (Key × V)) (f : Bool → Nat) : Prop := ∀ b, valV kvs (.inr (ltr b)) = some (.int (f b : Nat))
instance : Rep Mt := ⟨fun F v x => ∃ a kvs, v = .ref a ∧ F a = some (.dK kvs) ∧ MtD kvs x.f, fun e ⟨a, kvs, h1, h2, h3⟩ => ⟨a, kvs, h1, e _ _ h2, h3⟩⟩
theorem et_getM {ta tb : TE} {m : Mt} {b : Ltr} (h : ET ta σ F m) (h2 : ET tb σ F b) : ET (tDGet ta tb) σ F (m.f b.b) := fun H e Q k =>
  h H e _ fun v F1 H1 g1 ⟨a, kvs, hv, ha, hm⟩ => (h2.mono g1.ff) H1 g1.fh _ fun y F2 H2 g2 iy => ⟨a, _, hv, .inl ⟨kvs, .inr (ltr b.b), .inl (g2.fh _ _ (g2.ff _ _ ha)), iy, (hm b.b).symm⟩, k _ F2 H2 (g1.trans g2) rfl⟩
theorem mt_put {kvs : List (Key × V)} {f : Bool → Nat} (h : MtD kvs f) (b : Bool) (n : Nat) : MtD (putK kvs (.inr (ltr b)) (.int n)) (fun c => if c = b then n else f c) := fun c => by
  show _ = some (V.int ((if c = b then n else f c : Nat) : Int))
  rw [valV_put]
  by_cases e : c = b
  · rw [if_pos (by rw [e]), if_pos e]
  · rw [if_neg (fun z => e (ltr_inj.mp (Sum.inr.inj z))), if_neg e]; exact h c
end
end LT
/-! ## LTy6 -/
set_option Elab.async false
set_option linter.all false
set_option maxRecDepth 100000
set_option maxHeartbeats 4000000
/-! The bag that draws change. -/
namespace LT
open PySem PySem.Spec PyProof.Rows L2
def bagL (s0 s1 : Int) (s2 : Nat) (cl : V) : List V := [.int s0, .int s1, .int s2, cl]
def Bag (F H : Hp) (b : Addr) : Prop := ∃ (s0 s1 : Int) (s2 : Nat) (cl : V) (cs : List Int), H b = some (.lst (bagL s0 s1 s2 cl)) ∧ Is F cl cs
structure BS (b : Addr) (F0 H0 F H : Hp) : Prop where
  g : Grow F0 (dropA H0 b) F H
  off : F b = none
  bag : Bag F H b
theorem dropA_same {H : Hp} {b : Addr} : dropA H b b = none := if_pos rfl
theorem dropA_sub {H : Hp} {b : Addr} : Ex (dropA H b) H := fun a o e => by
  by_cases z : a = b
  · rw [z, dropA_same] at e; cases e
  · rw [dropA_ne z] at e; exact e
theorem dropA_none {H : Hp} {a b : Addr} (h : H a = none) : dropA H b a = none := ex_none dropA_sub h
section
variable {b : Addr} {F0 H0 F H F2 H2 : Hp}
theorem BS.start (e : Ex F H) (h : F b = none) (k : Bag F H b) : BS b F H F H := ⟨⟨Ex.refl _, e, dropA_sub, fun _ _ z => .inl z⟩, h, k⟩
theorem Bag.at_ (h : Bag F H b) : ∃ o, H b = some o := let ⟨_, _, _, _, _, h, _⟩ := h; ⟨_, h⟩
theorem BS.step (s : BS b F0 H0 F H) (g : Grow F H F2 H2) : BS b F0 H0 F2 H2 := by
  obtain ⟨s0, s1, s2, cl, cs, h1, h2⟩ := s.bag
  exact ⟨s.g.trans g, g.off s.off h1, s0, s1, s2, cl, cs, g.hh _ _ h1, Rep.mono g.ff h2⟩
theorem BS.call (s : BS b F0 H0 F H) (c : BS b F H F2 H2) : BS b F0 H0 F2 H2 := by
  refine ⟨⟨s.g.ff.trans c.g.ff, c.g.fh, fun a o e => ?_, fun a o e => ?_⟩, c.off, c.bag⟩
  · have hne : a ≠ b := fun z => by rw [z, dropA_same] at e; cases e
    exact c.g.hh a o (by rw [dropA_ne hne]; exact s.g.hh a o e)
  · rcases c.g.nw a o e with h | h
    · exact s.g.nw a o h
    · have hne : a ≠ b := fun z => by rw [z, c.off] at e; cases e
      rw [dropA_ne hne] at h
      exact .inr (ex_none s.g.hh h)
theorem BS.ff (s : BS b F0 H0 F H) : Ex F0 F := s.g.ff
theorem BS.fh (s : BS b F0 H0 F H) : Ex F H := s.g.fh
/-- what else may change stays as it was -/
theorem BS.keep (c : BS b F H F2 H2) {l : Addr} {o : HO} (hn : F l = none) (hl : H l = some o) (hb : l ≠ b) : F2 l = none ∧ H2 l = some o :=
  ⟨c.g.off hn (by rw [dropA_ne hb]; exact hl), c.g.hh l o (by rw [dropA_ne hb]; exact hl)⟩
theorem BS.mut (s : BS b F0 H0 F H) {p : Addr} {o : HO} (hF : F p = none) (h0 : dropA H0 b p = none) (hb : p ≠ b) : BS b F0 H0 F (upd H p o) := by
  obtain ⟨s0, s1, s2, cl, cs, h1, h2⟩ := s.bag
  exact ⟨s.g.mut hF h0, s.off, s0, s1, s2, cl, cs, by rw [upd_ne hb.symm]; exact h1, h2⟩
theorem BS.frz (s : BS b F0 H0 F H) {p : Addr} {o : HO} (hF : F p = none) (h0 : dropA H0 b p = none) (h : H p = some o) (hb : p ≠ b) : BS b F0 H0 (upd F p o) H := by
  obtain ⟨s0, s1, s2, cl, cs, h1, h2⟩ := s.bag
  exact ⟨s.g.frz hF h0 h, by rw [upd_ne hb.symm]; exact s.off, s0, s1, s2, cl, cs, h1, Rep.mono (ex_upd hF) h2⟩
theorem BS.set (s : BS b F0 H0 F H) {s0 s1 : Int} {s2 : Nat} {cl : V} {cs : List Int} (i : Is F cl cs) : BS b F0 H0 F (upd H b (.lst (bagL s0 s1 s2 cl))) :=
  ⟨s.g.mut s.off dropA_same, s.off, s0, s1, s2, cl, cs, upd_same, i⟩
end
/-- what follows is met from several sides -/
theorem join_nx {t : TS} {N : St → Hp → Prop} {rt : VK} {bk ct : St → Hp → Prop} {σ : St} {H : Hp} {P : St → Hp → Prop} (h1 : ∀ σ' H', P σ' H' → N σ' H') (h2 : ∀ N' : St → Hp → Prop, (∀ σ' H', P σ' H' → N' σ' H') → t ⟨N', rt, bk, ct⟩ σ H) : t ⟨N, rt, bk, ct⟩ σ H := h2 N h1
/-- the bag, then args, to a value -/
def spB {A : Type} [RepA A] (pre : A → Prop) (post : A → Hp → V → Prop) : Sp := fun vs H Q _ => ∃ F b args ws, vs = .ref b :: ws ∧ BS b F H F H ∧ RepA.is F ws args ∧ pre args ∧ ∀ v F2 H2, BS b F H F2 H2 → post args F2 v → Q v H2
section
variable {P : Program} {w : World} {K : PySem.W.Frag} {mg : Str → Option Value} {base : Heap}
theorem cal_ofB {A : Type} [RepA A] [RepN A] {pre : A → Prop} {post : A → Hp → V → Prop} {x : Str} {params : Arguments} {body : List Stmt} {scope : Scope} {f : Addr} {fd : FuncData} {N ps : List Str} {k : Nat} (Fd : FunD K x x params body scope [] [] f fd) (hmg : mg x = some (.ref f))
    (hb : Binds K fd ps []) (S : FnScope N ps scope) (hn : RepN.n A + 1 = ps.length)
    (hbody : ∀ (cdv : Value) (Ar : Around) (outer : List Env) (s : Shared) (H : Hp) (vs : List V) (Q : VK) (E : XK), Room k (Ar.deeper (envOfC x scope s.heap.objs.size f cdv)) → ∀ (F : Hp) (b : Addr) (args : A), BS b F H F H → RepA.is F vs args → pre args → (∀ v F2 H2, BS b F H F2 H2 → post args F2 v → Q v H2) →
      ∃ t, PSs (cxOf CX0 P w K mg base N x scope f cdv Ar outer s H E).nox body t ∧ t { nx := fun _ H' => Q .non H', rt := Q } (start N (.ref b :: vs)) H) : Cal P w K mg base (k + 1) x (spB pre post) :=
  ⟨f, fd, ps, Fd.ok S (fun vs H Q E ⟨F, b, a, ws, e, _, h, _⟩ => by rw [e, List.length_cons, RepN.len h]; exact hn) (fun cdv Ar outer s H vs Q E hr ⟨F, b, a, ws, e, B, h, hp, q⟩ => by
    subst e
    obtain ⟨t, h1, h2⟩ := hbody cdv Ar outer s H ws Q E hr F b a B h hp q
    exact ⟨t, h1.nox, h2⟩), hmg, Fd.kp, hb⟩
end
section
variable {σ : St} {b : Addr} {F0 H0 F H : Hp} {K : PySem.W.Frag} {te : TE} {D : Ends}
/-- f(bag, ..) -/
theorem call_b {A : Type} [RepA A] {pre : A → Prop} {post : A → Hp → V → Prop} {E : XK} {i : Nat} {t : TA} {args : A} {Q : VK} (S : BS b F0 H0 F H) (hs : σ[i]? = some (some (.ref b))) (ha : EA t σ F args) (hp : pre args)
    (k : ∀ v F2 H2, BS b F H F2 H2 → post args F2 v → Q v H2) : tCall (spB pre post) [] E (tCons (tVar i) t) σ H Q :=
  ⟨.ref b, hs, ha H S.fh _ fun vs F1 H1 g1 i1 => by
    have S1 := (BS.start S.fh S.off S.bag).step g1
    exact ⟨F1, b, args, vs, by rw [List.append_nil], BS.start S1.fh S1.off S1.bag, i1, hp, fun v F2 H2 c r => k v F2 H2 (S1.call c) r⟩⟩
theorem for_rng_b {tx : TE} {g : TG} {tb : TS} (h : tx σ H fun v H1 => tFor (iRng1 (tCons (tC v) tNil)) g tb D σ H1) : tFor (iRng1 (tCons tx tNil)) g tb D σ H := h
/-- reading what is known at b -/
theorem et_rawix {i k : Nat} {j : Int} {xs : List V} {v : V} {α : Type} [Rep α] {x : α} (hs : σ[i]? = some (some (.ref b))) (hF : F b = some (.lst xs)) (hx : xs[k]? = some v) (hj : j = (k : Int)) (iv : Is F v x) : ET (tOp (rIx K) (tVar i) (tC (.int j))) σ F x := fun H e Q q =>
  ⟨_, hs, .inl ⟨b, xs, (k : Int), v, rfl, by rw [hj], SqL.of (e _ _ hF), atI_of hx, q v F H (.refl e) iv⟩⟩
theorem et_int1 {t : TE} {i : Int} (h : ET t σ F i) : ET (tCB (fun xs H Q => (∃ i, xs = [.int i] ∧ Q (.int i) H) ∨ ∃ k, xs = [.bl k] ∧ Q (.int (if k then 1 else 0)) H) (tCons t tNil)) σ F i := fun H e Q k =>
  h H e _ fun v F1 H1 g1 iv => .inl ⟨i, by rw [show v = .int i from iv], k _ F1 H1 g1 rfl⟩
theorem et_intB {t : TE} {i : Bool} (h : ET t σ F i) : ET (tCB (fun xs H Q => (∃ i, xs = [.int i] ∧ Q (.int i) H) ∨ ∃ k, xs = [.bl k] ∧ Q (.int (if k then 1 else 0)) H) (tCons t tNil)) σ F (if i = true then 1 else 0 : Nat) := fun H e Q k =>
  h H e _ fun v F1 H1 g1 iv => .inr ⟨i, by rw [show v = .bl i from iv], k _ F1 H1 g1 (by cases i <;> rfl)⟩
theorem et_mod {ta tb : TE} {i j : Int} (ha : ET ta σ F i) (hb : ET tb σ F j) (c : 0 < j) : ET (tOp (rI (fun _ j => 0 < j) fun i j => .int (i % j)) ta tb) σ F (i % j) := et_I ha hb c fun _ => rfl
theorem et_div {ta tb : TE} {i j : Int} (ha : ET ta σ F i) (hb : ET tb σ F j) (c : CDivW i j) : ET (tOp (rI CDivW fun i j => .int (i / j)) ta tb) σ F (i / j) := et_I ha hb c fun _ => rfl
theorem et_pow {ta tb : TE} {i j : Int} (ha : ET ta σ F i) (hb : ET tb σ F j) (c : CPow i j) : ET (tOp (rI CPow fun i j => .int (i ^ j.toNat)) ta tb) σ F (i ^ j.toNat) := et_I ha hb c fun _ => rfl
/-- bag[j] = e, e reads the bag -/
theorem st_bag {j : Nat} {jj : Int} {xs : List V} {x : Int} (h : ET te σ (upd F b (.lst xs)) x) (hF : Ex F H) (hn : F b = none) (hb : H b = some (.lst xs)) (hs : σ[0]? = some (some (.ref b))) (hj : j < xs.length) (hjj : jj = (j : Int))
    (k : ∀ F2 H2, Grow F H F2 H2 → F2 b = none → D.nx σ (upd H2 b (.lst (xs.set j (.int x))))) : tAsg te (gSub (tVar 0) (tC (.int jj)) rSetL) D σ H :=
  borrow h hF hn hb (fun _ z => by cases z) fun v F2 H2 g2 hn2 hb2 iv => ⟨.ref b, hs, b, xs, jj, j, rfl, rfl, hb2, by
    rw [hjj]
    unfold ixN
    rw [if_pos (by omega), if_pos (by omega), Int.toNat_natCast], by
    rw [show v = .int x from iv]
    exact k F2 H2 g2 hn2⟩
end
end LT
/-! ## LRulK -/
set_option Elab.async false
set_option linter.all false
set_option maxRecDepth 100000
set_option maxHeartbeats 4000000
/-! rules within a comprehension: the written part by its own name -/
namespace LT
open PySem PySem.Spec PyProof.Rows L2
section
variable {X : Cx} {K : PySem.W.Frag} {pos : Pos}
theorem nox_imp {body : List Stmt} {R : TS → Prop} (h : ∃ t, PSs X.nox body t ∧ R t) : ∃ t, PSs X body t ∧ R t := h.imp fun t h => ⟨h.1.nox, h.2⟩
theorem pg_tupK {es : List Expr} {k : Nat} {t : TGs} {n : Nat} (hK : X.K = K) (hc : X.calm = true) (h : PGs X es t)
    (hn : (assignEach es X.env).length = n := by rfl) (hst : (assignEach es X.env).findIdx? (·.1) = none := by rfl) : PG X (.Tuple es k pos) (gTup K n t) := by
  subst hK
  exact pg_tup hc h hn hst
theorem ix_seqK (hK : X.K = K) : IxR X (rIx K) := by
  subst hK
  exact ix_seq
theorem pe_fldK {e : Expr} {f : Str} {ta : TE} (hK : X.K = K) (he : PE X e ta) (hb : attributeBase e f X.env (eval e X.env) = eval e X.env) : PE X (.Attribute e f pos) (tFld K ta f) := by
  subst hK
  exact pe_fld he hb
theorem pi_listK {tg l : Expr} {tl : TE} (hK : X.K = K) (hl : PE X l tl) : PI X tg l (iList K tl) := by
  subst hK
  exact pi_list hl
theorem op_notInDK (hK : X.K = K) (hu : X.A.units + 65 < cLine) : OpR X (compareOp .NotIn) (rNotInD K) := by
  subst hK
  exact op_notInD hu
theorem pi_zipSK {e e2 : Expr} {ta : TA} {p pos tpos : Pos} {elts : List Expr} {kk : Nat} (hK : X.K = K) (hg : Gl X "zip") (hm : X.mg "zip" = none) (ha : PA X [e, e2] ta)
    (hs : starEach [e, e2] X.env = (false, eval e X.env) :: starEach [e2] X.env := by rfl) (hpl : (backTo pos (starEach [e2] X.env)).any (·.1) = false := by rfl) :
    PI X (.Tuple elts kk tpos) (.Call (.Name "zip" p) [e, e2] [] pos) (iZipS K ta) := by
  subst hK
  exact pi_zipS hg hm ha hs hpl
end
end LT
/-! ## LFacts -/
set_option Elab.async false
set_option linter.all false
set_option maxRecDepth 100000
set_option maxHeartbeats 4000000
/-! What the top has written, by names. -/
namespace LT
open PySem PySem.Spec PyProof.Rows L2
def d_is_integer : He.DefD := ⟨("is_integer", none), "is_integer", "is_integer", defArgs s_is_integer, defBody s_is_integer, defScope s_is_integer, [], []⟩
def d_is_price : He.DefD := ⟨("is_price", none), "is_price", "is_price", defArgs s_is_price, defBody s_is_price, defScope s_is_price, [], []⟩
def d_is_board : He.DefD := ⟨("is_board", none), "is_board", "is_board", defArgs s_is_board, defBody s_is_board, defScope s_is_board, [], []⟩
def d_is_change : He.DefD := ⟨("is_change", none), "is_change", "is_change", defArgs s_is_change, defBody s_is_change, defScope s_is_change, [], []⟩
def d_are_moments : He.DefD := ⟨("are_moments", none), "are_moments", "are_moments", defArgs s_are_moments, defBody s_are_moments, defScope s_are_moments, [], []⟩
def d_lines_by : He.DefD := ⟨("lines_by", none), "lines_by", "lines_by", defArgs s_lines_by, defBody s_lines_by, defScope s_lines_by, [], []⟩
def d_bad_cells : He.DefD := ⟨("bad_cells", none), "bad_cells", "bad_cells", defArgs s_bad_cells, defBody s_bad_cells, defScope s_bad_cells, [], []⟩
def d_label_leaves : He.DefD := ⟨("label_leaves", none), "label_leaves", "label_leaves", defArgs s_label_leaves, defBody s_label_leaves, defScope s_label_leaves, [], []⟩
def d_till_leaves : He.DefD := ⟨("till_leaves", none), "till_leaves", "till_leaves", defArgs s_till_leaves, defBody s_till_leaves, defScope s_till_leaves, [], []⟩
def d_can_meet : He.DefD := ⟨("can_meet", none), "can_meet", "can_meet", defArgs s_can_meet, defBody s_can_meet, defScope s_can_meet, [], []⟩
def d_is_safe : He.DefD := ⟨("is_safe", none), "is_safe", "is_safe", defArgs s_is_safe, defBody s_is_safe, defScope s_is_safe, [], []⟩
def d_harm : He.DefD := ⟨("harm", none), "harm", "harm", defArgs s_harm, defBody s_harm, defScope s_harm, [], []⟩
def d_moments_at : He.DefD := ⟨("moments_at", none), "moments_at", "moments_at", defArgs s_moments_at, defBody s_moments_at, defScope s_moments_at, [], []⟩
def d_moved_on : He.DefD := ⟨("moved_on", none), "moved_on", "moved_on", defArgs s_moved_on, defBody s_moved_on, defScope s_moved_on, [], []⟩
def d_is_order : He.DefD := ⟨("is_order", none), "is_order", "is_order", defArgs s_is_order, defBody s_is_order, defScope s_is_order, [], []⟩
def d_cells_of : He.DefD := ⟨("cells_of", none), "cells_of", "cells_of", defArgs s_cells_of, defBody s_cells_of, defScope s_cells_of, [], []⟩
def d_is_good : He.DefD := ⟨("is_good", none), "is_good", "is_good", defArgs s_is_good, defBody s_is_good, defScope s_is_good, [], []⟩
def d_need_good : He.DefD := ⟨("need_good", none), "need_good", "need_good", defArgs s_need_good, defBody s_need_good, defScope s_need_good, [], []⟩
def d_ways_on : He.DefD := ⟨("ways_on", none), "ways_on", "ways_on", defArgs s_ways_on, defBody s_ways_on, defScope s_ways_on, [], []⟩
def d_order_index : He.DefD := ⟨("order_index", none), "order_index", "order_index", defArgs s_order_index, defBody s_order_index, defScope s_order_index, [], []⟩
def d_label_first : He.DefD := ⟨("label_first", none), "label_first", "label_first", defArgs s_label_first, defBody s_label_first, defScope s_label_first, [], []⟩
def d_place_of : He.DefD := ⟨("place_of", none), "place_of", "place_of", defArgs s_place_of, defBody s_place_of, defScope s_place_of, [], []⟩
def d_follows : He.DefD := ⟨("follows", none), "follows", "follows", defArgs s_follows, defBody s_follows, defScope s_follows, [], []⟩
def d_order_followed : He.DefD := ⟨("order_followed", none), "order_followed", "order_followed", defArgs s_order_followed, defBody s_order_followed, defScope s_order_followed, [], []⟩
def d_forces : He.DefD := ⟨("forces", none), "forces", "forces", defArgs s_forces, defBody s_forces, defScope s_forces, [], []⟩
def d_letter_moments : He.DefD := ⟨("letter_moments", none), "letter_moments", "letter_moments", defArgs s_letter_moments, defBody s_letter_moments, defScope s_letter_moments, [], []⟩
def d_least_moments : He.DefD := ⟨("least_moments", none), "least_moments", "least_moments", defArgs s_least_moments, defBody s_least_moments, defScope s_least_moments, [], []⟩
def d_plan_of : He.DefD := ⟨("plan_of", none), "plan_of", "plan_of", defArgs s_plan_of, defBody s_plan_of, defScope s_plan_of, [], []⟩
def d_least_plan : He.DefD := ⟨("least_plan", none), "least_plan", "least_plan", defArgs s_least_plan, defBody s_least_plan, defScope s_least_plan, [], []⟩
def d_law_bag : He.DefD := ⟨("_law_bag", none), "_law_bag", "_law_bag", defArgs s_law_bag, defBody s_law_bag, defScope s_law_bag, [], []⟩
def d_law_take : He.DefD := ⟨("_law_take", none), "_law_take", "_law_take", defArgs s_law_take, defBody s_law_take, defScope s_law_take, [], []⟩
def d_law_one : He.DefD := ⟨("_law_one", none), "_law_one", "_law_one", defArgs s_law_one, defBody s_law_one, defScope s_law_one, [], []⟩
def d_law_gap_of : He.DefD := ⟨("_law_gap_of", none), "_law_gap_of", "_law_gap_of", defArgs s_law_gap_of, defBody s_law_gap_of, defScope s_law_gap_of, [], []⟩
def d_law_price : He.DefD := ⟨("_law_price", none), "_law_price", "_law_price", defArgs s_law_price, defBody s_law_price, defScope s_law_price, [], []⟩
def d_law_book : He.DefD := ⟨("_law_book", none), "_law_book", "_law_book", defArgs s_law_book, defBody s_law_book, defScope s_law_book, [], []⟩
def d_law_board : He.DefD := ⟨("_law_board", none), "_law_board", "_law_board", defArgs s_law_board, defBody s_law_board, defScope s_law_board, [], []⟩
def d_law_sent : He.DefD := ⟨("_law_sent", none), "_law_sent", "_law_sent", defArgs s_law_sent, defBody s_law_sent, defScope s_law_sent, [], []⟩
def d_law_prices : He.DefD := ⟨("_law_prices", none), "_law_prices", "_law_prices", defArgs s_law_prices, defBody s_law_prices, defScope s_law_prices, [], []⟩
def d_law_moments : He.DefD := ⟨("_law_moments", none), "_law_moments", "_law_moments", defArgs s_law_moments, defBody s_law_moments, defScope s_law_moments, [], []⟩
def d_law_course : He.DefD := ⟨("_law_course", none), "_law_course", "_law_course", defArgs s_law_course, defBody s_law_course, defScope s_law_course, [], []⟩
def d_law_made : He.DefD := ⟨("_law_made", none), "_law_made", "_law_made", defArgs s_law_made, defBody s_law_made, defScope s_law_made, [], []⟩
def d_law_bad : He.DefD := ⟨("_law_bad", none), "_law_bad", "_law_bad", defArgs s_law_bad, defBody s_law_bad, defScope s_law_bad, [], []⟩
def d_law_plan : He.DefD := ⟨("_law_plan", none), "_law_plan", "_law_plan", defArgs s_law_plan, defBody s_law_plan, defScope s_law_plan, [], []⟩
def d_law_cells : He.DefD := ⟨("_law_cells", none), "_law_cells", "_law_cells", defArgs s_law_cells, defBody s_law_cells, defScope s_law_cells, [], []⟩
def d_law_plain : He.DefD := ⟨("_law_plain", none), "_law_plain", "_law_plain", defArgs s_law_plain, defBody s_law_plain, defScope s_law_plain, [], []⟩
def d_law_drawn_order : He.DefD := ⟨("_law_drawn_order", none), "_law_drawn_order", "_law_drawn_order", defArgs s_law_drawn_order, defBody s_law_drawn_order, defScope s_law_drawn_order, [], []⟩
def d_law_leading : He.DefD := ⟨("_law_leading", none), "_law_leading", "_law_leading", defArgs s_law_leading, defBody s_law_leading, defScope s_law_leading, [], []⟩
def d_law_label_first : He.DefD := ⟨("_law_label_first", none), "_law_label_first", "_law_label_first", defArgs s_law_label_first, defBody s_law_label_first, defScope s_law_label_first, [], []⟩
def d_law_least_plan : He.DefD := ⟨("_law_least_plan", none), "_law_least_plan", "_law_least_plan", defArgs s_law_least_plan, defBody s_law_least_plan, defScope s_law_least_plan, [], []⟩
def d_law_near_plan : He.DefD := ⟨("_law_near_plan", none), "_law_near_plan", "_law_near_plan", defArgs s_law_near_plan, defBody s_law_near_plan, defScope s_law_near_plan, [], []⟩
def d_law_order_of : He.DefD := ⟨("_law_order_of", none), "_law_order_of", "_law_order_of", defArgs s_law_order_of, defBody s_law_order_of, defScope s_law_order_of, [], []⟩
def d_law_not_later : He.DefD := ⟨("_law_not_later", none), "_law_not_later", "_law_not_later", defArgs s_law_not_later, defBody s_law_not_later, defScope s_law_not_later, [], []⟩
def d_law : He.DefD := ⟨("law", none), "law", "law", defArgs s_law, defBody s_law, defScope s_law, [], []⟩
def d_Book_init : He.DefD := ⟨("Book", some "__init__"), "__init__", "Book.__init__", defArgs s_Book_init, defBody s_Book_init, defScope s_Book_init, [.adr (He.dflAt ("Book", some "__init__") 0)], []⟩
def d_Book_len : He.DefD := ⟨("Book", some "__len__"), "__len__", "Book.__len__", defArgs s_Book_len, defBody s_Book_len, defScope s_Book_len, [], []⟩
def d_Book_moments : He.DefD := ⟨("Book", some "moments"), "moments", "Book.moments", defArgs s_Book_moments, defBody s_Book_moments, defScope s_Book_moments, [], []⟩
def d_Book_prices : He.DefD := ⟨("Book", some "prices"), "prices", "Book.prices", defArgs s_Book_prices, defBody s_Book_prices, defScope s_Book_prices, [], []⟩
def d_Line_init : He.DefD := ⟨("Line", some "__init__"), "__init__", "Line.__init__", defArgs s_Line_init, defBody s_Line_init, defScope s_Line_init, [.non], []⟩
def d_Line_earliest : He.DefD := ⟨("Line", some "earliest"), "earliest", "Line.earliest", defArgs s_Line_earliest, defBody s_Line_earliest, defScope s_Line_earliest, [], []⟩
def d_Line_latest : He.DefD := ⟨("Line", some "latest"), "latest", "Line.latest", defArgs s_Line_latest, defBody s_Line_latest, defScope s_Line_latest, [], []⟩
def d_Line_is_course : He.DefD := ⟨("Line", some "is_course"), "is_course", "Line.is_course", defArgs s_Line_is_course, defBody s_Line_is_course, defScope s_Line_is_course, [], []⟩
def fn : List He.DefD := [d_is_integer, d_is_price, d_is_board, d_is_change, d_are_moments, d_lines_by, d_bad_cells, d_label_leaves, d_till_leaves, d_can_meet, d_is_safe, d_harm, d_moments_at, d_moved_on, d_is_order, d_cells_of, d_is_good, d_need_good, d_ways_on, d_order_index, d_label_first, d_place_of, d_follows, d_order_followed, d_forces, d_letter_moments, d_least_moments, d_plan_of, d_least_plan, d_law_bag, d_law_take, d_law_one, d_law_gap_of, d_law_price, d_law_book, d_law_board, d_law_sent, d_law_prices, d_law_moments, d_law_course, d_law_made, d_law_bad, d_law_plan, d_law_cells, d_law_plain, d_law_drawn_order, d_law_leading, d_law_label_first, d_law_least_plan, d_law_near_plan, d_law_order_of, d_law_not_later, d_law, d_Book_init, d_Book_len, d_Book_moments, d_Book_prices, d_Line_init, d_Line_earliest, d_Line_latest, d_Line_is_course]
def fa : List He.Fa := [.glo "is_integer", .glo "is_price", .glo "is_board", .glo "is_change", .glo "are_moments", .glo "lines_by", .glo "bad_cells", .glo "label_leaves", .glo "till_leaves", .glo "can_meet", .glo "is_safe", .glo "harm", .glo "moments_at", .glo "moved_on", .glo "is_order", .glo "cells_of", .glo "is_good", .glo "need_good", .glo "ways_on", .glo "order_index", .glo "label_first", .glo "place_of", .glo "follows", .glo "order_followed", .glo "forces", .glo "letter_moments", .glo "least_moments", .glo "plan_of", .glo "least_plan", .glo "_law_bag", .glo "_law_take", .glo "_law_one", .glo "_law_gap_of", .glo "_law_price", .glo "_law_book", .glo "_law_board", .glo "_law_sent", .glo "_law_prices", .glo "_law_moments", .glo "_law_course", .glo "_law_made", .glo "_law_bad", .glo "_law_plan", .glo "_law_cells", .glo "_law_plain", .glo "_law_drawn_order", .glo "_law_leading", .glo "_law_label_first", .glo "_law_least_plan", .glo "_law_near_plan", .glo "_law_order_of", .glo "_law_not_later", .glo "law", .glo "Book", .glo "Line", .free "isinstance", .free "int", .free "bool", .free "tuple", .free "list", .free "len", .free "all", .free "range", .free "max", .free "zip", .free "enumerate", .free "sorted", .free "abs", .free "str", .cls "Book", .mkr "Book", .cls "Line", .mkr "Line", .noat "Book" "its_changes", .noat "Book" "its_prices", .noat "Line" "its_book", .noat "Line" "its_board", .noat "Line" "its_sent", .meth "Book" "moments", .meth "Book" "prices", .meth "Book" "__len__", .meth "Line" "earliest", .meth "Line" "latest", .meth "Line" "is_course"]
def exB (K : PySem.W.Frag) : Bool :=
  He.eqO (PySem.W.findIn K (.ref (He.ga K "Book")) "__class__") (some (some (.builtin "object.__class__"))) && (He.eqO (PySem.W.specialIn K (.builtin "object.__class__") "__get__") (some (some (.builtin "getset_descriptor.__get__"))) &&
    (decide (PySem.W.takesIn K (.builtin "object.__class__") = some true) && (decide (PySem.W.mroIn K (He.ga K "Book") (.type "object") = some true) && decide (PySem.W.kitOne K (.ref (He.ga K "Book")) (.ref (He.ga K "Book")) = some true))))
structure Top (K : PySem.W.Frag) (mg : Str → Option Value) : Prop where
  says : LHk.SaysZ exB fa fn K
  at_ : ∃ h : Heap, K.In h ∧ h.Ns mainGlobals mg
abbrev cBook (K : PySem.W.Frag) : Addr := He.ga K "Book"
abbrev cLine (K : PySem.W.Frag) : Addr := He.ga K "Line"
section
variable {K : PySem.W.Frag} {mg : Str → Option Value}
theorem Top.glo (T : Top K mg) (i : Nat) {x : Str} (h : fa[i]? = some (.glo x)) : mg x = some (.ref (He.ga K x)) := by
  obtain ⟨hh, X, G⟩ := T.at_
  exact He.glo_ok X G (T.says.2.fact i h)
theorem Top.free (T : Top K mg) (i : Nat) {x : Str} (h : fa[i]? = some (.free x)) : mg x = none := by
  obtain ⟨hh, X, G⟩ := T.at_
  exact He.free_ok X G (T.says.2.fact i h)
theorem Top.insB (T : Top K mg) (c : Cls K (cBook K)) : C8.InsC K (cBook K) := by
  obtain ⟨h1, h⟩ := He.ba (show (_ && _) = true from T.says.1)
  obtain ⟨h2, h⟩ := He.ba h
  obtain ⟨h3, h⟩ := He.ba h
  obtain ⟨h4, h5⟩ := He.ba h
  exact ⟨c, He.eqO_ok h1, He.eqO_ok h2, of_decide_eq_true h3, of_decide_eq_true h4, of_decide_eq_true h5⟩
theorem Top.m_isinstance (T : Top K mg) : mg "isinstance" = none := T.free 55 rfl
theorem Top.m_int (T : Top K mg) : mg "int" = none := T.free 56 rfl
theorem Top.m_bool (T : Top K mg) : mg "bool" = none := T.free 57 rfl
theorem Top.m_tuple (T : Top K mg) : mg "tuple" = none := T.free 58 rfl
theorem Top.m_list (T : Top K mg) : mg "list" = none := T.free 59 rfl
theorem Top.m_len (T : Top K mg) : mg "len" = none := T.free 60 rfl
theorem Top.m_all (T : Top K mg) : mg "all" = none := T.free 61 rfl
theorem Top.m_range (T : Top K mg) : mg "range" = none := T.free 62 rfl
theorem Top.m_max (T : Top K mg) : mg "max" = none := T.free 63 rfl
theorem Top.m_zip (T : Top K mg) : mg "zip" = none := T.free 64 rfl
theorem Top.m_enumerate (T : Top K mg) : mg "enumerate" = none := T.free 65 rfl
theorem Top.m_sorted (T : Top K mg) : mg "sorted" = none := T.free 66 rfl
theorem Top.m_abs (T : Top K mg) : mg "abs" = none := T.free 67 rfl
theorem Top.m_str (T : Top K mg) : mg "str" = none := T.free 68 rfl
theorem Top.g_is_integer (T : Top K mg) : mg "is_integer" = some (.ref (He.ga K "is_integer")) := T.glo 0 rfl
theorem Top.g_is_price (T : Top K mg) : mg "is_price" = some (.ref (He.ga K "is_price")) := T.glo 1 rfl
theorem Top.g_is_board (T : Top K mg) : mg "is_board" = some (.ref (He.ga K "is_board")) := T.glo 2 rfl
theorem Top.g_is_change (T : Top K mg) : mg "is_change" = some (.ref (He.ga K "is_change")) := T.glo 3 rfl
theorem Top.g_are_moments (T : Top K mg) : mg "are_moments" = some (.ref (He.ga K "are_moments")) := T.glo 4 rfl
theorem Top.g_lines_by (T : Top K mg) : mg "lines_by" = some (.ref (He.ga K "lines_by")) := T.glo 5 rfl
theorem Top.g_bad_cells (T : Top K mg) : mg "bad_cells" = some (.ref (He.ga K "bad_cells")) := T.glo 6 rfl
theorem Top.g_label_leaves (T : Top K mg) : mg "label_leaves" = some (.ref (He.ga K "label_leaves")) := T.glo 7 rfl
theorem Top.g_till_leaves (T : Top K mg) : mg "till_leaves" = some (.ref (He.ga K "till_leaves")) := T.glo 8 rfl
theorem Top.g_can_meet (T : Top K mg) : mg "can_meet" = some (.ref (He.ga K "can_meet")) := T.glo 9 rfl
theorem Top.g_is_safe (T : Top K mg) : mg "is_safe" = some (.ref (He.ga K "is_safe")) := T.glo 10 rfl
theorem Top.g_harm (T : Top K mg) : mg "harm" = some (.ref (He.ga K "harm")) := T.glo 11 rfl
theorem Top.g_moments_at (T : Top K mg) : mg "moments_at" = some (.ref (He.ga K "moments_at")) := T.glo 12 rfl
theorem Top.g_moved_on (T : Top K mg) : mg "moved_on" = some (.ref (He.ga K "moved_on")) := T.glo 13 rfl
theorem Top.g_is_order (T : Top K mg) : mg "is_order" = some (.ref (He.ga K "is_order")) := T.glo 14 rfl
theorem Top.g_cells_of (T : Top K mg) : mg "cells_of" = some (.ref (He.ga K "cells_of")) := T.glo 15 rfl
theorem Top.g_is_good (T : Top K mg) : mg "is_good" = some (.ref (He.ga K "is_good")) := T.glo 16 rfl
theorem Top.g_need_good (T : Top K mg) : mg "need_good" = some (.ref (He.ga K "need_good")) := T.glo 17 rfl
theorem Top.g_ways_on (T : Top K mg) : mg "ways_on" = some (.ref (He.ga K "ways_on")) := T.glo 18 rfl
theorem Top.g_order_index (T : Top K mg) : mg "order_index" = some (.ref (He.ga K "order_index")) := T.glo 19 rfl
theorem Top.g_label_first (T : Top K mg) : mg "label_first" = some (.ref (He.ga K "label_first")) := T.glo 20 rfl
theorem Top.g_place_of (T : Top K mg) : mg "place_of" = some (.ref (He.ga K "place_of")) := T.glo 21 rfl
theorem Top.g_follows (T : Top K mg) : mg "follows" = some (.ref (He.ga K "follows")) := T.glo 22 rfl
theorem Top.g_order_followed (T : Top K mg) : mg "order_followed" = some (.ref (He.ga K "order_followed")) := T.glo 23 rfl
theorem Top.g_forces (T : Top K mg) : mg "forces" = some (.ref (He.ga K "forces")) := T.glo 24 rfl
theorem Top.g_letter_moments (T : Top K mg) : mg "letter_moments" = some (.ref (He.ga K "letter_moments")) := T.glo 25 rfl
theorem Top.g_least_moments (T : Top K mg) : mg "least_moments" = some (.ref (He.ga K "least_moments")) := T.glo 26 rfl
theorem Top.g_plan_of (T : Top K mg) : mg "plan_of" = some (.ref (He.ga K "plan_of")) := T.glo 27 rfl
theorem Top.g_least_plan (T : Top K mg) : mg "least_plan" = some (.ref (He.ga K "least_plan")) := T.glo 28 rfl
theorem Top.g_law_bag (T : Top K mg) : mg "_law_bag" = some (.ref (He.ga K "_law_bag")) := T.glo 29 rfl
theorem Top.g_law_take (T : Top K mg) : mg "_law_take" = some (.ref (He.ga K "_law_take")) := T.glo 30 rfl
theorem Top.g_law_one (T : Top K mg) : mg "_law_one" = some (.ref (He.ga K "_law_one")) := T.glo 31 rfl
theorem Top.g_law_gap_of (T : Top K mg) : mg "_law_gap_of" = some (.ref (He.ga K "_law_gap_of")) := T.glo 32 rfl
theorem Top.g_law_price (T : Top K mg) : mg "_law_price" = some (.ref (He.ga K "_law_price")) := T.glo 33 rfl
theorem Top.g_law_book (T : Top K mg) : mg "_law_book" = some (.ref (He.ga K "_law_book")) := T.glo 34 rfl
theorem Top.g_law_board (T : Top K mg) : mg "_law_board" = some (.ref (He.ga K "_law_board")) := T.glo 35 rfl
theorem Top.g_law_sent (T : Top K mg) : mg "_law_sent" = some (.ref (He.ga K "_law_sent")) := T.glo 36 rfl
theorem Top.g_law_prices (T : Top K mg) : mg "_law_prices" = some (.ref (He.ga K "_law_prices")) := T.glo 37 rfl
theorem Top.g_law_moments (T : Top K mg) : mg "_law_moments" = some (.ref (He.ga K "_law_moments")) := T.glo 38 rfl
theorem Top.g_law_course (T : Top K mg) : mg "_law_course" = some (.ref (He.ga K "_law_course")) := T.glo 39 rfl
theorem Top.g_law_made (T : Top K mg) : mg "_law_made" = some (.ref (He.ga K "_law_made")) := T.glo 40 rfl
theorem Top.g_law_bad (T : Top K mg) : mg "_law_bad" = some (.ref (He.ga K "_law_bad")) := T.glo 41 rfl
theorem Top.g_law_plan (T : Top K mg) : mg "_law_plan" = some (.ref (He.ga K "_law_plan")) := T.glo 42 rfl
theorem Top.g_law_cells (T : Top K mg) : mg "_law_cells" = some (.ref (He.ga K "_law_cells")) := T.glo 43 rfl
theorem Top.g_law_plain (T : Top K mg) : mg "_law_plain" = some (.ref (He.ga K "_law_plain")) := T.glo 44 rfl
theorem Top.g_law_drawn_order (T : Top K mg) : mg "_law_drawn_order" = some (.ref (He.ga K "_law_drawn_order")) := T.glo 45 rfl
theorem Top.g_law_leading (T : Top K mg) : mg "_law_leading" = some (.ref (He.ga K "_law_leading")) := T.glo 46 rfl
theorem Top.g_law_label_first (T : Top K mg) : mg "_law_label_first" = some (.ref (He.ga K "_law_label_first")) := T.glo 47 rfl
theorem Top.g_law_least_plan (T : Top K mg) : mg "_law_least_plan" = some (.ref (He.ga K "_law_least_plan")) := T.glo 48 rfl
theorem Top.g_law_near_plan (T : Top K mg) : mg "_law_near_plan" = some (.ref (He.ga K "_law_near_plan")) := T.glo 49 rfl
theorem Top.g_law_order_of (T : Top K mg) : mg "_law_order_of" = some (.ref (He.ga K "_law_order_of")) := T.glo 50 rfl
theorem Top.g_law_not_later (T : Top K mg) : mg "_law_not_later" = some (.ref (He.ga K "_law_not_later")) := T.glo 51 rfl
theorem Top.g_law (T : Top K mg) : mg "law" = some (.ref (He.ga K "law")) := T.glo 52 rfl
theorem Top.g_Book (T : Top K mg) : mg "Book" = some (.ref (cBook K)) := T.glo 53 rfl
theorem Top.cls_Book (T : Top K mg) : Cls K (cBook K) := He.cls_ok (T.says.2.fact 69 rfl)
theorem Top.mkr_Book (T : Top K mg) : Mk K (cBook K) (He.ma K (cBook K) "__init__") := He.mkr_ok (T.says.2.fact 70 rfl)
theorem Top.g_Line (T : Top K mg) : mg "Line" = some (.ref (cLine K)) := T.glo 54 rfl
theorem Top.cls_Line (T : Top K mg) : Cls K (cLine K) := He.cls_ok (T.says.2.fact 71 rfl)
theorem Top.mkr_Line (T : Top K mg) : Mk K (cLine K) (He.ma K (cLine K) "__init__") := He.mkr_ok (T.says.2.fact 72 rfl)
theorem Top.no_its_changes (T : Top K mg) : NoAttr K (cBook K) "its_changes" := He.noat_ok (T.says.2.fact 73 rfl)
theorem Top.no_its_prices (T : Top K mg) : NoAttr K (cBook K) "its_prices" := He.noat_ok (T.says.2.fact 74 rfl)
theorem Top.no_its_book (T : Top K mg) : NoAttr K (cLine K) "its_book" := He.noat_ok (T.says.2.fact 75 rfl)
theorem Top.no_its_board (T : Top K mg) : NoAttr K (cLine K) "its_board" := He.noat_ok (T.says.2.fact 76 rfl)
theorem Top.no_its_sent (T : Top K mg) : NoAttr K (cLine K) "its_sent" := He.noat_ok (T.says.2.fact 77 rfl)
theorem Top.f_is_integer (T : Top K mg) : ∃ fd, FunD K "is_integer" "is_integer" (defArgs s_is_integer) (defBody s_is_integer) (defScope s_is_integer) [] [] (He.ga K "is_integer") fd ∧ Binds K fd ["thing"] [] := by
  obtain ⟨fd, F⟩ := T.says.2.def_ 0 (d := d_is_integer) rfl
  exact ⟨fd, F, FunD.bindsN F fun _ _ _ _ _ _ us hl => match us, hl with | [_], _ => rfl⟩
theorem Top.f_is_price (T : Top K mg) : ∃ fd, FunD K "is_price" "is_price" (defArgs s_is_price) (defBody s_is_price) (defScope s_is_price) [] [] (He.ga K "is_price") fd ∧ Binds K fd ["thing"] [] := by
  obtain ⟨fd, F⟩ := T.says.2.def_ 1 (d := d_is_price) rfl
  exact ⟨fd, F, FunD.bindsN F fun _ _ _ _ _ _ us hl => match us, hl with | [_], _ => rfl⟩
theorem Top.f_is_board (T : Top K mg) : ∃ fd, FunD K "is_board" "is_board" (defArgs s_is_board) (defBody s_is_board) (defScope s_is_board) [] [] (He.ga K "is_board") fd ∧ Binds K fd ["thing"] [] := by
  obtain ⟨fd, F⟩ := T.says.2.def_ 2 (d := d_is_board) rfl
  exact ⟨fd, F, FunD.bindsN F fun _ _ _ _ _ _ us hl => match us, hl with | [_], _ => rfl⟩
theorem Top.f_is_change (T : Top K mg) : ∃ fd, FunD K "is_change" "is_change" (defArgs s_is_change) (defBody s_is_change) (defScope s_is_change) [] [] (He.ga K "is_change") fd ∧ Binds K fd ["thing"] [] := by
  obtain ⟨fd, F⟩ := T.says.2.def_ 3 (d := d_is_change) rfl
  exact ⟨fd, F, FunD.bindsN F fun _ _ _ _ _ _ us hl => match us, hl with | [_], _ => rfl⟩
theorem Top.f_are_moments (T : Top K mg) : ∃ fd, FunD K "are_moments" "are_moments" (defArgs s_are_moments) (defBody s_are_moments) (defScope s_are_moments) [] [] (He.ga K "are_moments") fd ∧ Binds K fd ["thing", "many"] [] := by
  obtain ⟨fd, F⟩ := T.says.2.def_ 4 (d := d_are_moments) rfl
  exact ⟨fd, F, FunD.bindsN F fun _ _ _ _ _ _ us hl => match us, hl with | [_, _], _ => rfl⟩
theorem Top.f_lines_by (T : Top K mg) : ∃ fd, FunD K "lines_by" "lines_by" (defArgs s_lines_by) (defBody s_lines_by) (defScope s_lines_by) [] [] (He.ga K "lines_by") fd ∧ Binds K fd ["book", "label", "till", "plan"] [] := by
  obtain ⟨fd, F⟩ := T.says.2.def_ 5 (d := d_lines_by) rfl
  exact ⟨fd, F, FunD.bindsN F fun _ _ _ _ _ _ us hl => match us, hl with | [_, _, _, _], _ => rfl⟩
theorem Top.f_bad_cells (T : Top K mg) : ∃ fd, FunD K "bad_cells" "bad_cells" (defArgs s_bad_cells) (defBody s_bad_cells) (defScope s_bad_cells) [] [] (He.ga K "bad_cells") fd ∧ Binds K fd ["book"] [] := by
  obtain ⟨fd, F⟩ := T.says.2.def_ 6 (d := d_bad_cells) rfl
  exact ⟨fd, F, FunD.bindsN F fun _ _ _ _ _ _ us hl => match us, hl with | [_], _ => rfl⟩
theorem Top.f_label_leaves (T : Top K mg) : ∃ fd, FunD K "label_leaves" "label_leaves" (defArgs s_label_leaves) (defBody s_label_leaves) (defScope s_label_leaves) [] [] (He.ga K "label_leaves") fd ∧ Binds K fd ["label", "till", "gap", "plan", "cell"] [] := by
  obtain ⟨fd, F⟩ := T.says.2.def_ 7 (d := d_label_leaves) rfl
  exact ⟨fd, F, FunD.bindsN F fun _ _ _ _ _ _ us hl => match us, hl with | [_, _, _, _, _], _ => rfl⟩
theorem Top.f_till_leaves (T : Top K mg) : ∃ fd, FunD K "till_leaves" "till_leaves" (defArgs s_till_leaves) (defBody s_till_leaves) (defScope s_till_leaves) [] [] (He.ga K "till_leaves") fd ∧ Binds K fd ["label", "till", "gap", "plan", "cell"] [] := by
  obtain ⟨fd, F⟩ := T.says.2.def_ 8 (d := d_till_leaves) rfl
  exact ⟨fd, F, FunD.bindsN F fun _ _ _ _ _ _ us hl => match us, hl with | [_, _, _, _, _], _ => rfl⟩
theorem Top.f_can_meet (T : Top K mg) : ∃ fd, FunD K "can_meet" "can_meet" (defArgs s_can_meet) (defBody s_can_meet) (defScope s_can_meet) [] [] (He.ga K "can_meet") fd ∧ Binds K fd ["label", "till", "gap", "plan", "cell"] [] := by
  obtain ⟨fd, F⟩ := T.says.2.def_ 9 (d := d_can_meet) rfl
  exact ⟨fd, F, FunD.bindsN F fun _ _ _ _ _ _ us hl => match us, hl with | [_, _, _, _, _], _ => rfl⟩
theorem Top.f_is_safe (T : Top K mg) : ∃ fd, FunD K "is_safe" "is_safe" (defArgs s_is_safe) (defBody s_is_safe) (defScope s_is_safe) [] [] (He.ga K "is_safe") fd ∧ Binds K fd ["book", "label", "till", "gap", "plan"] [] := by
  obtain ⟨fd, F⟩ := T.says.2.def_ 10 (d := d_is_safe) rfl
  exact ⟨fd, F, FunD.bindsN F fun _ _ _ _ _ _ us hl => match us, hl with | [_, _, _, _, _], _ => rfl⟩
theorem Top.f_harm (T : Top K mg) : ∃ fd, FunD K "harm" "harm" (defArgs s_harm) (defBody s_harm) (defScope s_harm) [] [] (He.ga K "harm") fd ∧ Binds K fd ["book", "label", "till", "gap", "plan"] [] := by
  obtain ⟨fd, F⟩ := T.says.2.def_ 11 (d := d_harm) rfl
  exact ⟨fd, F, FunD.bindsN F fun _ _ _ _ _ _ us hl => match us, hl with | [_, _, _, _, _], _ => rfl⟩
theorem Top.f_moments_at (T : Top K mg) : ∃ fd, FunD K "moments_at" "moments_at" (defArgs s_moments_at) (defBody s_moments_at) (defScope s_moments_at) [] [] (He.ga K "moments_at") fd ∧ Binds K fd ["label", "till", "gap", "plan", "cell"] [] := by
  obtain ⟨fd, F⟩ := T.says.2.def_ 12 (d := d_moments_at) rfl
  exact ⟨fd, F, FunD.bindsN F fun _ _ _ _ _ _ us hl => match us, hl with | [_, _, _, _, _], _ => rfl⟩
theorem Top.f_moved_on (T : Top K mg) : ∃ fd, FunD K "moved_on" "moved_on" (defArgs s_moved_on) (defBody s_moved_on) (defScope s_moved_on) [] [] (He.ga K "moved_on") fd ∧ Binds K fd ["cell", "letter"] [] := by
  obtain ⟨fd, F⟩ := T.says.2.def_ 13 (d := d_moved_on) rfl
  exact ⟨fd, F, FunD.bindsN F fun _ _ _ _ _ _ us hl => match us, hl with | [_, _], _ => rfl⟩
theorem Top.f_is_order (T : Top K mg) : ∃ fd, FunD K "is_order" "is_order" (defArgs s_is_order) (defBody s_is_order) (defScope s_is_order) [] [] (He.ga K "is_order") fd ∧ Binds K fd ["book", "thing"] [] := by
  obtain ⟨fd, F⟩ := T.says.2.def_ 14 (d := d_is_order) rfl
  exact ⟨fd, F, FunD.bindsN F fun _ _ _ _ _ _ us hl => match us, hl with | [_, _], _ => rfl⟩
theorem Top.f_cells_of (T : Top K mg) : ∃ fd, FunD K "cells_of" "cells_of" (defArgs s_cells_of) (defBody s_cells_of) (defScope s_cells_of) [] [] (He.ga K "cells_of") fd ∧ Binds K fd ["order"] [] := by
  obtain ⟨fd, F⟩ := T.says.2.def_ 15 (d := d_cells_of) rfl
  exact ⟨fd, F, FunD.bindsN F fun _ _ _ _ _ _ us hl => match us, hl with | [_], _ => rfl⟩
theorem Top.f_is_good (T : Top K mg) : ∃ fd, FunD K "is_good" "is_good" (defArgs s_is_good) (defBody s_is_good) (defScope s_is_good) [] [] (He.ga K "is_good") fd ∧ Binds K fd ["book", "thing"] [] := by
  obtain ⟨fd, F⟩ := T.says.2.def_ 16 (d := d_is_good) rfl
  exact ⟨fd, F, FunD.bindsN F fun _ _ _ _ _ _ us hl => match us, hl with | [_, _], _ => rfl⟩
theorem Top.f_need_good (T : Top K mg) : ∃ fd, FunD K "need_good" "need_good" (defArgs s_need_good) (defBody s_need_good) (defScope s_need_good) [] [] (He.ga K "need_good") fd ∧ Binds K fd ["book", "order"] [] := by
  obtain ⟨fd, F⟩ := T.says.2.def_ 17 (d := d_need_good) rfl
  exact ⟨fd, F, FunD.bindsN F fun _ _ _ _ _ _ us hl => match us, hl with | [_, _], _ => rfl⟩
theorem Top.f_ways_on (T : Top K mg) : ∃ fd, FunD K "ways_on" "ways_on" (defArgs s_ways_on) (defBody s_ways_on) (defScope s_ways_on) [] [] (He.ga K "ways_on") fd ∧ Binds K fd ["book", "barred"] [] := by
  obtain ⟨fd, F⟩ := T.says.2.def_ 18 (d := d_ways_on) rfl
  exact ⟨fd, F, FunD.bindsN F fun _ _ _ _ _ _ us hl => match us, hl with | [_, _], _ => rfl⟩
theorem Top.f_order_index (T : Top K mg) : ∃ fd, FunD K "order_index" "order_index" (defArgs s_order_index) (defBody s_order_index) (defScope s_order_index) [] [] (He.ga K "order_index") fd ∧ Binds K fd ["book", "order"] [] := by
  obtain ⟨fd, F⟩ := T.says.2.def_ 19 (d := d_order_index) rfl
  exact ⟨fd, F, FunD.bindsN F fun _ _ _ _ _ _ us hl => match us, hl with | [_, _], _ => rfl⟩
theorem Top.f_label_first (T : Top K mg) : ∃ fd, FunD K "label_first" "label_first" (defArgs s_label_first) (defBody s_label_first) (defScope s_label_first) [] [] (He.ga K "label_first") fd ∧ Binds K fd ["order", "cell"] [] := by
  obtain ⟨fd, F⟩ := T.says.2.def_ 20 (d := d_label_first) rfl
  exact ⟨fd, F, FunD.bindsN F fun _ _ _ _ _ _ us hl => match us, hl with | [_, _], _ => rfl⟩
theorem Top.f_place_of (T : Top K mg) : ∃ fd, FunD K "place_of" "place_of" (defArgs s_place_of) (defBody s_place_of) (defScope s_place_of) [] [] (He.ga K "place_of") fd ∧ Binds K fd ["order", "letter", "many"] [] := by
  obtain ⟨fd, F⟩ := T.says.2.def_ 21 (d := d_place_of) rfl
  exact ⟨fd, F, FunD.bindsN F fun _ _ _ _ _ _ us hl => match us, hl with | [_, _, _], _ => rfl⟩
theorem Top.f_follows (T : Top K mg) : ∃ fd, FunD K "follows" "follows" (defArgs s_follows) (defBody s_follows) (defScope s_follows) [] [] (He.ga K "follows") fd ∧ Binds K fd ["book", "label", "till", "gap", "plan", "order"] [] := by
  obtain ⟨fd, F⟩ := T.says.2.def_ 22 (d := d_follows) rfl
  exact ⟨fd, F, FunD.bindsN F fun _ _ _ _ _ _ us hl => match us, hl with | [_, _, _, _, _, _], _ => rfl⟩
theorem Top.f_order_followed (T : Top K mg) : ∃ fd, FunD K "order_followed" "order_followed" (defArgs s_order_followed) (defBody s_order_followed) (defScope s_order_followed) [] [] (He.ga K "order_followed") fd ∧ Binds K fd ["book", "label", "till", "gap", "plan"] [] := by
  obtain ⟨fd, F⟩ := T.says.2.def_ 23 (d := d_order_followed) rfl
  exact ⟨fd, F, FunD.bindsN F fun _ _ _ _ _ _ us hl => match us, hl with | [_, _, _, _, _], _ => rfl⟩
theorem Top.f_forces (T : Top K mg) : ∃ fd, FunD K "forces" "forces" (defArgs s_forces) (defBody s_forces) (defScope s_forces) [] [] (He.ga K "forces") fd ∧ Binds K fd ["book", "label", "till", "gap", "order"] [] := by
  obtain ⟨fd, F⟩ := T.says.2.def_ 24 (d := d_forces) rfl
  exact ⟨fd, F, FunD.bindsN F fun _ _ _ _ _ _ us hl => match us, hl with | [_, _, _, _, _], _ => rfl⟩
theorem Top.f_letter_moments (T : Top K mg) : ∃ fd, FunD K "letter_moments" "letter_moments" (defArgs s_letter_moments) (defBody s_letter_moments) (defScope s_letter_moments) [] [] (He.ga K "letter_moments") fd ∧ Binds K fd ["book", "order"] [] := by
  obtain ⟨fd, F⟩ := T.says.2.def_ 25 (d := d_letter_moments) rfl
  exact ⟨fd, F, FunD.bindsN F fun _ _ _ _ _ _ us hl => match us, hl with | [_, _], _ => rfl⟩
theorem Top.f_least_moments (T : Top K mg) : ∃ fd, FunD K "least_moments" "least_moments" (defArgs s_least_moments) (defBody s_least_moments) (defScope s_least_moments) [] [] (He.ga K "least_moments") fd ∧ Binds K fd ["book", "label", "till", "gap", "order"] [] := by
  obtain ⟨fd, F⟩ := T.says.2.def_ 26 (d := d_least_moments) rfl
  exact ⟨fd, F, FunD.bindsN F fun _ _ _ _ _ _ us hl => match us, hl with | [_, _, _, _, _], _ => rfl⟩
theorem Top.f_plan_of (T : Top K mg) : ∃ fd, FunD K "plan_of" "plan_of" (defArgs s_plan_of) (defBody s_plan_of) (defScope s_plan_of) [] [] (He.ga K "plan_of") fd ∧ Binds K fd ["order", "moments"] [] := by
  obtain ⟨fd, F⟩ := T.says.2.def_ 27 (d := d_plan_of) rfl
  exact ⟨fd, F, FunD.bindsN F fun _ _ _ _ _ _ us hl => match us, hl with | [_, _], _ => rfl⟩
theorem Top.f_least_plan (T : Top K mg) : ∃ fd, FunD K "least_plan" "least_plan" (defArgs s_least_plan) (defBody s_least_plan) (defScope s_least_plan) [] [] (He.ga K "least_plan") fd ∧ Binds K fd ["book", "label", "till", "gap", "order"] [] := by
  obtain ⟨fd, F⟩ := T.says.2.def_ 28 (d := d_least_plan) rfl
  exact ⟨fd, F, FunD.bindsN F fun _ _ _ _ _ _ us hl => match us, hl with | [_, _, _, _, _], _ => rfl⟩
theorem Top.f_law_bag (T : Top K mg) : ∃ fd, FunD K "_law_bag" "_law_bag" (defArgs s_law_bag) (defBody s_law_bag) (defScope s_law_bag) [] [] (He.ga K "_law_bag") fd ∧ Binds K fd ["_law_script"] [] := by
  obtain ⟨fd, F⟩ := T.says.2.def_ 29 (d := d_law_bag) rfl
  exact ⟨fd, F, FunD.bindsN F fun _ _ _ _ _ _ us hl => match us, hl with | [_], _ => rfl⟩
theorem Top.f_law_take (T : Top K mg) : ∃ fd, FunD K "_law_take" "_law_take" (defArgs s_law_take) (defBody s_law_take) (defScope s_law_take) [] [] (He.ga K "_law_take") fd ∧ Binds K fd ["_law_bag_here", "_law_many"] [] := by
  obtain ⟨fd, F⟩ := T.says.2.def_ 30 (d := d_law_take) rfl
  exact ⟨fd, F, FunD.bindsN F fun _ _ _ _ _ _ us hl => match us, hl with | [_, _], _ => rfl⟩
theorem Top.f_law_one (T : Top K mg) : ∃ fd, FunD K "_law_one" "_law_one" (defArgs s_law_one) (defBody s_law_one) (defScope s_law_one) [] [] (He.ga K "_law_one") fd ∧ Binds K fd ["_law_bag_here", "_law_things"] [] := by
  obtain ⟨fd, F⟩ := T.says.2.def_ 31 (d := d_law_one) rfl
  exact ⟨fd, F, FunD.bindsN F fun _ _ _ _ _ _ us hl => match us, hl with | [_, _], _ => rfl⟩
theorem Top.f_law_gap_of (T : Top K mg) : ∃ fd, FunD K "_law_gap_of" "_law_gap_of" (defArgs s_law_gap_of) (defBody s_law_gap_of) (defScope s_law_gap_of) [] [] (He.ga K "_law_gap_of") fd ∧ Binds K fd ["_law_bag_here"] [] := by
  obtain ⟨fd, F⟩ := T.says.2.def_ 32 (d := d_law_gap_of) rfl
  exact ⟨fd, F, FunD.bindsN F fun _ _ _ _ _ _ us hl => match us, hl with | [_], _ => rfl⟩
theorem Top.f_law_price (T : Top K mg) : ∃ fd, FunD K "_law_price" "_law_price" (defArgs s_law_price) (defBody s_law_price) (defScope s_law_price) [] [] (He.ga K "_law_price") fd ∧ Binds K fd ["_law_bag_here"] [] := by
  obtain ⟨fd, F⟩ := T.says.2.def_ 33 (d := d_law_price) rfl
  exact ⟨fd, F, FunD.bindsN F fun _ _ _ _ _ _ us hl => match us, hl with | [_], _ => rfl⟩
theorem Top.f_law_book (T : Top K mg) : ∃ fd, FunD K "_law_book" "_law_book" (defArgs s_law_book) (defBody s_law_book) (defScope s_law_book) [] [] (He.ga K "_law_book") fd ∧ Binds K fd ["_law_bag_here", "_law_most"] [] := by
  obtain ⟨fd, F⟩ := T.says.2.def_ 34 (d := d_law_book) rfl
  exact ⟨fd, F, FunD.bindsN F fun _ _ _ _ _ _ us hl => match us, hl with | [_, _], _ => rfl⟩
theorem Top.f_law_board (T : Top K mg) : ∃ fd, FunD K "_law_board" "_law_board" (defArgs s_law_board) (defBody s_law_board) (defScope s_law_board) [] [] (He.ga K "_law_board") fd ∧ Binds K fd ["_law_bag_here"] [] := by
  obtain ⟨fd, F⟩ := T.says.2.def_ 35 (d := d_law_board) rfl
  exact ⟨fd, F, FunD.bindsN F fun _ _ _ _ _ _ us hl => match us, hl with | [_], _ => rfl⟩
theorem Top.f_law_sent (T : Top K mg) : ∃ fd, FunD K "_law_sent" "_law_sent" (defArgs s_law_sent) (defBody s_law_sent) (defScope s_law_sent) [] [] (He.ga K "_law_sent") fd ∧ Binds K fd ["_law_bag_here", "_law_changes"] [] := by
  obtain ⟨fd, F⟩ := T.says.2.def_ 36 (d := d_law_sent) rfl
  exact ⟨fd, F, FunD.bindsN F fun _ _ _ _ _ _ us hl => match us, hl with | [_, _], _ => rfl⟩
theorem Top.f_law_prices (T : Top K mg) : ∃ fd, FunD K "_law_prices" "_law_prices" (defArgs s_law_prices) (defBody s_law_prices) (defScope s_law_prices) [] [] (He.ga K "_law_prices") fd ∧ Binds K fd ["_law_book_here"] [] := by
  obtain ⟨fd, F⟩ := T.says.2.def_ 37 (d := d_law_prices) rfl
  exact ⟨fd, F, FunD.bindsN F fun _ _ _ _ _ _ us hl => match us, hl with | [_], _ => rfl⟩
theorem Top.f_law_moments (T : Top K mg) : ∃ fd, FunD K "_law_moments" "_law_moments" (defArgs s_law_moments) (defBody s_law_moments) (defScope s_law_moments) [] [] (He.ga K "_law_moments") fd ∧ Binds K fd ["_law_book_here"] [] := by
  obtain ⟨fd, F⟩ := T.says.2.def_ 38 (d := d_law_moments) rfl
  exact ⟨fd, F, FunD.bindsN F fun _ _ _ _ _ _ us hl => match us, hl with | [_], _ => rfl⟩
theorem Top.f_law_course (T : Top K mg) : ∃ fd, FunD K "_law_course" "_law_course" (defArgs s_law_course) (defBody s_law_course) (defScope s_law_course) [] [] (He.ga K "_law_course") fd ∧ Binds K fd ["_law_bag_here", "_law_sent_here", "_law_board_here"] [] := by
  obtain ⟨fd, F⟩ := T.says.2.def_ 39 (d := d_law_course) rfl
  exact ⟨fd, F, FunD.bindsN F fun _ _ _ _ _ _ us hl => match us, hl with | [_, _, _], _ => rfl⟩
theorem Top.f_law_made (T : Top K mg) : ∃ fd, FunD K "_law_made" "_law_made" (defArgs s_law_made) (defBody s_law_made) (defScope s_law_made) [] [] (He.ga K "_law_made") fd ∧ Binds K fd ["_law_bag_here", "_law_book_here"] [] := by
  obtain ⟨fd, F⟩ := T.says.2.def_ 40 (d := d_law_made) rfl
  exact ⟨fd, F, FunD.bindsN F fun _ _ _ _ _ _ us hl => match us, hl with | [_, _], _ => rfl⟩
theorem Top.f_law_bad (T : Top K mg) : ∃ fd, FunD K "_law_bad" "_law_bad" (defArgs s_law_bad) (defBody s_law_bad) (defScope s_law_bad) [] [] (He.ga K "_law_bad") fd ∧ Binds K fd ["_law_book_here"] [] := by
  obtain ⟨fd, F⟩ := T.says.2.def_ 41 (d := d_law_bad) rfl
  exact ⟨fd, F, FunD.bindsN F fun _ _ _ _ _ _ us hl => match us, hl with | [_], _ => rfl⟩
theorem Top.f_law_plan (T : Top K mg) : ∃ fd, FunD K "_law_plan" "_law_plan" (defArgs s_law_plan) (defBody s_law_plan) (defScope s_law_plan) [] [] (He.ga K "_law_plan") fd ∧ Binds K fd ["_law_bag_here", "_law_book_here"] [] := by
  obtain ⟨fd, F⟩ := T.says.2.def_ 42 (d := d_law_plan) rfl
  exact ⟨fd, F, FunD.bindsN F fun _ _ _ _ _ _ us hl => match us, hl with | [_, _], _ => rfl⟩
theorem Top.f_law_cells (T : Top K mg) : ∃ fd, FunD K "_law_cells" "_law_cells" (defArgs s_law_cells) (defBody s_law_cells) (defScope s_law_cells) [] [] (He.ga K "_law_cells") fd ∧ Binds K fd ["_law_order"] [] := by
  obtain ⟨fd, F⟩ := T.says.2.def_ 43 (d := d_law_cells) rfl
  exact ⟨fd, F, FunD.bindsN F fun _ _ _ _ _ _ us hl => match us, hl with | [_], _ => rfl⟩
theorem Top.f_law_plain (T : Top K mg) : ∃ fd, FunD K "_law_plain" "_law_plain" (defArgs s_law_plain) (defBody s_law_plain) (defScope s_law_plain) [] [] (He.ga K "_law_plain") fd ∧ Binds K fd ["_law_book_here"] [] := by
  obtain ⟨fd, F⟩ := T.says.2.def_ 44 (d := d_law_plain) rfl
  exact ⟨fd, F, FunD.bindsN F fun _ _ _ _ _ _ us hl => match us, hl with | [_], _ => rfl⟩
theorem Top.f_law_drawn_order (T : Top K mg) : ∃ fd, FunD K "_law_drawn_order" "_law_drawn_order" (defArgs s_law_drawn_order) (defBody s_law_drawn_order) (defScope s_law_drawn_order) [] [] (He.ga K "_law_drawn_order") fd ∧ Binds K fd ["_law_bag_here", "_law_book_here"] [] := by
  obtain ⟨fd, F⟩ := T.says.2.def_ 45 (d := d_law_drawn_order) rfl
  exact ⟨fd, F, FunD.bindsN F fun _ _ _ _ _ _ us hl => match us, hl with | [_, _], _ => rfl⟩
theorem Top.f_law_leading (T : Top K mg) : ∃ fd, FunD K "_law_leading" "_law_leading" (defArgs s_law_leading) (defBody s_law_leading) (defScope s_law_leading) [] [] (He.ga K "_law_leading") fd ∧ Binds K fd ["_law_many", "_law_bad_here"] [] := by
  obtain ⟨fd, F⟩ := T.says.2.def_ 46 (d := d_law_leading) rfl
  exact ⟨fd, F, FunD.bindsN F fun _ _ _ _ _ _ us hl => match us, hl with | [_, _], _ => rfl⟩
theorem Top.f_law_label_first (T : Top K mg) : ∃ fd, FunD K "_law_label_first" "_law_label_first" (defArgs s_law_label_first) (defBody s_law_label_first) (defScope s_law_label_first) [] [] (He.ga K "_law_label_first") fd ∧ Binds K fd ["_law_order", "_law_cell"] [] := by
  obtain ⟨fd, F⟩ := T.says.2.def_ 47 (d := d_law_label_first) rfl
  exact ⟨fd, F, FunD.bindsN F fun _ _ _ _ _ _ us hl => match us, hl with | [_, _], _ => rfl⟩
theorem Top.f_law_least_plan (T : Top K mg) : ∃ fd, FunD K "_law_least_plan" "_law_least_plan" (defArgs s_law_least_plan) (defBody s_law_least_plan) (defScope s_law_least_plan) [] [] (He.ga K "_law_least_plan") fd ∧ Binds K fd ["_law_book_here", "_law_label", "_law_till", "_law_gap", "_law_order"] [] := by
  obtain ⟨fd, F⟩ := T.says.2.def_ 48 (d := d_law_least_plan) rfl
  exact ⟨fd, F, FunD.bindsN F fun _ _ _ _ _ _ us hl => match us, hl with | [_, _, _, _, _], _ => rfl⟩
theorem Top.f_law_near_plan (T : Top K mg) : ∃ fd, FunD K "_law_near_plan" "_law_near_plan" (defArgs s_law_near_plan) (defBody s_law_near_plan) (defScope s_law_near_plan) [] [] (He.ga K "_law_near_plan") fd ∧ Binds K fd ["_law_bag_here", "_law_book_here", "_law_label", "_law_till", "_law_gap"] [] := by
  obtain ⟨fd, F⟩ := T.says.2.def_ 49 (d := d_law_near_plan) rfl
  exact ⟨fd, F, FunD.bindsN F fun _ _ _ _ _ _ us hl => match us, hl with | [_, _, _, _, _], _ => rfl⟩
theorem Top.f_law_order_of (T : Top K mg) : ∃ fd, FunD K "_law_order_of" "_law_order_of" (defArgs s_law_order_of) (defBody s_law_order_of) (defScope s_law_order_of) [] [] (He.ga K "_law_order_of") fd ∧ Binds K fd ["_law_first", "_law_then", "_law_wait", "_law_is_till_first"] [] := by
  obtain ⟨fd, F⟩ := T.says.2.def_ 50 (d := d_law_order_of) rfl
  exact ⟨fd, F, FunD.bindsN F fun _ _ _ _ _ _ us hl => match us, hl with | [_, _, _, _], _ => rfl⟩
theorem Top.f_law_not_later (T : Top K mg) : ∃ fd, FunD K "_law_not_later" "_law_not_later" (defArgs s_law_not_later) (defBody s_law_not_later) (defScope s_law_not_later) [] [] (He.ga K "_law_not_later") fd ∧ Binds K fd ["_law_one_here", "_law_other"] [] := by
  obtain ⟨fd, F⟩ := T.says.2.def_ 51 (d := d_law_not_later) rfl
  exact ⟨fd, F, FunD.bindsN F fun _ _ _ _ _ _ us hl => match us, hl with | [_, _], _ => rfl⟩
theorem Top.f_law (T : Top K mg) : ∃ fd, FunD K "law" "law" (defArgs s_law) (defBody s_law) (defScope s_law) [] [] (He.ga K "law") fd ∧ Binds K fd ["_law_script"] [] := by
  obtain ⟨fd, F⟩ := T.says.2.def_ 52 (d := d_law) rfl
  exact ⟨fd, F, FunD.bindsN F fun _ _ _ _ _ _ us hl => match us, hl with | [_], _ => rfl⟩
theorem Top.f_Book_init (T : Top K mg) : ∃ fd, FunD K "__init__" "Book.__init__" (defArgs s_Book_init) (defBody s_Book_init) (defScope s_Book_init) [.ref (He.dflAt ("Book", some "__init__") 0 K)] [] (He.ma K (cBook K) "__init__") fd ∧ Binds K fd ["self", "first", "changes"] [] := by
  obtain ⟨fd, F⟩ := T.says.2.def_ 53 (d := d_Book_init) rfl
  have F : FunD K "__init__" "Book.__init__" (defArgs s_Book_init) (defBody s_Book_init) (defScope s_Book_init) [.ref (He.dflAt ("Book", some "__init__") 0 K)] [] (He.ma K (cBook K) "__init__") fd := F
  obtain ⟨ds, hv, hb⟩ := FunD.binds1 F (ps := ["self", "first", "changes"]) 3 1 (by simp) rfl fun T kV doc pm an cdv ct us its hu hi => by
    match us, its, hu, hi with
    | [_, _, _], [_], _, _ => exact ⟨_, rfl, rfl⟩
  cases hv
  exact ⟨fd, F, hb⟩
theorem Top.f_Book_len (T : Top K mg) : ∃ fd, FunD K "__len__" "Book.__len__" (defArgs s_Book_len) (defBody s_Book_len) (defScope s_Book_len) [] [] (He.ma K (cBook K) "__len__") fd ∧ Meth K (cBook K) "__len__" (He.ma K (cBook K) "__len__") ∧ Binds K fd ["self"] [] := by
  obtain ⟨fd, F⟩ := T.says.2.def_ 54 (d := d_Book_len) rfl
  have F : FunD K "__len__" "Book.__len__" (defArgs s_Book_len) (defBody s_Book_len) (defScope s_Book_len) [] [] (He.ma K (cBook K) "__len__") fd := F
  exact ⟨fd, F, He.meth_ok (T.says.2.fact 80 rfl), FunD.bindsN F fun _ _ _ _ _ _ us hl => match us, hl with | [_], _ => rfl⟩
theorem Top.f_Book_moments (T : Top K mg) : ∃ fd, FunD K "moments" "Book.moments" (defArgs s_Book_moments) (defBody s_Book_moments) (defScope s_Book_moments) [] [] (He.ma K (cBook K) "moments") fd ∧ Meth K (cBook K) "moments" (He.ma K (cBook K) "moments") ∧ Binds K fd ["self"] [] := by
  obtain ⟨fd, F⟩ := T.says.2.def_ 55 (d := d_Book_moments) rfl
  have F : FunD K "moments" "Book.moments" (defArgs s_Book_moments) (defBody s_Book_moments) (defScope s_Book_moments) [] [] (He.ma K (cBook K) "moments") fd := F
  exact ⟨fd, F, He.meth_ok (T.says.2.fact 78 rfl), FunD.bindsN F fun _ _ _ _ _ _ us hl => match us, hl with | [_], _ => rfl⟩
theorem Top.f_Book_prices (T : Top K mg) : ∃ fd, FunD K "prices" "Book.prices" (defArgs s_Book_prices) (defBody s_Book_prices) (defScope s_Book_prices) [] [] (He.ma K (cBook K) "prices") fd ∧ Meth K (cBook K) "prices" (He.ma K (cBook K) "prices") ∧ Binds K fd ["self"] [] := by
  obtain ⟨fd, F⟩ := T.says.2.def_ 56 (d := d_Book_prices) rfl
  have F : FunD K "prices" "Book.prices" (defArgs s_Book_prices) (defBody s_Book_prices) (defScope s_Book_prices) [] [] (He.ma K (cBook K) "prices") fd := F
  exact ⟨fd, F, He.meth_ok (T.says.2.fact 79 rfl), FunD.bindsN F fun _ _ _ _ _ _ us hl => match us, hl with | [_], _ => rfl⟩
theorem Top.f_Line_init (T : Top K mg) : ∃ fd, FunD K "__init__" "Line.__init__" (defArgs s_Line_init) (defBody s_Line_init) (defScope s_Line_init) [.non] [] (He.ma K (cLine K) "__init__") fd ∧ Binds K fd ["self", "book", "board", "sent"] [] := by
  obtain ⟨fd, F⟩ := T.says.2.def_ 57 (d := d_Line_init) rfl
  have F : FunD K "__init__" "Line.__init__" (defArgs s_Line_init) (defBody s_Line_init) (defScope s_Line_init) [.non] [] (He.ma K (cLine K) "__init__") fd := F
  obtain ⟨ds, hv, hb⟩ := FunD.binds1 F (ps := ["self", "book", "board", "sent"]) 4 1 (by simp) rfl fun T kV doc pm an cdv ct us its hu hi => by
    match us, its, hu, hi with
    | [_, _, _, _], [_], _, _ => exact ⟨_, rfl, rfl⟩
  cases hv
  exact ⟨fd, F, hb⟩
theorem Top.f_Line_earliest (T : Top K mg) : ∃ fd, FunD K "earliest" "Line.earliest" (defArgs s_Line_earliest) (defBody s_Line_earliest) (defScope s_Line_earliest) [] [] (He.ma K (cLine K) "earliest") fd ∧ Meth K (cLine K) "earliest" (He.ma K (cLine K) "earliest") ∧ Binds K fd ["self"] [] := by
  obtain ⟨fd, F⟩ := T.says.2.def_ 58 (d := d_Line_earliest) rfl
  have F : FunD K "earliest" "Line.earliest" (defArgs s_Line_earliest) (defBody s_Line_earliest) (defScope s_Line_earliest) [] [] (He.ma K (cLine K) "earliest") fd := F
  exact ⟨fd, F, He.meth_ok (T.says.2.fact 81 rfl), FunD.bindsN F fun _ _ _ _ _ _ us hl => match us, hl with | [_], _ => rfl⟩
theorem Top.f_Line_latest (T : Top K mg) : ∃ fd, FunD K "latest" "Line.latest" (defArgs s_Line_latest) (defBody s_Line_latest) (defScope s_Line_latest) [] [] (He.ma K (cLine K) "latest") fd ∧ Meth K (cLine K) "latest" (He.ma K (cLine K) "latest") ∧ Binds K fd ["self"] [] := by
  obtain ⟨fd, F⟩ := T.says.2.def_ 59 (d := d_Line_latest) rfl
  have F : FunD K "latest" "Line.latest" (defArgs s_Line_latest) (defBody s_Line_latest) (defScope s_Line_latest) [] [] (He.ma K (cLine K) "latest") fd := F
  exact ⟨fd, F, He.meth_ok (T.says.2.fact 82 rfl), FunD.bindsN F fun _ _ _ _ _ _ us hl => match us, hl with | [_], _ => rfl⟩
theorem Top.f_Line_is_course (T : Top K mg) : ∃ fd, FunD K "is_course" "Line.is_course" (defArgs s_Line_is_course) (defBody s_Line_is_course) (defScope s_Line_is_course) [] [] (He.ma K (cLine K) "is_course") fd ∧ Meth K (cLine K) "is_course" (He.ma K (cLine K) "is_course") ∧ Binds K fd ["self", "thing"] [] := by
  obtain ⟨fd, F⟩ := T.says.2.def_ 60 (d := d_Line_is_course) rfl
  have F : FunD K "is_course" "Line.is_course" (defArgs s_Line_is_course) (defBody s_Line_is_course) (defScope s_Line_is_course) [] [] (He.ma K (cLine K) "is_course") fd := F
  exact ⟨fd, F, He.meth_ok (T.says.2.fact 83 rfl), FunD.bindsN F fun _ _ _ _ _ _ us hl => match us, hl with | [_, _], _ => rfl⟩
end
end LT
/-! ## LRun -/
set_option Elab.async false
set_option linter.all false
set_option maxRecDepth 100000
set_option maxHeartbeats 0
/-! The head: one run of the top in the kernel, and what is read off behind it. -/
namespace LT
open PySem PySem.Spec PyProof.Rows L2
def names : List PySem.Str := (["_wall", "LabelError", "Wrong", "NotLater", "Early", "NoNumber", "NoOrder", "is_integer", "is_price", "is_board", "is_change", "is_index", "Book", "are_moments", "Line", "lines_by", "bad_cells", "label_leaves", "till_leaves", "can_meet", "is_safe", "harm", "moments_at", "moved_on", "is_order", "cells_of", "is_good", "need_good", "ways_on", "order_index", "label_first"] : List PySem.Str) ++ (["place_of", "follows", "order_followed", "forces", "letter_moments", "least_moments", "plan_of", "least_plan", "_law_bag", "_law_take", "_law_one", "_law_gap_of", "_law_price", "_law_book", "_law_board", "_law_sent", "_law_prices", "_law_moments", "_law_course", "_law_made", "_law_bad", "_law_plan", "_law_cells", "_law_plain", "_law_drawn_order", "_law_leading", "_law_label_first", "_law_least_plan", "_law_near_plan", "_law_order_of", "_law_not_later"] : List PySem.Str)
abbrev Rw : PySem.W.OpenRow := PySem.W.OpenLaw.row PySem.Challenge.rw_labeltill_k01_whole_courses_and_orders
abbrev hk : PySem.W.Hook := LHk.hookZ exB fa fn
def ob (s : PySem.W.SharedT) : LHk.AlZ := LHk.obsZ exB fa fn (HandSHeadRun.getT s)
theorem ob_eq (s : PySem.W.SharedT) : ob s = hk.obs s.abs := LHk.obsZ_eq (HandSHeadRun.getT_eq s)
theorem run (w : World) : HandSHeadRun.RunEq Rw (PySem.W.view Rw.prog [70]) hk ob 20000 names w := by
  intro os
  kernel_rfl
end LT
/-! ## W1 -/
set_option Elab.async false
set_option linter.all false
set_option maxRecDepth 100000
set_option maxHeartbeats 4000000
namespace LT
open PySem PySem.Spec PyProof.Rows L2
section
variable {P : Program} {w : World} {K : PySem.W.Frag} {mg : Str → Option Value} {base : Heap}
/-! ### kinds -/
abbrev N_is_integer : List Str := ["thing"]
theorem sc_is_integer : FnScope N_is_integer ["thing"] (defScope s_is_integer) := ⟨rfl, rfl, rfl, by decide +kernel, rfl, by decide +kernel, by decide +kernel⟩
theorem ok_is_integer (T : Top K mg) : Cal P w K mg base 1 "is_integer" (spP (A := Int × Unit) (fun _ => True) fun _ => true) := by
  obtain ⟨fd, Fd, b⟩ := T.f_is_integer
  refine cal_of Fd T.g_is_integer b sc_is_integer rfl fun cdv Ar outer s H vs Q E hr F0 args e0 ha hp q => ?_
  have hu := hu_of hr
  refine ⟨_, (pss_one (ps_ret (pe_and (pe_callB call_isi (by rfl) T.m_isinstance (by decide +kernel) (pa_cons (pv 0) (pa_cons (pe_bltn (v := .ty "int") (u := .type "int") (by rfl) T.m_int (by decide +kernel) rfl) pa_nil))) (pe_one (pe_not (pe_callB call_isi (by rfl) T.m_isinstance (by decide +kernel) (pa_cons (pv 0) (pa_cons (pe_bltn (v := .ty "bool") (u := .type "bool") (by rfl) T.m_bool (by decide +kernel) rfl) pa_nil)))))))), ?_⟩
  obtain ⟨v, ws, rfl, iv, rfl⟩ := ha
  exact st_ret (et_andV (isi_int (b := true) (et_var rfl iv) (kit_ty (by decide +kernel))) fun _ => et_notV (isi_int (b := false) (et_var rfl iv) (kit_ty (by decide +kernel)))) e0 q
abbrev N_is_price : List Str := ["thing"]
theorem sc_is_price : FnScope N_is_price ["thing"] (defScope s_is_price) := ⟨rfl, rfl, rfl, by decide +kernel, rfl, by decide +kernel, by decide +kernel⟩
theorem ok_is_price (T : Top K mg) : Cal P w K mg base 2 "is_price" (spP (A := Int × Unit) (fun _ => True) fun (x, _) => decide (0 ≤ x)) := by
  obtain ⟨fd, Fd, b⟩ := T.f_is_price
  refine cal_of Fd T.g_is_price b sc_is_price rfl fun cdv Ar outer s H vs Q E hr F0 args e0 ha hp q => ?_
  have hu := hu_of hr
  refine ⟨_, (pss_one (ps_ret (pe_and (pe_cal (ok_is_integer T) hr (by decide) rfl (pa_cons (pv 0) pa_nil)) (pe_one (pe_cmpR op_ge (pv 0) pe_int (nomark _)))))), ?_⟩
  obtain ⟨v, ws, rfl, iv, rfl⟩ := ha
  obtain ⟨x, u⟩ := args
  exact st_ret (et_andV (et_call (args := (x, ())) (ea1 (et_var rfl iv)) trivial) fun _ => et_ge (et_var rfl iv) et_int) e0 q
def isBoard (b : Int × Int) : Bool := decide (0 ≤ b.1) && (decide (0 ≤ b.2) && decide (b.1 ≤ b.2))
abbrev N_is_board : List Str := ["thing"]
theorem sc_is_board : FnScope N_is_board ["thing"] (defScope s_is_board) := ⟨rfl, rfl, rfl, by decide +kernel, rfl, by decide +kernel, by decide +kernel⟩
theorem ok_is_board (T : Top K mg) : Cal P w K mg base 3 "is_board" (spP (A := (Int × Int) × Unit) (fun _ => True) fun (x, _) => isBoard x) := by
  obtain ⟨fd, Fd, b⟩ := T.f_is_board
  refine cal_of Fd T.g_is_board b sc_is_board rfl fun cdv Ar outer s H vs Q E hr F0 args e0 ha hp q => ?_
  have hu := hu_of hr
  refine ⟨_, (pss_cons (ps_if (PW.pt (pw_or (pt_not (pt_val (pe_callB call_isi (by rfl) T.m_isinstance (by decide +kernel) (pa_cons (pv 0) (pa_cons (pe_bltn (v := .ty "tuple") (u := .type "tuple") (by rfl) T.m_tuple (by decide +kernel) rfl) pa_nil))))) (pw_or1 (pt_cmpR op_ne (pe_callB call_len_seq (by rfl) T.m_len (by decide +kernel) (pa_cons (pv 0) pa_nil)) pe_int (nomark _))))) (pss_one (ps_ret pe_bl)) pss_nil)
    (pss_one (ps_ret (pe_and (pe_cal (ok_is_price T) hr (by decide) rfl (pa_cons (pe_ix ix_seq (pv 0) pe_int (fun _ _ => rfl)) pa_nil)) (pe_and (pe_cal (ok_is_price T) hr (by decide) rfl (pa_cons (pe_ix ix_seq (pv 0) pe_int (fun _ _ => rfl)) pa_nil)) (pe_one (pe_cmpR op_le (pe_ix ix_seq (pv 0) pe_int (fun _ _ => rfl)) (pe_ix ix_seq (pv 0) pe_int (fun _ _ => rfl)) (nomark _)))))))), ?_⟩
  obtain ⟨v, ws, rfl, iv, rfl⟩ := ha
  obtain ⟨x, u⟩ := args
  refine st_if (b := false) (eb_or (a := false) (eb_not (b := true) (eb_B (isi_pair (b := true) (et_var rfl iv) (kit_ty (by decide +kernel))))) fun _ => (eb_test (et_neN (et_lenP (et_var rfl iv)) et_nat)).to rfl) e0 (fun h => absurd h (by decide)) fun _ F1 H1 g1 => ?_
  have iv := Rep.mono g1.ff iv
  refine st_ret (et_andV (et_call (args := (x.1, ())) (ea1 (et_fst (et_var rfl iv))) trivial) fun _ => et_andV (et_call (args := (x.2, ())) (ea1 (et_snd (et_var rfl iv))) trivial) fun _ => et_le (et_fst (et_var rfl iv)) (et_snd (et_var rfl iv))) g1.fh fun v F2 H2 g2 i => q v F2 H2 (g1.trans g2) i
abbrev N_is_change : List Str := ["thing"]
theorem sc_is_change : FnScope N_is_change ["thing"] (defScope s_is_change) := ⟨rfl, rfl, rfl, by decide +kernel, rfl, by decide +kernel, by decide +kernel⟩
theorem ok_is_change (T : Top K mg) : Cal P w K mg base 3 "is_change" (spP (A := (Int × Int) × Unit) (fun _ => True) fun (x, _) => decide (0 ≤ x.2)) := by
  obtain ⟨fd, Fd, b⟩ := T.f_is_change
  refine cal_of Fd T.g_is_change b sc_is_change rfl fun cdv Ar outer s H vs Q E hr F0 args e0 ha hp q => ?_
  have hu := hu_of hr
  refine ⟨_, (pss_one (ps_ret (pe_and (pe_callB call_isi (by rfl) T.m_isinstance (by decide +kernel) (pa_cons (pv 0) (pa_cons (pe_bltn (v := .ty "tuple") (u := .type "tuple") (by rfl) T.m_tuple (by decide +kernel) rfl) pa_nil))) (pe_and (pe_cmpR op_eq (pe_callB call_len_seq (by rfl) T.m_len (by decide +kernel) (pa_cons (pv 0) pa_nil)) pe_int (nomark _)) (pe_and (pe_cal (ok_is_integer T) hr (by decide) rfl (pa_cons (pe_ix ix_seq (pv 0) pe_int (fun _ _ => rfl)) pa_nil)) (pe_one (pe_cal (ok_is_price T) hr (by decide) rfl (pa_cons (pe_ix ix_seq (pv 0) pe_int (fun _ _ => rfl)) pa_nil)))))))), ?_⟩
  obtain ⟨v, ws, rfl, iv, rfl⟩ := ha
  obtain ⟨x, u⟩ := args
  refine st_ret (ET.to (et_andV (isi_pair (b := true) (et_var rfl iv) (kit_ty (by decide +kernel))) fun _ => et_andV (et_eqN (et_lenP (et_var rfl iv)) et_nat) fun _ => et_andV (et_call (args := (x.1, ())) (ea1 (et_fst (et_var rfl iv))) trivial) fun _ => et_call (args := (x.2, ())) (ea1 (et_snd (et_var rfl iv))) trivial) ?_) e0 q
  rfl
theorem all_true {α : Type} (xs : List α) : ((xs.filter fun _ => true).map fun _ => true).all id = true := by simp
abbrev N_are_moments : List Str := ["thing", "many", "one"]
theorem sc_are_moments : FnScope N_are_moments ["thing", "many"] (defScope s_are_moments) := ⟨rfl, rfl, rfl, by decide +kernel, rfl, by decide +kernel, by decide +kernel⟩
theorem ok_are_moments (T : Top K mg) : Cal P w K mg base 2 "are_moments" (spP (A := List Int × Nat × Unit) (fun (l, _, _) => l.length ≤ 50000) fun (l, n, _) => decide (l.length = n)) := by
  obtain ⟨fd, Fd, b⟩ := T.f_are_moments
  refine cal_of Fd T.g_are_moments b sc_are_moments rfl fun cdv Ar outer s H vs Q E hr F0 args e0 ha hp q => ?_
  have hu := hu_of hr
  refine ⟨_, (pss_one (ps_ret (pe_and (pe_callB call_isiT (by rfl) T.m_isinstance (by decide +kernel) (pa_cons (pv 0) (pa_cons (pe_tup (pa_cons (pe_bltn (v := .ty "list") (u := .type "list") (by rfl) T.m_list (by decide +kernel) rfl) (pa_cons (pe_bltn (v := .ty "tuple") (u := .type "tuple") (by rfl) T.m_tuple (by decide +kernel) rfl) pa_nil))) pa_nil))) (pe_and (pe_cmpR op_eq (pe_callB call_len_seq (by rfl) T.m_len (by decide +kernel) (pa_cons (pv 0) pa_nil)) (pv 1) (nomark _)) (pe_one (pe_callB (cr_all rfl) (by rfl) T.m_all (by decide +kernel) (pa_cons (pe_lc (own := [("one", 2)]) rfl sc_are_moments.nd (pi_list (pv 0)) (blkOk_by (N := N_are_moments) (sc := defScope s_are_moments) (own := [("one", 2)]) (by decide +kernel)) (fun _ _ _ _ _ => (pg_name (i := 2) sc_are_moments.nd rfl (by first | exact Or.inl rfl | exact Or.inr rfl))) (fun _ _ _ _ _ => pts_nil) (fun _ _ _ _ _ => (pe_cal (ok_is_integer T) hr (by decide) rfl (pa_cons (pv 2) pa_nil)))) pa_nil))))))), ?_⟩
  obtain ⟨v, ws, rfl, iv, w, ws2, rfl, iw, rfl⟩ := ha
  obtain ⟨l, n, u⟩ := args
  refine st_ret (ET.to (et_andV (isiT_sq (x := Sq.mk l) (et_var rfl (sq_list iv))) fun _ => et_andV (et_eqN (et_len (et_var rfl iv)) (et_var rfl iw)) fun _ =>
    et_all (et_lcN (xs := l) (p := fun _ => true) (f := fun _ => true) (ei_list (et_var rfl iv)) (fun _ => rfl) (fun x hx F1 v e i => eb_yes) (fun x hx F1 v e i _ => et_call (args := (x, ())) (ea1 (et_var rfl i)) trivial) hp)) ?_) e0 q
  rw [all_true]
  simp

end
end LT
/-! ## W2 -/
set_option Elab.async false
set_option linter.all false
set_option maxRecDepth 100000
set_option maxHeartbeats 4000000
namespace LT
open PySem PySem.Spec PyProof.Rows L2
section
variable {P : Program} {w : World} {K : PySem.W.Frag} {mg : Str → Option Value} {base : Heap}
/-! ### Book -/
structure OkCh (ch : List (Int × Int)) : Prop where
  len : ch.length ≤ 1000
  pr : ∀ c ∈ ch, 0 ≤ c.2
  up : ∀ (i : Nat) c d, ch[i]? = some c → ch[i + 1]? = some d → c.1 < d.1
abbrev N_Book_init : List Str := ["self", "first", "changes", "change", "index", "moment", "price"]
theorem sc_Book_init : FnScope N_Book_init ["self", "first", "changes"] (defScope s_Book_init) := ⟨rfl, rfl, rfl, by decide +kernel, rfl, by decide +kernel, by decide +kernel⟩
theorem ok_Book_init (T : Top K mg) : Mak P w K mg base 4 "Book" (cBook K) (spMk (A := Int × Sq (Int × Int) × Unit) (cBook K) (fun (f, ch, _) => 0 ≤ f ∧ OkCh ch.l) fun (f, ch, _) F2 fs => ∃ u w, fs = [(("its_changes" : Str), u), (("its_prices" : Str), w)] ∧ Is F2 u (Tup.mk ch.l) ∧ Is F2 w (Tup.mk (f :: ch.l.map (·.2)))) := by
  obtain ⟨fd, Fd, b⟩ := T.f_Book_init
  refine ⟨_, fd, _, T.mkr_Book, Fd.ok sc_Book_init ?len ?body, T.g_Book, b⟩
  case len => exact fun vs H Q E h => spMk_len h
  case body =>
  intro cdv Ar outer s H vs Q E hr h
  refine nox_imp ?_
  have hu := hu_of hr
  refine ⟨_, (pss_cons (ps_if (pt_not (pt_val (pe_cal (ok_is_price T) hr (by decide) rfl (pa_cons (pv 1) pa_nil)))) (pss_one ps_never) pss_nil)
    (pss_cons (ps_if (PW.pt (pw_or (pt_not (pt_val (pe_callB call_isiT (by rfl) T.m_isinstance (by decide +kernel) (pa_cons (pv 2) (pa_cons (pe_tup (pa_cons (pe_bltn (v := .ty "list") (u := .type "list") (by rfl) T.m_list (by decide +kernel) rfl) (pa_cons (pe_bltn (v := .ty "tuple") (u := .type "tuple") (by rfl) T.m_tuple (by decide +kernel) rfl) pa_nil))) pa_nil))))) (pw_or1 (pt_not (pt_val (pe_callB (cr_all rfl) (by rfl) T.m_all (by decide +kernel) (pa_cons (pe_lc (own := [("change", 3)]) rfl sc_Book_init.nd (pi_or (pi_list (pv 2)) (pi_tup (pv 2))) (blkOk_by (N := N_Book_init) (sc := defScope s_Book_init) (own := [("change", 3)]) (by decide +kernel)) (fun _ _ _ _ _ => (pg_name (i := 3) sc_Book_init.nd rfl (by first | exact Or.inl rfl | exact Or.inr rfl))) (fun _ _ _ _ _ => pts_nil) (fun _ _ _ _ _ => (pe_cal (ok_is_change T) hr (by decide) rfl (pa_cons (pv 3) pa_nil)))) pa_nil))))))) (pss_one ps_never) pss_nil)
    (pss_cons (ps_for PassesOwn.never rfl (pi_range2 (by rfl) T.m_range (pa_cons pe_int (pa_cons (pe_callB call_len_seq (by rfl) T.m_len (by decide +kernel) (pa_cons (pv 2) pa_nil)) pa_nil))) (pg_name (i := 4) sc_Book_init.nd rfl (by first | exact Or.inl rfl | exact Or.inr rfl)) (pss_one (ps_if (pt_cmpR op_le (pe_ix ix_seq (pe_ix ix_seq (pv 2) (pv 4) (fun _ _ => rfl)) pe_int (fun _ _ => rfl)) (pe_ix ix_seq (pe_ix ix_seq (pv 2) (pe_op op_sub (pv 4) pe_int) (fun _ _ => rfl)) pe_int (fun _ _ => rfl)) (nomark _)) (pss_one ps_never) pss_nil)))
    (pss_cons (ps_fld (pv 0) (pe_callTy call_tuple_of (by rfl) T.m_tuple (by decide +kernel) (pa_cons (pv 2) pa_nil)) rfl)
    (pss_one (ps_fld (pv 0) (pe_tup (pa_cons (pv 1) (StX.pa_star (pe_lc (own := [("moment", 5), ("price", 6)]) rfl sc_Book_init.nd (pi_or (pi_list (pv 2)) (pi_tup (pv 2))) (blkOk_by (N := N_Book_init) (sc := defScope s_Book_init) (own := [("moment", 5), ("price", 6)]) (by decide +kernel)) (fun _ _ _ _ _ => (pg_tupK (K := K) (n := 2) (by rfl) (by rfl) (pgs_cons (pg_name (i := 5) sc_Book_init.nd rfl (by first | exact Or.inl rfl | exact Or.inr rfl)) (pgs_cons (pg_name (i := 6) sc_Book_init.nd rfl (by first | exact Or.inl rfl | exact Or.inr rfl)) pgs_nil)))) (fun _ _ _ _ _ => pts_nil) (fun _ _ _ _ _ => (pv 6))) pa_nil))) rfl)))))), ?_⟩
  obtain ⟨F, H0, args, a, dx, ws, rfl, g0, hF, h0, hA, ⟨v1, ws, rfl, i1, v2, ws2, rfl, i2, rfl⟩, hp, q⟩ := h
  obtain ⟨f, ch, u⟩ := args
  have hf : 0 ≤ f := hp.1
  have hc : OkCh ch.l := hp.2
  have hlen := hc.len
  refine st_no (eb_not (b := true) (eb_B (ET.to (et_call (args := (f, ())) (ea1 (et_var rfl i1)) trivial) (decide_eq_true hf)))) g0.fh fun F1 H1 g1 => ?_
  have g := g0.trans g1
  have hF := g1.off hF hA
  have hA := g1.hh _ _ hA
  have i1 := Rep.mono g1.ff i1
  have i2 := Rep.mono g1.ff i2
  refine st_no (eb_or (a := false) (b := false) (eb_not (b := true) (eb_B (isiT_sq (et_var rfl i2)))) fun _ => eb_not (b := true) (eb_B (ET.to (et_all (et_lcN (xs := ch.l) (p := fun _ => true) (f := fun c => decide (0 ≤ c.2)) (ei_sq rfl i2) (fun _ => rfl) (fun x hx F1 v e i => eb_yes)
    (fun x hx F1 v e i _ => et_call (args := (x, ())) (ea1 (et_var rfl i)) trivial) (by omega))) ?_))) g.fh fun F2 H2 g2 => ?_
  · rw [filter_yes, List.all_map]
    exact List.all_eq_true.mpr fun c hcm => decide_eq_true (hc.pr c hcm)
  have g := g.trans g2
  have hF := g2.off hF hA
  have hA := g2.hh _ _ hA
  have i1 := Rep.mono g2.ff i1
  have i2 := Rep.mono g2.ff i2
  refine st_loop (xs := List.range' 1 (ch.l.length - 1)) (fun i Fi σ' H' => Grow F H0 Fi H' ∧ Fi a = none ∧ H' a = some (.ins (cBook K) dx []) ∧ ∃ t, σ' = [some (.ref a), some v1, some v2, none, t, none, none])
    (ei_rng2 (ea2 (et_nat (n := 1)) (et_lenS (et_var rfl i2))) (by omega) (by omega)) g.fh (fun F3 H3 g3 => ⟨g.trans g3, g3.off hF hA, g3.hh _ _ hA, none, rfl⟩) ?_ ?_
  · rintro N i x Fi σ' H' v F3 H3 hx e3 ⟨gi, hFi, hAi, t, rfl⟩ g3 iv k
    have hx1 : x = i + 1 ∧ i + 1 < ch.l.length := by
      have hl := (List.getElem?_eq_some_iff.mp hx).1
      rw [List.length_range'] at hl
      rw [List.getElem?_range' hl] at hx
      cases hx
      omega
    obtain ⟨rfl, hlt⟩ := hx1
    have i2 := Rep.mono (e3.trans g3.ff) i2
    have hx1 : ch.l[i + 1]? = some ch.l[i + 1] := List.getElem?_eq_getElem hlt
    have hx0 : ch.l[i + 1 - 1]? = some ch.l[i] := List.getElem?_eq_getElem (by omega)
    refine st_no (eb_test (ET.to (et_le (et_fst (et_ixS (et_var rfl i2) (et_var rfl iv) hx1)) (et_fst (et_ixS (et_var rfl i2) (et_subN (et_var rfl iv) (et_nat (n := 1)) (by omega)) hx0))) (decide_eq_false ?_))) g3.fh fun F4 H4 g4 => ?_
    · have := hc.up i _ _ hx0 hx1
      omega
    · exact k F4 _ H4 (g3.ff.trans g4.ff) g4.fh ⟨gi.trans (g3.trans g4), g4.off (g3.off hFi hAi) (g3.hh _ _ hAi), g4.hh _ _ (g3.hh _ _ hAi), _, rfl⟩
  rintro F3 σ' H3 e3 e4 ⟨g, hF, hA, t, rfl⟩
  have i1 := Rep.mono e3 i1
  have i2 := Rep.mono e3 i2
  refine st_fld (R := fun G v => Is G v (Tup.mk ch.l)) (et_tupS (et_var rfl i2)) g (by rfl) hA hF h0 T.cls_Book T.no_its_changes (by decide) fun u1 F5 H5 e5 g hF hA iu => ?_
  have i1 := Rep.mono e5 i1
  have i2 := Rep.mono e5 i2
  dsimp only
  refine st_fld (R := fun G v => Is G v (Tup.mk (f :: ch.l.map (·.2)))) ?h g rfl hA hF h0 T.cls_Book T.no_its_prices (by show 1 < 1000; decide) fun u2 F6 H6 e6 g hF hA iu2 => ?_
  case h =>
    exact ET.to (et_tup (eas_cons (et_var rfl i1) (eas_star (et_lcP (xs := ch.l) (p := fun _ => true) (f := (·.2)) (ei_sq rfl i2) (fun _ _ => rfl) (fun x hx F1 v u e i j => eb_yes)
      (fun x hx F1 v u e i j _ => et_var rfl j) (by omega)) eas_nil)) (by rw [filter_yes]; simp; omega)) (by rw [filter_yes, List.append_nil])
  exact q _ F6 H6 g hF hA ⟨u1, u2, rfl, Rep.mono e6 iu, iu2⟩
abbrev N_Book_len : List Str := ["self"]
theorem sc_Book_len : FnScope N_Book_len ["self"] (defScope s_Book_len) := ⟨rfl, rfl, rfl, by decide +kernel, rfl, by decide +kernel, by decide +kernel⟩
theorem ok_Book_len (T : Top K mg) : Met P w K mg base 1 (cBook K) "__len__" (spP (A := Bk (cBook K) × Unit) (fun _ => True) fun (b, _) => b.ps.length) := by
  obtain ⟨fd, Fd, me, b⟩ := T.f_Book_len
  refine met_of Fd T.cls_Book me b sc_Book_len rfl fun cdv Ar outer s H vs Q E hr F0 args e0 ha hp q => ?_
  have hu := hu_of hr
  refine ⟨_, (pss_one (ps_ret (pe_callB call_len_seq (by rfl) T.m_len (by decide +kernel) (pa_cons (pe_fld (pv 0) rfl) pa_nil)))), ?_⟩
  obtain ⟨v, ws, rfl, iv, rfl⟩ := ha
  exact st_ret (et_lenT (et_fldP (et_var rfl iv) T.cls_Book T.no_its_prices)) e0 q
abbrev N_Book_moments : List Str := ["self", "moment", "price"]
theorem sc_Book_moments : FnScope N_Book_moments ["self"] (defScope s_Book_moments) := ⟨rfl, rfl, rfl, by decide +kernel, rfl, by decide +kernel, by decide +kernel⟩
theorem ok_Book_moments (T : Top K mg) : Met P w K mg base 1 (cBook K) "moments" (spP (A := Bk (cBook K) × Unit) (fun (b, _) => b.ch.length ≤ 1000) fun (b, _) => b.ms) := by
  obtain ⟨fd, Fd, me, b⟩ := T.f_Book_moments
  refine met_of Fd T.cls_Book me b sc_Book_moments rfl fun cdv Ar outer s H vs Q E hr F0 args e0 ha hp q => ?_
  have hu := hu_of hr
  refine ⟨_, (pss_one (ps_ret (pe_lc (own := [("moment", 1), ("price", 2)]) rfl sc_Book_moments.nd (pi_tup (pe_fld (pv 0) rfl)) (blkOk_by (N := N_Book_moments) (sc := defScope s_Book_moments) (own := [("moment", 1), ("price", 2)]) (by decide +kernel)) (fun _ _ _ _ _ => (pg_tupK (K := K) (n := 2) (by rfl) (by rfl) (pgs_cons (pg_name (i := 1) sc_Book_moments.nd rfl (by first | exact Or.inl rfl | exact Or.inr rfl)) (pgs_cons (pg_name (i := 2) sc_Book_moments.nd rfl (by first | exact Or.inl rfl | exact Or.inr rfl)) pgs_nil)))) (fun _ _ _ _ _ => pts_nil) (fun _ _ _ _ _ => (pv 1))))), ?_⟩
  obtain ⟨v, ws, rfl, iv, rfl⟩ := ha
  obtain ⟨b, u⟩ := args
  have hp : b.ch.length ≤ 1000 := hp
  exact st_ret (ET.to (et_lcP (xs := b.ch) (p := fun _ => true) (f := (·.1)) (ei_tup (et_fldC (et_var rfl iv) T.cls_Book T.no_its_changes)) (fun _ _ => rfl) (fun x hx F1 v u e i j => eb_yes) (fun x hx F1 v u e i j _ => et_var rfl i) (by omega)) (by rw [filter_yes]; rfl)) e0 q
abbrev N_Book_prices : List Str := ["self"]
theorem sc_Book_prices : FnScope N_Book_prices ["self"] (defScope s_Book_prices) := ⟨rfl, rfl, rfl, by decide +kernel, rfl, by decide +kernel, by decide +kernel⟩
theorem ok_Book_prices (T : Top K mg) : Met P w K mg base 1 (cBook K) "prices" (spP (A := Bk (cBook K) × Unit) (fun _ => True) fun (b, _) => b.ps) := by
  obtain ⟨fd, Fd, me, b⟩ := T.f_Book_prices
  refine met_of Fd T.cls_Book me b sc_Book_prices rfl fun cdv Ar outer s H vs Q E hr F0 args e0 ha hp q => ?_
  have hu := hu_of hr
  refine ⟨_, (pss_one (ps_ret (pe_callTy call_list_of (by rfl) T.m_list (by decide +kernel) (pa_cons (pe_fld (pv 0) rfl) pa_nil)))), ?_⟩
  obtain ⟨v, ws, rfl, iv, rfl⟩ := ha
  exact st_ret (et_listT (et_fldP (et_var rfl iv) T.cls_Book T.no_its_prices)) e0 q

end
end LT
/-! ## W3 -/
set_option Elab.async false
set_option linter.all false
set_option maxRecDepth 100000
set_option maxHeartbeats 4000000
namespace LT
open PySem PySem.Spec PyProof.Rows L2
section
variable {P : Program} {w : World} {K : PySem.W.Frag} {mg : Str → Option Value} {base : Heap}
/-! ### Line -/
/-- told moments: none ahead of its own, none ahead of the one before -/
structure OkSent (ms told : List Int) : Prop where
  len : told.length = ms.length
  own : ∀ (i : Nat) m t, ms[i]? = some m → told[i]? = some t → m ≤ t
  up : ∀ (i : Nat) t u, told[i]? = some t → told[i + 1]? = some u → t ≤ u
abbrev BkK (K : PySem.W.Frag) := Bk (cBook K)
abbrev LnK (K : PySem.W.Frag) := Ln (cBook K) (cLine K)
structure OkBk {C : Addr} (b : Bk C) : Prop where
  first : 0 ≤ b.first
  ch : OkCh b.ch
abbrev N_Line_init : List Str := ["self", "book", "board", "sent", "moments", "told", "index", "moment"]
theorem sc_Line_init : FnScope N_Line_init ["self", "book", "board", "sent"] (defScope s_Line_init) := ⟨rfl, rfl, rfl, by decide +kernel, rfl, by decide +kernel, by decide +kernel⟩
theorem ok_Line_init (T : Top K mg) : Mak P w K mg base 5 "Line" (cLine K) (spMk (A := BkK K × (Int × Int) × List Int × Unit) (cLine K) (fun (b, bd, told, _) => OkBk b ∧ isBoard bd = true ∧ OkSent b.ms told) fun (b, bd, told, _) F2 fs => ∃ u w z, fs = [(("its_book" : Str), u), (("its_board" : Str), w), (("its_sent" : Str), z)] ∧ Is F2 u b ∧ Is F2 w bd ∧ Is F2 z (Tup.mk told)) := by
  obtain ⟨fd, Fd, b⟩ := T.f_Line_init
  refine ⟨_, fd, _, T.mkr_Line, Fd.ok sc_Line_init ?len ?body, T.g_Line, b⟩
  case len => exact fun vs H Q E h => spMk_len h
  case body =>
  intro cdv Ar outer s H vs Q E hr h
  refine nox_imp ?_
  have hu := hu_of hr
  refine ⟨_, (pss_cons (ps_if (pt_not (pt_val (pe_callB (C8.call_isC (T.insB T.cls_Book)) (by rfl) T.m_isinstance (by decide +kernel) (pa_cons (pv 1) (pa_cons (pe_glob (v := .ref (cBook K)) rfl T.g_Book rfl) pa_nil))))) (pss_one ps_never) pss_nil)
    (pss_cons (ps_if (pt_not (pt_val (pe_cal (ok_is_board T) hr (by decide) rfl (pa_cons (pv 2) pa_nil)))) (pss_one ps_never) pss_nil)
    (pss_cons (ps_if (PW.pt (pw_and (pt_cmp (pc_notN (pv 3))) (pw_and1 (pt_not (pt_val (pe_cal (ok_are_moments T) hr (by decide) rfl (pa_cons (pv 3) (pa_cons (pe_op op_sub (pe_callB (call_lenO (ok_Book_len T) hr (by decide)) (by rfl) T.m_len (by decide +kernel) (pa_cons (pv 1) pa_nil)) pe_int) pa_nil)))))))) (pss_one ps_never) pss_nil)
    (pss_cons (ps_set (i := 4) sc_Line_init.nd rfl (by first | exact Or.inl rfl | exact Or.inr rfl) (pe_met0 (ok_Book_moments T) hr (by decide) (pv 1)))
    (pss_cons (ps_set (i := 5) sc_Line_init.nd rfl (by first | exact Or.inl rfl | exact Or.inr rfl) (pe_ifExp (pt_cmp (pc_isN (pv 3))) (pv 4) (pe_callTy call_list_of (by rfl) T.m_list (by decide +kernel) (pa_cons (pv 3) pa_nil))))
    (pss_cons (ps_for PassesOwn.never rfl (pi_enum (by rfl) T.m_enumerate (pa_cons (pv 5) pa_nil)) (pg_tup rfl (pgs_cons (pg_name (i := 6) sc_Line_init.nd rfl (by first | exact Or.inl rfl | exact Or.inr rfl)) (pgs_cons (pg_name (i := 7) sc_Line_init.nd rfl (by first | exact Or.inl rfl | exact Or.inr rfl)) pgs_nil))) (pss_one (ps_if (PW.pt (pw_or (pt_cmpR op_lt (pv 7) (pe_ix ix_seq (pv 4) (pv 6) (fun _ _ => rfl)) (nomark _)) (pw_or1 (PW.pt (pw_and (pt_cmpR op_gt (pv 6) pe_int (nomark _)) (pw_and1 (pt_cmpR op_lt (pv 7) (pe_ix ix_seq (pv 5) (pe_op op_sub (pv 6) pe_int) (fun _ _ => rfl)) (nomark _)))))))) (pss_one ps_never) pss_nil)))
    (pss_one (ps_asg (pe_tup (pa_cons (pv 1) (pa_cons (pv 2) (pa_cons (pe_callTy call_tuple_of (by rfl) T.m_tuple (by decide +kernel) (pa_cons (pv 5) pa_nil)) pa_nil)))) (pg_tup rfl (pgs_cons (pg_fld (pv 0)) (pgs_cons (pg_fld (pv 0)) (pgs_cons (pg_fld (pv 0)) pgs_nil)))))))))))), ?_⟩
  obtain ⟨F, H0, args, a, dx, ws, rfl, g0, hF, h0, hA, ⟨v1, ws, rfl, i1, v2, ws2, rfl, i2, v3, ws3, rfl, i3, rfl⟩, hp, q⟩ := h
  obtain ⟨b, bd, told, u⟩ := args
  have hb : OkBk b := hp.1
  have hbd : isBoard bd = true := hp.2.1
  have hs : OkSent b.ms told := hp.2.2
  have hlen := hb.ch.len
  have hps : b.ps.length = b.ch.length + 1 := by unfold Bk.ps; simp
  have hms : b.ms.length = b.ch.length := by unfold Bk.ms; simp
  have htl := hs.len
  refine st_no (eb_not (b := true) (eb_B (isC_bk (et_var rfl i1)))) g0.fh fun F1 H1 g1 => ?_
  have g := g0.trans g1
  have hF := g1.off hF hA
  have hA := g1.hh _ _ hA
  have i1 := Rep.mono g1.ff i1
  have i2 := Rep.mono g1.ff i2
  have i3 := Rep.mono g1.ff i3
  refine st_no (eb_not (b := true) (eb_B (ET.to (et_call (args := (bd, ())) (ea1 (et_var rfl i2)) trivial) hbd))) g.fh fun F1 H1 g1 => ?_
  have g := g.trans g1
  have hF := g1.off hF hA
  have hA := g1.hh _ _ hA
  have i1 := Rep.mono g1.ff i1
  have i2 := Rep.mono g1.ff i2
  have i3 := Rep.mono g1.ff i3
  refine st_no (ET_and_no (er_notN (R := fun G v => Is G v told) (et_var rfl i3) (fun _ _ h => list_not_none h)) (eb_not (b := true) (eb_B (ET.to (et_call (args := (told, b.ps.length - 1, ())) (ea2 (et_var rfl i3) (et_subN (et_lenM (f := fun x => x.1.ps.length) (et_var rfl i1) (by show b.ps.length ≤ _; omega)) (et_nat (n := 1)) (by omega))) (show told.length ≤ 50000 by omega)) (decide_eq_true (by omega)))))) g.fh fun F1 H1 g1 => ?_
  have g := g.trans g1
  have hF := g1.off hF hA
  have hA := g1.hh _ _ hA
  have i1 := Rep.mono g1.ff i1
  have i2 := Rep.mono g1.ff i2
  have i3 := Rep.mono g1.ff i3
  refine st_set (et_meth (m := "moments") (args := ()) (et_var rfl i1) ea_nil (show b.ch.length ≤ 1000 from hlen) (by rfl)) g.fh fun v4 F1 H1 g1 i4 => ?_
  have i4 : Is F1 v4 b.ms := i4
  have g := g.trans g1
  have hF := g1.off hF hA
  have hA := g1.hh _ _ hA
  have i1 := Rep.mono g1.ff i1
  have i2 := Rep.mono g1.ff i2
  have i3 := Rep.mono g1.ff i3
  refine st_set (R := fun G v => Is G v told) (et_if (b := false) (eb_B (er_isN (R := fun G v => Is G v told) (et_var rfl i3) (fun _ _ h => list_not_none h))) (fun z => by cases z) fun _ => et_list (et_var rfl i3)) g.fh fun v5 F1 H1 g1 i5 => ?_
  have g := g.trans g1
  have hF := g1.off hF hA
  have hA := g1.hh _ _ hA
  have i1 := Rep.mono g1.ff i1
  have i2 := Rep.mono g1.ff i2
  have i4 := Rep.mono g1.ff i4
  refine st_loop (xs := en told) (fun i Fi σ' H' => Grow F H0 Fi H' ∧ Fi a = none ∧ H' a = some (.ins (cLine K) dx []) ∧ ∃ t t', σ' = [some (.ref a), some v1, some v2, some v3, some v4, some v5, t, t'])
    (ei_enum (ea1 (et_var rfl i5))) g.fh (fun F3 H3 g3 => ⟨g.trans g3, g3.off hF hA, g3.hh _ _ hA, none, none, rfl⟩) ?_ ?_
  · rintro N i x Fi σ' H' v F3 H3 hx e3 ⟨gi, hFi, hAi, t, t', rfl⟩ g3 iv k
    obtain ⟨j, m⟩ := x
    obtain ⟨rfl, hx⟩ := en_get hx
    have i4 := Rep.mono (e3.trans g3.ff) i4
    have i5 := Rep.mono (e3.trans g3.ff) i5
    have hlt := (List.getElem?_eq_some_iff.mp hx).1
    have hxm : b.ms[j]? = some (b.ms[j]'(by omega)) := List.getElem?_eq_getElem _
    refine gt_pair g3.fh iv fun u1 u2 j1 j2 => ?_
    refine st_no (eb_or (a := false) (b := false) (eb_test (ET.to (et_lt (et_var rfl j2) (et_ixL (et_var rfl i4) (et_var rfl j1) hxm)) (decide_eq_false ?_))) fun _ =>
      (eb_and (a := decide (0 < j)) (b := false) (eb_test (et_gtN (et_var rfl j1) (et_nat (n := 0)))) fun hj => eb_test ?_).to (Bool.and_false _)) g3.fh fun F4 H4 g4 => ?_
    · have := hs.own j _ _ hxm hx
      omega
    · have hj : 0 < j := of_decide_eq_true hj
      have hx0 : told[j - 1]? = some (told[j - 1]'(by omega)) := List.getElem?_eq_getElem _
      refine ET.to (et_lt (et_var rfl j2) (et_ixL (et_var rfl i5) (et_subN (et_var rfl j1) (et_nat (n := 1)) hj) hx0)) (decide_eq_false ?_)
      have := hs.up (j - 1) _ m hx0 (by rw [show j - 1 + 1 = j by omega]; exact hx)
      omega
    · exact k F4 _ H4 (g3.ff.trans g4.ff) g4.fh ⟨gi.trans (g3.trans g4), g4.off (g3.off hFi hAi) (g3.hh _ _ hAi), g4.hh _ _ (g3.hh _ _ hAi), _, _, rfl⟩
  rintro F3 σ' H3 e3 e4 ⟨g, hF, hA, t, t', rfl⟩
  have i1 := Rep.mono e3 i1
  have i2 := Rep.mono e3 i2
  have i5 := Rep.mono e3 i5
  dsimp only [tAsg, tTup, tCons]
  refine et_var (α := BkK K) (i := 1) rfl i1 H3 e4 _ fun w1 F4 H4 g4 k1 => ?_
  have i2 := Rep.mono g4.ff i2
  have i5 := Rep.mono g4.ff i5
  refine et_var (α := Int × Int) (i := 2) rfl i2 H4 g4.fh _ fun w2 F5 H5 g5 k2 => ?_
  have k1 := Rep.mono g5.ff k1
  have i5 := Rep.mono g5.ff i5
  refine et_tupL (xs := told) (et_var rfl i5) H5 g5.fh _ fun w3 F6 H6 g6 k3 => ?_
  have k1 := Rep.mono g6.ff k1
  have k2 := Rep.mono g6.ff k2
  have g := g.trans (g4.trans (g5.trans g6))
  have hF6 : F6 a = none := (g4.trans (g5.trans g6)).off hF hA
  have hA6 := (g4.trans (g5.trans g6)).hh _ _ hA
  refine ⟨(by decide : 3 ≤ sizeLine), fun p hp => ?_⟩
  have g7 := g.trans (.new (o := .tup [w1, w2, w3]) g.fh hp)
  have e7 : Ex F6 (upd F6 p (.tup [w1, w2, w3])) := ex_upd (ex_none g.fh hp)
  have hne : a ≠ p := fun z => by rw [z, hp] at hA6; cases hA6
  have hA7 : upd H6 p (.tup [w1, w2, w3]) a = some (.ins (cLine K) dx []) := by rw [upd_ne hne]; exact hA6
  have hF7 : upd F6 p (.tup [w1, w2, w3]) a = none := by rw [upd_ne hne]; exact hF6
  refine ⟨p, [w1, w2, w3], rfl, SqT.of upd_same, rfl, w1, [w2, w3], rfl, ⟨.ref a, rfl, a, cLine K, dx, [], rfl, hA7, T.cls_Line, T.no_its_book, by decide, ?_⟩⟩
  refine ⟨w2, [w3], rfl, ⟨.ref a, rfl, a, cLine K, dx, _, rfl, upd_same, T.cls_Line, T.no_its_board, by show 1 < 1000; decide, ?_⟩⟩
  refine ⟨w3, [], rfl, ⟨.ref a, rfl, a, cLine K, dx, _, rfl, upd_same, T.cls_Line, T.no_its_sent, by show 2 < 1000; decide, rfl, ?_⟩⟩
  exact q _ _ _ (((g7.mut hF7 h0).mut hF7 h0).mut hF7 h0) hF7 upd_same ⟨w1, w2, w3, rfl, Rep.mono e7 k1, Rep.mono e7 k2, Rep.mono e7 k3⟩
abbrev N_Line_earliest : List Str := ["self", "moment"]
theorem sc_Line_earliest : FnScope N_Line_earliest ["self"] (defScope s_Line_earliest) := ⟨rfl, rfl, rfl, by decide +kernel, rfl, by decide +kernel, by decide +kernel⟩
theorem ok_Line_earliest (T : Top K mg) : Met P w K mg base 1 (cLine K) "earliest" (spP (A := LnK K × Unit) (fun (l, _) => l.sent.length ≤ 1000) fun (l, _) => l.sent.map fun m => m + l.board.1) := by
  obtain ⟨fd, Fd, me, b⟩ := T.f_Line_earliest
  refine met_of Fd T.cls_Line me b sc_Line_earliest rfl fun cdv Ar outer s H vs Q E hr F0 args e0 ha hp q => ?_
  have hu := hu_of hr
  refine ⟨_, (pss_one (ps_ret (pe_lc (own := [("moment", 1)]) rfl sc_Line_earliest.nd (pi_tup (pe_fld (pv 0) rfl)) (blkOk_by (N := N_Line_earliest) (sc := defScope s_Line_earliest) (own := [("moment", 1)]) (by decide +kernel)) (fun _ _ _ _ _ => (pg_name (i := 1) sc_Line_earliest.nd rfl (by first | exact Or.inl rfl | exact Or.inr rfl))) (fun _ _ _ _ _ => pts_nil) (fun _ _ _ _ _ => (pe_op op_add (pv 1) (pe_ix (ix_seqK (K := K) (by rfl)) (pe_fldK (K := K) (by rfl) (pv 0) (by rfl)) pe_int (fun _ _ => rfl))))))), ?_⟩
  obtain ⟨v, ws, rfl, iv, rfl⟩ := ha
  obtain ⟨l, u⟩ := args
  have hp : l.sent.length ≤ 1000 := hp
  exact st_ret (ET.to (et_lcN (xs := l.sent) (p := fun _ => true) (f := fun m => m + l.board.1) (ei_tup (et_fldS (et_var rfl iv) T.cls_Line T.no_its_sent)) (fun _ => rfl) (fun x hx F1 v e i => eb_yes)
    (fun x hx F1 v e i _ => et_add (et_var rfl i) (et_fst (et_fldB (et_var rfl (Rep.mono e iv)) T.cls_Line T.no_its_board))) (by omega)) (by rw [filter_yes])) e0 q
abbrev N_Line_latest : List Str := ["self", "moment"]
theorem sc_Line_latest : FnScope N_Line_latest ["self"] (defScope s_Line_latest) := ⟨rfl, rfl, rfl, by decide +kernel, rfl, by decide +kernel, by decide +kernel⟩
theorem ok_Line_latest (T : Top K mg) : Met P w K mg base 1 (cLine K) "latest" (spP (A := LnK K × Unit) (fun (l, _) => l.sent.length ≤ 1000) fun (l, _) => l.sent.map fun m => m + l.board.2) := by
  obtain ⟨fd, Fd, me, b⟩ := T.f_Line_latest
  refine met_of Fd T.cls_Line me b sc_Line_latest rfl fun cdv Ar outer s H vs Q E hr F0 args e0 ha hp q => ?_
  have hu := hu_of hr
  refine ⟨_, (pss_one (ps_ret (pe_lc (own := [("moment", 1)]) rfl sc_Line_latest.nd (pi_tup (pe_fld (pv 0) rfl)) (blkOk_by (N := N_Line_latest) (sc := defScope s_Line_latest) (own := [("moment", 1)]) (by decide +kernel)) (fun _ _ _ _ _ => (pg_name (i := 1) sc_Line_latest.nd rfl (by first | exact Or.inl rfl | exact Or.inr rfl))) (fun _ _ _ _ _ => pts_nil) (fun _ _ _ _ _ => (pe_op op_add (pv 1) (pe_ix (ix_seqK (K := K) (by rfl)) (pe_fldK (K := K) (by rfl) (pv 0) (by rfl)) pe_int (fun _ _ => rfl))))))), ?_⟩
  obtain ⟨v, ws, rfl, iv, rfl⟩ := ha
  obtain ⟨l, u⟩ := args
  have hp : l.sent.length ≤ 1000 := hp
  exact st_ret (ET.to (et_lcN (xs := l.sent) (p := fun _ => true) (f := fun m => m + l.board.2) (ei_tup (et_fldS (et_var rfl iv) T.cls_Line T.no_its_sent)) (fun _ => rfl) (fun x hx F1 v e i => eb_yes)
    (fun x hx F1 v e i _ => et_add (et_var rfl i) (et_snd (et_fldB (et_var rfl (Rep.mono e iv)) T.cls_Line T.no_its_board))) (by omega)) (by rw [filter_yes])) e0 q
/-- a course: each within its window, none ahead of the one before -/
structure OkCourse (sent : List Int) (bd : Int × Int) (c : List Int) : Prop where
  len : c.length = sent.length
  win : ∀ (i : Nat) s m, sent[i]? = some s → c[i]? = some m → s + bd.1 ≤ m ∧ m ≤ s + bd.2
  up : ∀ (i : Nat) t u, c[i]? = some t → c[i + 1]? = some u → t ≤ u
abbrev N_Line_is_course : List Str := ["self", "thing", "low", "one", "high", "other"]
theorem sc_Line_is_course : FnScope N_Line_is_course ["self", "thing"] (defScope s_Line_is_course) := ⟨rfl, rfl, rfl, by decide +kernel, rfl, by decide +kernel, by decide +kernel⟩
theorem ok_Line_is_course (T : Top K mg) : Met P w K mg base 3 (cLine K) "is_course" (spP (A := LnK K × List Int × Unit) (fun (l, c, _) => l.sent.length ≤ 1000 ∧ OkCourse l.sent l.board c) fun _ => true) := by
  obtain ⟨fd, Fd, me, b⟩ := T.f_Line_is_course
  refine met_of Fd T.cls_Line me b sc_Line_is_course rfl fun cdv Ar outer s H vs Q E hr F0 args e0 ha hp q => ?_
  have hu := hu_of hr
  refine ⟨_, (pss_cons (ps_if (PW.pt (pw_or (pt_not (pt_val (pe_callB call_isi (by rfl) T.m_isinstance (by decide +kernel) (pa_cons (pv 1) (pa_cons (pe_bltn (v := .ty "list") (u := .type "list") (by rfl) T.m_list (by decide +kernel) rfl) pa_nil))))) (pw_or1 (pt_not (pt_val (pe_cal (ok_are_moments T) hr (by decide) rfl (pa_cons (pv 1) (pa_cons (pe_callB call_len_seq (by rfl) T.m_len (by decide +kernel) (pa_cons (pe_fld (pv 0) rfl) pa_nil)) pa_nil)))))))) (pss_one (ps_ret pe_bl)) pss_nil)
    (pss_cons (ps_if (pt_not (pt_val (pe_callB (cr_all rfl) (by rfl) T.m_all (by decide +kernel) (pa_cons (pe_lc (own := [("low", 2), ("one", 3), ("high", 4)]) rfl sc_Line_is_course.nd (pi_zipS3 (by rfl) T.m_zip (pa_cons (pe_met0 (ok_Line_earliest T) hr (by decide) (pv 0)) (pa_cons (pv 1) (pa_cons (pe_met0 (ok_Line_latest T) hr (by decide) (pv 0)) pa_nil)))) (blkOk_by (N := N_Line_is_course) (sc := defScope s_Line_is_course) (own := [("low", 2), ("one", 3), ("high", 4)]) (by decide +kernel)) (fun _ _ _ _ _ => (pg_tupK (K := K) (n := 3) (by rfl) (by rfl) (pgs_cons (pg_name (i := 2) sc_Line_is_course.nd rfl (by first | exact Or.inl rfl | exact Or.inr rfl)) (pgs_cons (pg_name (i := 3) sc_Line_is_course.nd rfl (by first | exact Or.inl rfl | exact Or.inr rfl)) (pgs_cons (pg_name (i := 4) sc_Line_is_course.nd rfl (by first | exact Or.inl rfl | exact Or.inr rfl)) pgs_nil))))) (fun _ _ _ _ _ => pts_nil) (fun _ _ _ _ _ => (pe_chain op_le op_le (pv 2) (pv 3) (pv 4)))) pa_nil)))) (pss_one (ps_ret pe_bl)) pss_nil)
    (pss_one (ps_ret (pe_callB (cr_all rfl) (by rfl) T.m_all (by decide +kernel) (pa_cons (pe_lc (own := [("one", 3), ("other", 5)]) rfl sc_Line_is_course.nd (pi_zipS (by rfl) T.m_zip (pa_cons (pv 1) (pa_cons (pe_slice sl_list (pv 1) (po_some pe_int) po_none) pa_nil))) (blkOk_by (N := N_Line_is_course) (sc := defScope s_Line_is_course) (own := [("one", 3), ("other", 5)]) (by decide +kernel)) (fun _ _ _ _ _ => (pg_tupK (K := K) (n := 2) (by rfl) (by rfl) (pgs_cons (pg_name (i := 3) sc_Line_is_course.nd rfl (by first | exact Or.inl rfl | exact Or.inr rfl)) (pgs_cons (pg_name (i := 5) sc_Line_is_course.nd rfl (by first | exact Or.inl rfl | exact Or.inr rfl)) pgs_nil)))) (fun _ _ _ _ _ => pts_nil) (fun _ _ _ _ _ => (pe_cmpR op_le (pv 3) (pv 5) (nomark _)))) pa_nil)))))), ?_⟩
  obtain ⟨v, ws, rfl, iv, w, ws2, rfl, iw, rfl⟩ := ha
  obtain ⟨l, c, u⟩ := args
  have hl : l.sent.length ≤ 1000 := hp.1
  have hc : OkCourse l.sent l.board c := hp.2
  have hcl := hc.len
  refine st_no (eb_or (a := false) (b := false) (eb_not (b := true) (eb_B (isi_lst (b := true) (et_var rfl iw) (kit_ty (by decide +kernel))))) fun _ => eb_not (b := true) (eb_B (ET.to (et_call (args := (c, l.sent.length, ())) (ea2 (et_var rfl iw) (et_lenT (et_fldS (et_var rfl iv) T.cls_Line T.no_its_sent))) (show c.length ≤ 50000 by omega)) (decide_eq_true hcl)))) e0 fun F1 H1 g1 => ?_
  have iv := Rep.mono g1.ff iv
  have iw := Rep.mono g1.ff iw
  dsimp only [tNext, tSeq]
  refine st_no (eb_not (b := true) (eb_B ?x)) g1.fh fun F2 H2 g2 => ?_
  case x =>
    refine ET.to (et_all (et_lcT (xs := zip3 (l.sent.map fun m => m + l.board.1) c (l.sent.map fun m => m + l.board.2)) (p := fun _ => true) (f := fun t => decide (t.a ≤ t.b) && decide (t.b ≤ t.c))
      (ei_zip3 (ea_cons (et_meth (m := "earliest") (args := ()) (et_var rfl iv) ea_nil (show l.sent.length ≤ 1000 from hl) (by rfl)) (ea2 (et_var rfl iw) (et_meth (m := "latest") (args := ()) (et_var rfl iv) ea_nil (show l.sent.length ≤ 1000 from hl) (by rfl))))) (fun _ _ _ => rfl) (fun x hx F1 v u z e i j k => eb_yes)
      (fun x hx F1 v u z e i j k _ => et_leLe (et_var rfl i) (et_var rfl j) (et_var rfl k)) (by rw [zip3_len]; omega))) ?_
    rw [filter_yes, List.all_map]
    refine List.all_eq_true.mpr fun t ht => ?_
    obtain ⟨i, hi⟩ := List.getElem?_of_mem ht
    obtain ⟨ha, hb, hc2⟩ := zip3_get hi
    rw [List.getElem?_map] at ha hc2
    cases e : l.sent[i]? with
    | none => rw [e] at ha; cases ha
    | some s =>
      rw [e] at ha hc2
      have h1 := hc.win i s _ e hb
      have h2 : s + l.board.1 = t.a := Option.some.inj ha
      have h3 : s + l.board.2 = t.c := Option.some.inj hc2
      show (decide (t.a ≤ t.b) && decide (t.b ≤ t.c)) = true
      rw [Bool.and_eq_true, decide_eq_true_eq, decide_eq_true_eq]
      omega
  have iw := Rep.mono g2.ff iw
  refine st_ret (ET.to (et_all (et_lcP (xs := c.zip (c.drop 1)) (p := fun _ => true) (f := fun t => decide (t.1 ≤ t.2)) (ei_zipS (x := c) (y := c.drop 1) (ea2 (et_var rfl iw) (et_slFrom (n := 1) (et_var rfl iw) (et_nat (n := 1))))) (fun _ _ => rfl) (fun x hx F1 v u e i j => eb_yes)
      (fun x hx F1 v u e i j _ => et_le (et_var rfl i) (et_var rfl j)) (by rw [List.length_zip]; omega))) ?_) g2.fh fun v F3 H3 g3 i => q v F3 H3 (g1.trans (g2.trans g3)) i
  rw [filter_yes, List.all_map]
  refine List.all_eq_true.mpr fun t ht => ?_
  obtain ⟨i, hi⟩ := List.getElem?_of_mem ht
  obtain ⟨ha, hb⟩ := zip_get hi
  rw [List.getElem?_drop, Nat.add_comm] at hb
  exact decide_eq_true (hc.up i _ _ ha hb)

end
end LT
/-! ## W4 -/
set_option Elab.async false
set_option linter.all false
set_option maxRecDepth 100000
set_option maxHeartbeats 4000000
namespace LT
open PySem PySem.Spec PyProof.Rows L2
section
variable {P : Program} {w : World} {K : PySem.W.Frag} {mg : Str → Option Value} {base : Heap}
/-! ### plans -/
abbrev Pr := Int × Int
abbrev Pln := List Int × List Int
def bad (ps : List Int) : List (Nat × Nat) := (List.range ps.length).flatMap fun i => ((List.range ps.length).filter fun j => decide (ps.getD i 0 < ps.getD j 0)).map fun j => (i, j)
theorem mem_bad {ps : List Int} {c : Nat × Nat} : c ∈ bad ps ↔ c.1 < ps.length ∧ c.2 < ps.length ∧ ps.getD c.1 0 < ps.getD c.2 0 := by
  unfold bad
  rw [List.mem_flatMap]
  constructor
  · rintro ⟨i, hi, h⟩
    rw [List.mem_map] at h
    obtain ⟨j, hj, rfl⟩ := h
    rw [List.mem_filter] at hj
    exact ⟨List.mem_range.mp hi, List.mem_range.mp hj.1, of_decide_eq_true hj.2⟩
  · rintro ⟨h1, h2, h3⟩
    exact ⟨c.1, List.mem_range.mpr h1, List.mem_map.mpr ⟨c.2, List.mem_filter.mpr ⟨List.mem_range.mpr h2, decide_eq_true h3⟩, rfl⟩⟩
theorem flatMap_le {α β : Type} {G : α → List β} {M : Nat} : ∀ {xs : List α}, (∀ x ∈ xs, (G x).length ≤ M) → (xs.flatMap G).length ≤ xs.length * M
  | [], _ => by simp
  | x :: r, h => by
    have h1 := h x (List.mem_cons_self ..)
    have h2 := flatMap_le (xs := r) fun y hy => h y (List.mem_cons_of_mem _ hy)
    rw [List.flatMap_cons, List.length_append, List.length_cons, Nat.add_mul]
    omega
theorem bad_len {ps : List Int} (h : ps.length ≤ 8) : (bad ps).length ≤ 64 := by
  refine Nat.le_trans (flatMap_le (M := 8) fun i _ => ?_) ?_
  · rw [List.length_map]
    exact Nat.le_trans (List.length_filter_le _ _) (by rw [List.length_range]; exact h)
  · rw [List.length_range]
    omega
theorem getD_get {α : Type} {d : α} {xs : List α} {i : Nat} (h : i < xs.length) : xs[i]? = some (xs.getD i d) := by
  rw [List.getD_eq_getElem?_getD, List.getElem?_eq_getElem h]
  rfl
theorem Bk.ps_len {C : Addr} (b : Bk C) : b.ps.length = b.ch.length + 1 := by unfold Bk.ps; simp
abbrev N_lines_by : List Str := ["book", "label", "till", "plan"]
theorem sc_lines_by : FnScope N_lines_by ["book", "label", "till", "plan"] (defScope s_lines_by) := ⟨rfl, rfl, rfl, by decide +kernel, rfl, by decide +kernel, by decide +kernel⟩
theorem ok_lines_by (T : Top K mg) : Cal P w K mg base 7 "lines_by" (spP (A := BkK K × Pr × Pr × Pln × Unit) (fun (b, lb, tl, pl, _) => OkBk b ∧ isBoard lb = true ∧ isBoard tl = true ∧ OkSent b.ms pl.1 ∧ OkSent b.ms pl.2) fun (b, lb, tl, pl, _) => ((⟨b, lb, pl.1⟩, ⟨b, tl, pl.2⟩) : LnK K × LnK K)) := by
  obtain ⟨fd, Fd, b⟩ := T.f_lines_by
  refine cal_of Fd T.g_lines_by b sc_lines_by rfl fun cdv Ar outer s H vs Q E hr F0 args e0 ha hp q => ?_
  have hu := hu_of hr
  refine ⟨_, (pss_one (ps_ret (pe_tup (pa_cons (pe_mak (ok_Line_init T) hr (by decide) rfl (pa_cons (pv 0) (pa_cons (pv 1) (pa_cons (pe_ix ix_seq (pv 3) pe_int (fun _ _ => rfl)) pa_nil)))) (pa_cons (pe_mak (ok_Line_init T) hr (by decide) rfl (pa_cons (pv 0) (pa_cons (pv 2) (pa_cons (pe_ix ix_seq (pv 3) pe_int (fun _ _ => rfl)) pa_nil)))) pa_nil))))), ?_⟩
  obtain ⟨v1, ws, rfl, i1, v2, ws2, rfl, i2, v3, ws3, rfl, i3, v4, ws4, rfl, i4, rfl⟩ := ha
  obtain ⟨b, lb, tl, pl, u⟩ := args
  obtain ⟨hb, hl, ht, h1, h2⟩ : OkBk b ∧ isBoard lb = true ∧ isBoard tl = true ∧ OkSent b.ms pl.1 ∧ OkSent b.ms pl.2 := hp
  have mk : ∀ (bd : Pr) (t : List Int) (a dx : Addr) (fs : List (Str × V)) (F2 : Hp), F2 a = none → (∃ u w z, fs = [(("its_book" : Str), u), (("its_board" : Str), w), (("its_sent" : Str), z)] ∧ Is F2 u b ∧ Is F2 w bd ∧ Is F2 z (Tup.mk t)) → Is (upd F2 a (.ins (cLine K) dx fs)) (.ref a) (Ln.mk (D := cLine K) b bd t) := by
    rintro bd t a dx fs F2 hn ⟨u, w, z, rfl, j1, j2, j3⟩
    have e := ex_upd (o := .ins (cLine K) dx [(("its_book" : Str), u), (("its_board" : Str), w), (("its_sent" : Str), z)]) hn
    exact ⟨a, dx, u, w, z, rfl, upd_same, Rep.mono e j1, Rep.mono e j2, Rep.mono e j3⟩
  exact st_ret (et_pair (x := Ln.mk (D := cLine K) b lb pl.1) (y := Ln.mk (D := cLine K) b tl pl.2)
    (et_make (args := (b, lb, pl.1, ())) (ea_cons (et_var rfl i1) (ea2 (et_var rfl i2) (et_fst (et_var rfl i4)))) ⟨hb, hl, h1⟩ (mk lb pl.1))
    (et_make (args := (b, tl, pl.2, ())) (ea_cons (et_var rfl i1) (ea2 (et_var rfl i3) (et_snd (et_var rfl i4)))) ⟨hb, ht, h2⟩ (mk tl pl.2))) e0 q
abbrev N_bad_cells : List Str := ["book", "prices", "numbers", "one", "other"]
theorem sc_bad_cells : FnScope N_bad_cells ["book"] (defScope s_bad_cells) := ⟨rfl, rfl, rfl, by decide +kernel, rfl, by decide +kernel, by decide +kernel⟩
theorem ok_bad_cells (T : Top K mg) : Cal P w K mg base 2 "bad_cells" (spP (A := BkK K × Unit) (fun (b, _) => b.ch.length ≤ 7) fun (b, _) => bad b.ps) := by
  obtain ⟨fd, Fd, b⟩ := T.f_bad_cells
  refine cal_of Fd T.g_bad_cells b sc_bad_cells rfl fun cdv Ar outer s H vs Q E hr F0 args e0 ha hp q => ?_
  have hu := hu_of hr
  refine ⟨_, (pss_cons (ps_set (i := 1) sc_bad_cells.nd rfl (by first | exact Or.inl rfl | exact Or.inr rfl) (pe_met0 (ok_Book_prices T) hr (by decide) (pv 0)))
    (pss_cons (ps_set (i := 2) sc_bad_cells.nd rfl (by first | exact Or.inl rfl | exact Or.inr rfl) (pe_listRg rfl rfl T.m_list (prg_1 rfl T.m_range (pe_callB call_len_seq (by rfl) T.m_len (by decide +kernel) (pa_cons (pv 1) pa_nil)))))
    (pss_one (ps_ret (pe_lc2 (own := [("one", 3), ("other", 4)]) (vs1 := [4]) rfl sc_bad_cells.nd (pi_list (pv 2)) (blkOk_by (N := N_bad_cells) (sc := defScope s_bad_cells) (own := [("one", 3), ("other", 4)]) (by decide +kernel)) (by decide) (fun _ _ _ _ _ => (pg_name (i := 3) sc_bad_cells.nd rfl (by first | exact Or.inl rfl | exact Or.inr rfl))) (fun _ _ _ _ _ => pts_nil) (fun _ _ _ _ _ => (pi_listK (K := K) (by rfl) (pv 2))) (fun _ _ _ _ _ => (pg_name (i := 4) sc_bad_cells.nd rfl (by first | exact Or.inl rfl | exact Or.inr rfl))) (fun _ _ _ _ _ => (pts_one (pt_cmpR op_gt (pe_ix (ix_seqK (K := K) (by rfl)) (pv 1) (pv 4) (fun _ _ => rfl)) (pe_ix (ix_seqK (K := K) (by rfl)) (pv 1) (pv 3) (fun _ _ => rfl)) (nomark _)))) (fun _ _ _ _ _ => (pe_tup (pa_cons (pv 3) (pa_cons (pv 4) pa_nil))))))))), ?_⟩
  obtain ⟨v1, ws, rfl, i1, rfl⟩ := ha
  obtain ⟨b, u⟩ := args
  have hb : b.ch.length ≤ 7 := hp
  have hl := b.ps_len
  refine st_set (et_meth (m := "prices") (args := ()) (et_var rfl i1) ea_nil trivial (by rfl)) e0 fun v2 F1 H1 g1 i2 => ?_
  have i2 : Is F1 v2 b.ps := i2
  refine st_set (et_listRg (et_len (et_var rfl i2)) (by omega)) g1.fh fun v3 F2 H2 g2 i3 => ?_
  have i3 : Is F2 v3 (List.range b.ps.length) := i3
  have i2 := Rep.mono g2.ff i2
  dsimp only
  refine st_ret ?x g2.fh fun v F3 H3 g3 i => q v F3 H3 (g1.trans (g2.trans g3)) i
  refine et_lc2N (xs := List.range b.ps.length) (ys := fun _ => List.range b.ps.length) (p := fun i j => decide (b.ps.getD i 0 < b.ps.getD j 0)) (f := fun i j => (i, j)) (ei_list (et_var rfl i3)) (fun _ => rfl) (fun _ _ => rfl)
    (fun x hx F4 v e i => ei_list (et_var rfl (Rep.mono e i3))) (fun x hx y hy F4 v u e i j => eb_test (et_gt (et_ixL (et_var rfl (Rep.mono e i2)) (et_var rfl j) (getD_get (List.mem_range.mp hy))) (et_ixL (et_var rfl (Rep.mono e i2)) (et_var rfl i) (getD_get (List.mem_range.mp hx)))))
    (fun x hx y hy F4 v u e i j _ => et_pair (et_var rfl i) (et_var rfl j)) ?_
  have := bad_len (ps := b.ps) (by omega)
  unfold bad at this
  omega
/-- the label leaves a cell before the till comes to it -/
def LL (lb tl gp : Pr) (pl : Pln) (c : Nat × Nat) : Bool := !(decide (pl.1.length ≤ c.1) || decide (c.2 = 0)) && decide (pl.1.getD c.1 0 + lb.2 + gp.2 < pl.2.getD (c.2 - 1) 0 + tl.1)
def TL (lb tl gp : Pr) (pl : Pln) (c : Nat × Nat) : Bool := !(decide (c.1 = 0) || decide (pl.2.length ≤ c.2)) && decide (pl.2.getD c.2 0 + tl.2 < pl.1.getD (c.1 - 1) 0 + lb.1 + gp.1)
abbrev PlArgs := Pr × Pr × Pr × Pln × (Nat × Nat) × Unit
abbrev N_label_leaves : List Str := ["label", "till", "gap", "plan", "cell", "one", "other"]
theorem sc_label_leaves : FnScope N_label_leaves ["label", "till", "gap", "plan", "cell"] (defScope s_label_leaves) := ⟨rfl, rfl, rfl, by decide +kernel, rfl, by decide +kernel, by decide +kernel⟩
theorem ok_label_leaves (T : Top K mg) : Cal P w K mg base 1 "label_leaves" (spP (A := PlArgs) (fun (lb, tl, gp, pl, c, _) => c.1 ≤ pl.1.length ∧ c.2 ≤ pl.2.length) fun (lb, tl, gp, pl, c, _) => LL lb tl gp pl c) := by
  obtain ⟨fd, Fd, b⟩ := T.f_label_leaves
  refine cal_of Fd T.g_label_leaves b sc_label_leaves rfl fun cdv Ar outer s H vs Q E hr F0 args e0 ha hp q => ?_
  have hu := hu_of hr
  refine ⟨_, (pss_cons (ps_asg (pv 4) (pg_tup rfl (pgs_cons (pg_name (i := 5) sc_label_leaves.nd rfl (by first | exact Or.inl rfl | exact Or.inr rfl)) (pgs_cons (pg_name (i := 6) sc_label_leaves.nd rfl (by first | exact Or.inl rfl | exact Or.inr rfl)) pgs_nil))))
    (pss_cons (ps_if (PW.pt (pw_or (pt_cmpR op_ge (pv 5) (pe_callB call_len_seq (by rfl) T.m_len (by decide +kernel) (pa_cons (pe_ix ix_seq (pv 3) pe_int (fun _ _ => rfl)) pa_nil)) (nomark _)) (pw_or1 (pt_cmpR op_eq (pv 6) pe_int (nomark _))))) (pss_one (ps_ret pe_bl)) pss_nil)
    (pss_one (ps_ret (pe_cmpR op_gt (pe_op op_add (pe_ix ix_seq (pe_ix ix_seq (pv 3) pe_int (fun _ _ => rfl)) (pe_op op_sub (pv 6) pe_int) (fun _ _ => rfl)) (pe_ix ix_seq (pv 1) pe_int (fun _ _ => rfl))) (pe_op op_add (pe_op op_add (pe_ix ix_seq (pe_ix ix_seq (pv 3) pe_int (fun _ _ => rfl)) (pv 5) (fun _ _ => rfl)) (pe_ix ix_seq (pv 0) pe_int (fun _ _ => rfl))) (pe_ix ix_seq (pv 2) pe_int (fun _ _ => rfl))) (nomark _)))))), ?_⟩
  obtain ⟨v1, ws, rfl, i1, v2, ws2, rfl, i2, v3, ws3, rfl, i3, v4, ws4, rfl, i4, v5, ws5, rfl, i5, rfl⟩ := ha
  obtain ⟨lb, tl, gp, pl, c, u⟩ := args
  obtain ⟨hc1, hc2⟩ : c.1 ≤ pl.1.length ∧ c.2 ≤ pl.2.length := hp
  have q : ∀ v F2 H2, Grow F0 H F2 H2 → Is F2 v (LL lb tl gp pl c) → Q v H2 := q
  refine st_unpack (et_var rfl i5) e0 fun u w F1 H1 g1 j1 j2 => ?_
  have i1 := Rep.mono g1.ff i1
  have i2 := Rep.mono g1.ff i2
  have i3 := Rep.mono g1.ff i3
  have i4 := Rep.mono g1.ff i4
  dsimp only [tSeq]
  refine st_if (b := decide (pl.1.length ≤ c.1) || decide (c.2 = 0)) (eb_or (eb_test (et_geN (et_var rfl j1) (et_len (et_fst (et_var rfl i4))))) fun _ => eb_test (et_eqN (et_var rfl j2) (et_nat (n := 0)))) g1.fh (fun hb F2 H2 g2 => ?_) fun hb F2 H2 g2 => ?_
  · exact st_ret et_bl g2.fh fun v F3 H3 g3 i => q v F3 H3 (g1.trans (g2.trans g3)) (by
      unfold LL
      rw [hb]
      exact i)
  · have i1 := Rep.mono g2.ff i1
    have i2 := Rep.mono g2.ff i2
    have i3 := Rep.mono g2.ff i3
    have i4 := Rep.mono g2.ff i4
    have j1 := Rep.mono g2.ff j1
    have j2 := Rep.mono g2.ff j2
    have hb2 := Bool.or_eq_false_iff.mp hb
    have hx1 : c.1 < pl.1.length := by have := of_decide_eq_false hb2.1; omega
    have hx2 : ¬ c.2 = 0 := of_decide_eq_false hb2.2
    exact st_ret (et_gt (et_add (et_ixL (et_snd (et_var rfl i4)) (et_subN (i := c.2) (j := 1) (et_var rfl j2) et_nat (by omega)) (getD_get (show c.2 - 1 < pl.2.length by omega))) (et_fst (et_var rfl i2))) (et_add (et_add (et_ixL (et_fst (et_var rfl i4)) (et_var rfl j1) (getD_get hx1)) (et_snd (et_var rfl i1))) (et_snd (et_var rfl i3)))) g2.fh
      fun v F3 H3 g3 i => q v F3 H3 (g1.trans (g2.trans g3)) (by
      unfold LL
      rw [hb]
      exact i)
abbrev N_till_leaves : List Str := ["label", "till", "gap", "plan", "cell", "one", "other"]
theorem sc_till_leaves : FnScope N_till_leaves ["label", "till", "gap", "plan", "cell"] (defScope s_till_leaves) := ⟨rfl, rfl, rfl, by decide +kernel, rfl, by decide +kernel, by decide +kernel⟩
theorem ok_till_leaves (T : Top K mg) : Cal P w K mg base 1 "till_leaves" (spP (A := PlArgs) (fun (lb, tl, gp, pl, c, _) => c.1 ≤ pl.1.length ∧ c.2 ≤ pl.2.length) fun (lb, tl, gp, pl, c, _) => TL lb tl gp pl c) := by
  obtain ⟨fd, Fd, b⟩ := T.f_till_leaves
  refine cal_of Fd T.g_till_leaves b sc_till_leaves rfl fun cdv Ar outer s H vs Q E hr F0 args e0 ha hp q => ?_
  have hu := hu_of hr
  refine ⟨_, (pss_cons (ps_asg (pv 4) (pg_tup rfl (pgs_cons (pg_name (i := 5) sc_till_leaves.nd rfl (by first | exact Or.inl rfl | exact Or.inr rfl)) (pgs_cons (pg_name (i := 6) sc_till_leaves.nd rfl (by first | exact Or.inl rfl | exact Or.inr rfl)) pgs_nil))))
    (pss_cons (ps_if (PW.pt (pw_or (pt_cmpR op_eq (pv 5) pe_int (nomark _)) (pw_or1 (pt_cmpR op_ge (pv 6) (pe_callB call_len_seq (by rfl) T.m_len (by decide +kernel) (pa_cons (pe_ix ix_seq (pv 3) pe_int (fun _ _ => rfl)) pa_nil)) (nomark _))))) (pss_one (ps_ret pe_bl)) pss_nil)
    (pss_one (ps_ret (pe_cmpR op_gt (pe_op op_add (pe_op op_add (pe_ix ix_seq (pe_ix ix_seq (pv 3) pe_int (fun _ _ => rfl)) (pe_op op_sub (pv 5) pe_int) (fun _ _ => rfl)) (pe_ix ix_seq (pv 0) pe_int (fun _ _ => rfl))) (pe_ix ix_seq (pv 2) pe_int (fun _ _ => rfl))) (pe_op op_add (pe_ix ix_seq (pe_ix ix_seq (pv 3) pe_int (fun _ _ => rfl)) (pv 6) (fun _ _ => rfl)) (pe_ix ix_seq (pv 1) pe_int (fun _ _ => rfl))) (nomark _)))))), ?_⟩
  obtain ⟨v1, ws, rfl, i1, v2, ws2, rfl, i2, v3, ws3, rfl, i3, v4, ws4, rfl, i4, v5, ws5, rfl, i5, rfl⟩ := ha
  obtain ⟨lb, tl, gp, pl, c, u⟩ := args
  obtain ⟨hc1, hc2⟩ : c.1 ≤ pl.1.length ∧ c.2 ≤ pl.2.length := hp
  have q : ∀ v F2 H2, Grow F0 H F2 H2 → Is F2 v (TL lb tl gp pl c) → Q v H2 := q
  refine st_unpack (et_var rfl i5) e0 fun u w F1 H1 g1 j1 j2 => ?_
  have i1 := Rep.mono g1.ff i1
  have i2 := Rep.mono g1.ff i2
  have i3 := Rep.mono g1.ff i3
  have i4 := Rep.mono g1.ff i4
  dsimp only [tSeq]
  refine st_if (b := decide (c.1 = 0) || decide (pl.2.length ≤ c.2)) (eb_or (eb_test (et_eqN (et_var rfl j1) (et_nat (n := 0)))) fun _ => eb_test (et_geN (et_var rfl j2) (et_len (et_snd (et_var rfl i4))))) g1.fh (fun hb F2 H2 g2 => ?_) fun hb F2 H2 g2 => ?_
  · exact st_ret et_bl g2.fh fun v F3 H3 g3 i => q v F3 H3 (g1.trans (g2.trans g3)) (by
      unfold TL
      rw [hb]
      exact i)
  · have i1 := Rep.mono g2.ff i1
    have i2 := Rep.mono g2.ff i2
    have i3 := Rep.mono g2.ff i3
    have i4 := Rep.mono g2.ff i4
    have j1 := Rep.mono g2.ff j1
    have j2 := Rep.mono g2.ff j2
    have hb2 := Bool.or_eq_false_iff.mp hb
    have hx1 : c.2 < pl.2.length := by have := of_decide_eq_false hb2.2; omega
    have hx2 : ¬ c.1 = 0 := of_decide_eq_false hb2.1
    exact st_ret (et_gt (et_add (et_add (et_ixL (et_fst (et_var rfl i4)) (et_subN (i := c.1) (j := 1) (et_var rfl j1) et_nat (by omega)) (getD_get (show c.1 - 1 < pl.1.length by omega))) (et_fst (et_var rfl i1))) (et_fst (et_var rfl i3))) (et_add (et_ixL (et_snd (et_var rfl i4)) (et_var rfl j2) (getD_get hx1)) (et_snd (et_var rfl i2)))) g2.fh
      fun v F3 H3 g3 i => q v F3 H3 (g1.trans (g2.trans g3)) (by
      unfold TL
      rw [hb]
      exact i)
def meet (lb tl gp : Pr) (pl : Pln) (c : Nat × Nat) : Bool := !LL lb tl gp pl c && !TL lb tl gp pl c
abbrev N_can_meet : List Str := ["label", "till", "gap", "plan", "cell"]
theorem sc_can_meet : FnScope N_can_meet ["label", "till", "gap", "plan", "cell"] (defScope s_can_meet) := ⟨rfl, rfl, rfl, by decide +kernel, rfl, by decide +kernel, by decide +kernel⟩
theorem ok_can_meet (T : Top K mg) : Cal P w K mg base 2 "can_meet" (spP (A := PlArgs) (fun (lb, tl, gp, pl, c, _) => c.1 ≤ pl.1.length ∧ c.2 ≤ pl.2.length) fun (lb, tl, gp, pl, c, _) => meet lb tl gp pl c) := by
  obtain ⟨fd, Fd, b⟩ := T.f_can_meet
  refine cal_of Fd T.g_can_meet b sc_can_meet rfl fun cdv Ar outer s H vs Q E hr F0 args e0 ha hp q => ?_
  have hu := hu_of hr
  refine ⟨_, (pss_one (ps_ret (pe_and (pe_not (pe_cal (ok_label_leaves T) hr (by decide) rfl (pa_cons (pv 0) (pa_cons (pv 1) (pa_cons (pv 2) (pa_cons (pv 3) (pa_cons (pv 4) pa_nil))))))) (pe_one (pe_not (pe_cal (ok_till_leaves T) hr (by decide) rfl (pa_cons (pv 0) (pa_cons (pv 1) (pa_cons (pv 2) (pa_cons (pv 3) (pa_cons (pv 4) pa_nil))))))))))), ?_⟩
  obtain ⟨v1, ws, rfl, i1, v2, ws2, rfl, i2, v3, ws3, rfl, i3, v4, ws4, rfl, i4, v5, ws5, rfl, i5, rfl⟩ := ha
  obtain ⟨lb, tl, gp, pl, c, u⟩ := args
  have ha : EA (tCons (tVar 0) (tCons (tVar 1) (tCons (tVar 2) (tCons (tVar 3) (tCons (tVar 4) tNil))))) (L2.start N_can_meet [v1, v2, v3, v4, v5]) F0 ((lb, tl, gp, pl, c, ()) : PlArgs) := ea_cons (et_var rfl i1) (ea_cons (et_var rfl i2) (ea_cons (et_var rfl i3) (ea2 (et_var rfl i4) (et_var rfl i5))))
  exact st_ret (et_andV (et_notV (et_call ha hp)) fun _ => et_notV (et_call ha hp)) e0 q
def looked (lb : Pr) (pl : Pln) (c : Nat × Nat) : List Int := if decide (0 < c.1) = true then [pl.1.getD (c.1 - 1) 0 + lb.1] else []
def paid (tl : Pr) (pl : Pln) (c : Nat × Nat) : List Int := if decide (0 < c.2) = true then [pl.2.getD (c.2 - 1) 0 + tl.1] else []
theorem looked_len {lb : Pr} {pl : Pln} {c : Nat × Nat} : (looked lb pl c).length ≤ 1 := by unfold looked; split <;> simp
theorem paid_len {lb : Pr} {pl : Pln} {c : Nat × Nat} : (paid lb pl c).length ≤ 1 := by unfold paid; split <;> simp
theorem filter_yes_len {α : Type} (xs : List α) : (xs.filter fun _ => true).length = xs.length := by rw [filter_yes]
abbrev N_moments_at : List Str := ["label", "till", "gap", "plan", "cell", "one", "other", "looked", "paid", "first", "moment"]
theorem sc_moments_at : FnScope N_moments_at ["label", "till", "gap", "plan", "cell"] (defScope s_moments_at) := ⟨rfl, rfl, rfl, by decide +kernel, rfl, by decide +kernel, by decide +kernel⟩
theorem ok_moments_at (T : Top K mg) : Cal P w K mg base 1 "moments_at" (spR (A := PlArgs) (fun (lb, tl, gp, pl, c, _) => c.1 ≤ pl.1.length ∧ c.2 ≤ pl.2.length ∧ (0 < c.1 ∨ 0 < c.2)) fun _ F2 v => ∃ x : Int × Int, Is F2 v x) := by
  obtain ⟨fd, Fd, b⟩ := T.f_moments_at
  refine cal_of Fd T.g_moments_at b sc_moments_at rfl fun cdv Ar outer s H vs Q E hr F0 args e0 ha hp q => ?_
  have hu := hu_of hr
  refine ⟨_, (pss_cons (ps_asg (pv 4) (pg_tup rfl (pgs_cons (pg_name (i := 5) sc_moments_at.nd rfl (by first | exact Or.inl rfl | exact Or.inr rfl)) (pgs_cons (pg_name (i := 6) sc_moments_at.nd rfl (by first | exact Or.inl rfl | exact Or.inr rfl)) pgs_nil))))
    (pss_cons (ps_set (i := 7) sc_moments_at.nd rfl (by first | exact Or.inl rfl | exact Or.inr rfl) (pe_ifExp (pt_cmpR op_gt (pv 5) pe_int (nomark _)) (pe_lst (pa_cons (pe_op op_add (pe_ix ix_seq (pe_ix ix_seq (pv 3) pe_int (fun _ _ => rfl)) (pe_op op_sub (pv 5) pe_int) (fun _ _ => rfl)) (pe_ix ix_seq (pv 0) pe_int (fun _ _ => rfl))) pa_nil)) (pe_lst pa_nil)))
    (pss_cons (ps_set (i := 8) sc_moments_at.nd rfl (by first | exact Or.inl rfl | exact Or.inr rfl) (pe_ifExp (pt_cmpR op_gt (pv 6) pe_int (nomark _)) (pe_lst (pa_cons (pe_op op_add (pe_ix ix_seq (pe_ix ix_seq (pv 3) pe_int (fun _ _ => rfl)) (pe_op op_sub (pv 6) pe_int) (fun _ _ => rfl)) (pe_ix ix_seq (pv 1) pe_int (fun _ _ => rfl))) pa_nil)) (pe_lst pa_nil)))
    (pss_cons (ps_set (i := 9) sc_moments_at.nd rfl (by first | exact Or.inl rfl | exact Or.inr rfl) (pe_callB (cr_max rfl) (by rfl) T.m_max (by decide +kernel) (pa_cons (pe_op op_cat (pv 7) (pe_lc (own := [("moment", 10)]) rfl sc_moments_at.nd (pi_list (pv 8)) (blkOk_by (N := N_moments_at) (sc := defScope s_moments_at) (own := [("moment", 10)]) (by decide +kernel)) (fun _ _ _ _ _ => (pg_name (i := 10) sc_moments_at.nd rfl (by first | exact Or.inl rfl | exact Or.inr rfl))) (fun _ _ _ _ _ => pts_nil) (fun _ _ _ _ _ => (pe_op op_sub (pv 10) (pe_ix (ix_seqK (K := K) (by rfl)) (pv 2) pe_int (fun _ _ => rfl)))))) pa_nil)))
    (pss_one (ps_ret (pe_tup (pa_cons (pv 9) (pa_cons (pe_callB (cr_max rfl) (by rfl) T.m_max (by decide +kernel) (pa_cons (pe_lst (pa_cons (pe_op op_add (pv 9) (pe_ix ix_seq (pv 2) pe_int (fun _ _ => rfl))) (StX.pa_star (pv 8) pa_nil))) pa_nil)) pa_nil))))))))), ?_⟩
  obtain ⟨v1, ws, rfl, i1, v2, ws2, rfl, i2, v3, ws3, rfl, i3, v4, ws4, rfl, i4, v5, ws5, rfl, i5, rfl⟩ := ha
  obtain ⟨lb, tl, gp, pl, c, u⟩ := args
  obtain ⟨hc1, hc2, hc0⟩ : c.1 ≤ pl.1.length ∧ c.2 ≤ pl.2.length ∧ (0 < c.1 ∨ 0 < c.2) := hp
  have q : ∀ v F2 H2, Grow F0 H F2 H2 → (∃ x : Int × Int, Is F2 v x) → Q v H2 := q
  refine st_unpack (et_var rfl i5) e0 fun u w F1 H1 g1 j1 j2 => ?_
  have i1 := Rep.mono g1.ff i1
  have i2 := Rep.mono g1.ff i2
  have i3 := Rep.mono g1.ff i3
  have i4 := Rep.mono g1.ff i4
  dsimp only [tSeq]
  refine st_set (R := fun G v => Is G v (looked lb pl c)) ?x g1.fh fun v6 F2 H2 g2 i6 => ?_
  case x =>
    exact et_if2 (eb_test (et_gtN (et_var rfl j1) (et_nat (n := 0)))) (fun h => et_lst (eas_cons (et_add (et_ixL (et_fst (et_var rfl i4)) (et_subN (i := c.1) (j := 1) (et_var rfl j1) et_nat (of_decide_eq_true h)) (getD_get (show c.1 - 1 < pl.1.length by have : 0 < c.1 := of_decide_eq_true h; omega))) (et_fst (et_var rfl i1))) eas_nil) (by simp)) fun _ => et_lst eas_nil (by simp)
  have i2 := Rep.mono g2.ff i2
  have i3 := Rep.mono g2.ff i3
  have i4 := Rep.mono g2.ff i4
  have j2 := Rep.mono g2.ff j2
  dsimp only [tSeq]
  refine st_set (R := fun G v => Is G v (paid tl pl c)) ?x g2.fh fun v7 F3 H3 g3 i7 => ?_
  case x =>
    exact et_if2 (eb_test (et_gtN (et_var rfl j2) (et_nat (n := 0)))) (fun h => et_lst (eas_cons (et_add (et_ixL (et_snd (et_var rfl i4)) (et_subN (i := c.2) (j := 1) (et_var rfl j2) et_nat (of_decide_eq_true h)) (getD_get (show c.2 - 1 < pl.2.length by have : 0 < c.2 := of_decide_eq_true h; omega))) (et_fst (et_var rfl i2))) eas_nil) (by simp)) fun _ => et_lst eas_nil (by simp)
  have i3 := Rep.mono g3.ff i3
  have i6 := Rep.mono g3.ff i6
  have hl1 := looked_len (lb := lb) (pl := pl) (c := c)
  have hl2 := paid_len (lb := tl) (pl := pl) (c := c)
  have hne : ∃ y ys, looked lb pl c ++ ((paid tl pl c).filter fun _ => true).map (fun m => m - gp.2) = y :: ys := by
    rw [filter_yes]
    cases e : looked lb pl c with
    | cons a r => exact ⟨a, _, rfl⟩
    | nil =>
      have h1 : 0 < c.2 := by
        rcases hc0 with h | h
        · unfold looked at e
          rw [if_pos (decide_eq_true h)] at e
          cases e
        · exact h
      unfold paid
      rw [if_pos (decide_eq_true h1)]
      exact ⟨_, _, rfl⟩
  obtain ⟨y, ys, hy⟩ := hne
  dsimp only [tSeq]
  refine st_set (R := fun G v => Is G v (mx y ys)) ?x g3.fh fun v8 F4 H4 g4 i8 => ?_
  case x =>
    refine et_max (ET.to (et_cat (et_var rfl i6) (et_lcN (xs := paid tl pl c) (p := fun _ => true) (f := fun m => m - gp.2) (ei_list (et_var rfl i7)) (fun _ => rfl) (fun x hx F1 v e i => eb_yes) (fun x hx F1 v e i _ => et_sub (et_var rfl i) (et_snd (et_var rfl (Rep.mono e i3)))) (by omega)) ?_) hy)
    rw [List.length_map, filter_yes_len]
    omega
  have i3 := Rep.mono g4.ff i3
  have i7 := Rep.mono g4.ff i7
  dsimp only [tSeq]
  exact st_ret (et_pair (et_var rfl i8) (et_max (et_lst (eas_cons (et_add (et_var rfl i8) (et_fst (et_var rfl i3))) (eas_star (et_var rfl i7) eas_nil)) (by simp; omega)))) g4.fh fun v F5 H5 g5 i => q v F5 H5 (g1.trans (g2.trans (g3.trans (g4.trans g5)))) ⟨_, i⟩
def someMeet (ps : List Int) (lb tl gp : Pr) (pl : Pln) : Bool := (bad ps).any (meet lb tl gp pl)
abbrev HmArgs (K : PySem.W.Frag) := BkK K × Pr × Pr × Pr × Pln × Unit
abbrev N_harm : List Str := ["book", "label", "till", "gap", "plan", "cell"]
theorem sc_harm : FnScope N_harm ["book", "label", "till", "gap", "plan"] (defScope s_harm) := ⟨rfl, rfl, rfl, by decide +kernel, rfl, by decide +kernel, by decide +kernel⟩
theorem ok_harm (T : Top K mg) : Cal P w K mg base 3 "harm" (spR (A := HmArgs K) (fun (b, lb, tl, gp, pl, _) => b.ch.length ≤ 7 ∧ pl.1.length = b.ch.length ∧ pl.2.length = b.ch.length) fun (b, lb, tl, gp, pl, _) _ v => decide (v = .non) = !someMeet b.ps lb tl gp pl) := by
  obtain ⟨fd, Fd, b⟩ := T.f_harm
  refine cal_of Fd T.g_harm b sc_harm rfl fun cdv Ar outer s H vs Q E hr F0 args e0 ha hp q => ?_
  have hu := hu_of hr
  refine ⟨_, (pss_cons (ps_for PassesOwn.never rfl (pi_list (pe_cal (ok_bad_cells T) hr (by decide) rfl (pa_cons (pv 0) pa_nil))) (pg_name (i := 5) sc_harm.nd rfl (by first | exact Or.inl rfl | exact Or.inr rfl)) (pss_one (ps_if (pt_val (pe_cal (ok_can_meet T) hr (by decide) rfl (pa_cons (pv 1) (pa_cons (pv 2) (pa_cons (pv 3) (pa_cons (pv 4) (pa_cons (pv 5) pa_nil))))))) (pss_one (ps_ret (pe_tup (pa_cons (pv 5) (pa_cons (pe_cal (ok_moments_at T) hr (by decide) rfl (pa_cons (pv 1) (pa_cons (pv 2) (pa_cons (pv 3) (pa_cons (pv 4) (pa_cons (pv 5) pa_nil)))))) pa_nil))))) pss_nil)))
    (pss_one (ps_ret pe_non))), ?_⟩
  obtain ⟨v1, ws, rfl, i1, v2, ws2, rfl, i2, v3, ws3, rfl, i3, v4, ws4, rfl, i4, v5, ws5, rfl, i5, rfl⟩ := ha
  obtain ⟨b, lb, tl, gp, pl, u⟩ := args
  obtain ⟨hb, hp1, hp2⟩ : b.ch.length ≤ 7 ∧ pl.1.length = b.ch.length ∧ pl.2.length = b.ch.length := hp
  have hl := b.ps_len
  have q : ∀ v F2 H2, Grow F0 H F2 H2 → decide (v = .non) = !someMeet b.ps lb tl gp pl → Q v H2 := q
  refine st_loop (xs := bad b.ps) (fun i Fi σ' H' => Grow F0 H Fi H' ∧ (∀ j c, j < i → (bad b.ps)[j]? = some c → meet lb tl gp pl c = false) ∧ ∃ t, σ' = [some v1, some v2, some v3, some v4, some v5, t])
    (ei_list (et_call (args := (b, ())) (ea1 (et_var rfl i1)) hb)) e0 (fun F3 H3 g3 => ⟨g3, fun j c h => absurd h (Nat.not_lt_zero _), none, rfl⟩) ?_ ?_
  · rintro N i x Fi σ' H' v F3 H3 hx e3 ⟨gi, hj, t, rfl⟩ g3 iv k
    have i2 := Rep.mono (e3.trans g3.ff) i2
    have i3 := Rep.mono (e3.trans g3.ff) i3
    have i4 := Rep.mono (e3.trans g3.ff) i4
    have i5 := Rep.mono (e3.trans g3.ff) i5
    have hm := mem_bad.mp (List.mem_of_getElem? hx)
    have hc : x.1 ≤ pl.1.length ∧ x.2 ≤ pl.2.length := by omega
    have h0 : 0 < x.1 ∨ 0 < x.2 := by
      by_cases h1 : x.1 = 0
      · by_cases h2 : x.2 = 0
        · have := hm.2.2
          rw [h1, h2] at this
          omega
        · omega
      · omega
    have ha : EA (tCons (tVar 1) (tCons (tVar 2) (tCons (tVar 3) (tCons (tVar 4) (tCons (tVar 5) tNil))))) [some v1, some v2, some v3, some v4, some v5, some v] F3 ((lb, tl, gp, pl, x, ()) : PlArgs) := ea_cons (et_var rfl i2) (ea_cons (et_var rfl i3) (ea_cons (et_var rfl i4) (ea2 (et_var rfl i5) (et_var rfl iv))))
    refine st_if (b := meet lb tl gp pl x) (eb_B (et_call ha hc)) g3.fh (fun hb F4 H4 g4 => ?_) fun hb F4 H4 g4 => ?_
    · dsimp only [tRet, tTup, tCons]
      refine et_var (α := Nat × Nat) (i := 5) rfl (Rep.mono g4.ff iv) H4 g4.fh _ fun w1 F5 H5 g5 k1 => ?_
      refine er_call (ha.mono (g4.ff.trans g5.ff)) ⟨hc.1, hc.2, h0⟩ H5 g5.fh _ fun w2 F6 H6 g6 ⟨y, k2⟩ => ?_
      refine ⟨(by decide : 2 ≤ sizeLine), fun p hp => ?_⟩
      refine q _ _ _ ((gi.trans (g3.trans (g4.trans (g5.trans g6)))).trans (.new (o := .tup [w1, w2]) g6.fh hp)) ?_
      have : someMeet b.ps lb tl gp pl = true := List.any_eq_true.mpr ⟨x, List.mem_of_getElem? hx, hb⟩
      rw [this]
      rfl
    · refine k F4 _ H4 (g3.ff.trans g4.ff) g4.fh ⟨gi.trans (g3.trans g4), fun j c h hjc => ?_, _, rfl⟩
      by_cases e : j = i
      · subst e
        rw [hx] at hjc
        cases hjc
        exact hb
      · exact hj j c (by omega) hjc
  rintro F3 σ' H3 e3 e4 ⟨g, hj, t, rfl⟩
  dsimp only
  refine st_ret et_non e4 fun v F4 H4 g4 i => q v F4 H4 (g.trans g4) ?_
  have : someMeet b.ps lb tl gp pl = false := by
    refine List.any_eq_false.mpr fun c hc => ?_
    obtain ⟨j, hjc⟩ := List.getElem?_of_mem hc
    rw [hj j c (List.getElem?_eq_some_iff.mp hjc).1 hjc]
    exact Bool.false_ne_true
  rw [this, show v = .non from i]
  rfl
abbrev N_is_safe : List Str := ["book", "label", "till", "gap", "plan"]
theorem sc_is_safe : FnScope N_is_safe ["book", "label", "till", "gap", "plan"] (defScope s_is_safe) := ⟨rfl, rfl, rfl, by decide +kernel, rfl, by decide +kernel, by decide +kernel⟩
theorem ok_is_safe (T : Top K mg) : Cal P w K mg base 4 "is_safe" (spP (A := HmArgs K) (fun (b, lb, tl, gp, pl, _) => b.ch.length ≤ 7 ∧ pl.1.length = b.ch.length ∧ pl.2.length = b.ch.length) fun (b, lb, tl, gp, pl, _) => !someMeet b.ps lb tl gp pl) := by
  obtain ⟨fd, Fd, b⟩ := T.f_is_safe
  refine cal_of Fd T.g_is_safe b sc_is_safe rfl fun cdv Ar outer s H vs Q E hr F0 args e0 ha hp q => ?_
  have hu := hu_of hr
  refine ⟨_, (pss_one (ps_ret (pe_cmp (pc_isN (pe_cal (ok_harm T) hr (by decide) rfl (pa_cons (pv 0) (pa_cons (pv 1) (pa_cons (pv 2) (pa_cons (pv 3) (pa_cons (pv 4) pa_nil))))))) rfl))), ?_⟩
  obtain ⟨v1, ws, rfl, i1, v2, ws2, rfl, i2, v3, ws3, rfl, i3, v4, ws4, rfl, i4, v5, ws5, rfl, i5, rfl⟩ := ha
  obtain ⟨b, lb, tl, gp, pl, u⟩ := args
  exact st_ret (er_isN (er_call (A := HmArgs K) (args := (b, lb, tl, gp, pl, ())) (ea_cons (et_var rfl i1) (ea_cons (et_var rfl i2) (ea_cons (et_var rfl i3) (ea2 (et_var rfl i4) (et_var rfl i5))))) hp) fun _ _ h => h) e0 q

end
end LT
/-! ## W5 -/
set_option Elab.async false
set_option linter.all false
set_option maxRecDepth 100000
set_option maxHeartbeats 4000000
namespace LT
open PySem PySem.Spec PyProof.Rows L2
section
variable {P : Program} {w : World} {K : PySem.W.Frag} {mg : Str → Option Value} {base : Heap}
/-! ### orders -/
theorem calAt {k : Nat} {x : Str} {sp : Sp} {f : Addr} (c : Cal P w K mg base k x sp) (h : mg x = some (.ref f)) : C8.CalAt P w K mg base k f sp := by
  obtain ⟨f2, fd, ps, F, hm, kp, b⟩ := c.ex
  rw [h] at hm
  cases hm
  exact ⟨fd, ps, F, kp, b⟩
def mv (c : Nat × Nat) (b : Bool) : Nat × Nat := if b = true then (c.1 + 1, c.2) else (c.1, c.2 + 1)
abbrev N_moved_on : List Str := ["cell", "letter"]
theorem sc_moved_on : FnScope N_moved_on ["cell", "letter"] (defScope s_moved_on) := ⟨rfl, rfl, rfl, by decide +kernel, rfl, by decide +kernel, by decide +kernel⟩
theorem ok_moved_on (T : Top K mg) : Cal P w K mg base 1 "moved_on" (spP (A := (Nat × Nat) × Ltr × Unit) (fun _ => True) fun (c, l, _) => mv c l.b) := by
  obtain ⟨fd, Fd, b⟩ := T.f_moved_on
  refine cal_of Fd T.g_moved_on b sc_moved_on rfl fun cdv Ar outer s H vs Q E hr F0 args e0 ha hp q => ?_
  have hu := hu_of hr
  refine ⟨_, (pss_one (ps_ret (pe_ifExp (pt_cmpR op_eq (pv 1) pe_str (nomark _)) (pe_tup (pa_cons (pe_op op_add (pe_ix ix_seq (pv 0) pe_int (fun _ _ => rfl)) pe_int) (pa_cons (pe_ix ix_seq (pv 0) pe_int (fun _ _ => rfl)) pa_nil))) (pe_tup (pa_cons (pe_ix ix_seq (pv 0) pe_int (fun _ _ => rfl)) (pa_cons (pe_op op_add (pe_ix ix_seq (pv 0) pe_int (fun _ _ => rfl)) pe_int) pa_nil)))))), ?_⟩
  obtain ⟨v1, ws1, rfl, i1, v2, ws2, rfl, i2, rfl⟩ := ha
  obtain ⟨c, l, u_⟩ := args
  have i1 : Is F0 v1 c := i1
  have i2 : Is F0 v2 l := i2
  exact st_ret (et_if2 (eb_test (et_isL (et_var rfl i2))) (fun _ => et_pair (et_addN (et_fst (et_var rfl i1)) (et_nat (n := 1))) (et_snd (et_var rfl i1))) (fun _ => et_pair (et_fst (et_var rfl i1)) (et_addN (et_snd (et_var rfl i1)) (et_nat (n := 1))))) e0 q
theorem et_lenB {σ : St} {F : Hp} {te : TE} {b : BkK K} (h : ET te σ F b) (hb : b.ch.length ≤ 1000) : ET (tCB (fun xs H Q => ∃ a dx fs, xs = [.ref a] ∧ H a = some (.ins (cBook K) dx fs) ∧ spP (A := BkK K × Unit) (fun _ => True) (fun (b, _) => b.ps.length) [.ref a] H (fun v H2 => ∃ n : Nat, v = .int n ∧ n < 2 ^ 62 ∧ Q (.int n) H2) E0) (tCons te tNil)) σ F (b.ch.length + 1) := by
  have hl := b.ps_len
  exact ET.to (et_lenM (f := fun x => x.1.ps.length) h (by show b.ps.length ≤ 100000; omega)) hl
theorem et_last {σ : St} {F : Hp} {te : TE} {b : BkK K} (h : ET te σ F b) (hb : b.ch.length ≤ 1000) : ET (tOp (rI0 fun i j => .int (i - j)) (tCB (fun xs H Q => ∃ a dx fs, xs = [.ref a] ∧ H a = some (.ins (cBook K) dx fs) ∧ spP (A := BkK K × Unit) (fun _ => True) (fun (b, _) => b.ps.length) [.ref a] H (fun v H2 => ∃ n : Nat, v = .int n ∧ n < 2 ^ 62 ∧ Q (.int n) H2) E0) (tCons te tNil)) (tC (.int 1))) σ F b.ch.length :=
  ET.to (et_subN (et_lenB h hb) (et_nat (i := 1) (n := 1)) (by omega)) (by omega)
structure IsOrd (n : Nat) (l : List Bool) : Prop where
  ls : l.count true = n
  ts : l.count false = n
theorem cnt_len (l : List Bool) : l.count true + l.count false = l.length := by
  induction l with
  | nil => rfl
  | cons a r ih => cases a <;> simp [List.count_cons] <;> omega
theorem IsOrd.len {n : Nat} {l : List Bool} (h : IsOrd n l) : l.length = 2 * n := by
  have := cnt_len l
  have := h.ls
  have := h.ts
  omega
abbrev N_is_order : List Str := ["book", "thing", "many"]
theorem sc_is_order : FnScope N_is_order ["book", "thing"] (defScope s_is_order) := ⟨rfl, rfl, rfl, by decide +kernel, rfl, by decide +kernel, by decide +kernel⟩
theorem ok_is_order (T : Top K mg) : Cal P w K mg base 3 "is_order" (spP (A := BkK K × Od × Unit) (fun (b, o, _) => b.ch.length ≤ 7 ∧ IsOrd b.ch.length o.l) fun _ => true) := by
  obtain ⟨fd, Fd, b⟩ := T.f_is_order
  refine cal_of Fd T.g_is_order b sc_is_order rfl fun cdv Ar outer s H vs Q E hr F0 args e0 ha hp q => ?_
  have hu := hu_of hr
  refine ⟨_, (pss_cons (ps_set (i := 2) sc_is_order.nd rfl (by first | exact Or.inl rfl | exact Or.inr rfl) (pe_op op_sub (pe_callB (call_lenO (ok_Book_len T) hr (by decide)) (by rfl) T.m_len (by decide +kernel) (pa_cons (pv 0) pa_nil)) pe_int))
    (pss_cons (ps_if (PW.pt (pw_or (pt_not (pt_val (pe_callB call_isi (by rfl) T.m_isinstance (by decide +kernel) (pa_cons (pv 1) (pa_cons (pe_bltn (v := .ty "str") (u := .type "str") (by rfl) T.m_str (by decide +kernel) rfl) pa_nil))))) (pw_or1 (pt_cmpR op_ne (pe_callB call_len (by rfl) T.m_len (by decide +kernel) (pa_cons (pv 1) pa_nil)) (pe_op op_mul pe_int (pv 2)) (nomark _))))) (pss_one (ps_ret pe_bl)) pss_nil)
    (pss_one (ps_ret (pe_and (pe_cmpR op_eq (pe_m1 PySem.F.slot_str_count PySem.F.type_str_count mt_count (pv 1) pe_str) (pv 2) (nomark _)) (pe_one (pe_cmpR op_eq (pe_m1 PySem.F.slot_str_count PySem.F.type_str_count mt_count (pv 1) pe_str) (pv 2) (nomark _)))))))), ?_⟩
  obtain ⟨v1, ws1, rfl, i1, v2, ws2, rfl, i2, rfl⟩ := ha
  obtain ⟨b, o, u_⟩ := args
  have i1 : Is F0 v1 b := i1
  have i2 : Is F0 v2 o := i2
  obtain ⟨hb, ho⟩ : b.ch.length ≤ 7 ∧ IsOrd b.ch.length o.l := hp
  have hps := b.ps_len
  have hol := ho.len
  refine st_set (et_last (et_var rfl i1) (by omega)) e0 fun v3 F1 H1 g1 i3 => ?_
  have i3 : Is F1 v3 b.ch.length := i3
  have i1 := Rep.mono g1.ff i1
  have i2 := Rep.mono g1.ff i2
  dsimp only [tSeq]
  refine st_no (eb_or (a := false) (b := false) (eb_not (b := true) (eb_B (isi_str (b := true) (et_var rfl i2) (kit_ty (by decide +kernel))))) fun _ => eb_test ?x) g1.fh fun F2 H2 g2 => ?_
  case x =>
    exact ET.to (et_neN (i := o.l.length) (j := 2 * b.ch.length) (et_lenO (et_var rfl i2) (by omega)) ((et_mul (i := 2) (j := (b.ch.length : Int)) et_int (et_var rfl i3) (Or.inl (by omega))).nat (by omega))) (by rw [decide_eq_true hol]; rfl)
  have i2 := Rep.mono g2.ff i2
  have i3 := Rep.mono g2.ff i3
  dsimp only [tNext]
  exact st_ret (ET.to (et_andV (et_eqN (et_cntL (et_var rfl i2) true fun _ => is_L) (et_var rfl i3)) fun _ => et_eqN (et_cntL (et_var rfl i2) false fun _ => is_T) (et_var rfl i3)) (by rw [ho.ls, ho.ts]; simp)) g2.fh fun v F3 H3 g3 i => q v F3 H3 (g1.trans (g2.trans g3)) i
def cellAt (l : List Bool) (k : Nat) : Nat × Nat := ((l.take k).count true, (l.take k).count false)
def cellsOf (l : List Bool) : List (Nat × Nat) := (List.range (l.length + 1)).map (cellAt l)
theorem cellsOf_len (l : List Bool) : (cellsOf l).length = l.length + 1 := by unfold cellsOf; simp
theorem cellAt_succ {l : List Bool} {k : Nat} {b : Bool} (h : l[k]? = some b) : cellAt l (k + 1) = mv (cellAt l k) b := by
  unfold cellAt mv
  rw [List.take_add_one, h]
  cases b <;> simp [List.count_append]
abbrev N_cells_of : List Str := ["order", "found", "letter"]
theorem sc_cells_of : FnScope N_cells_of ["order"] (defScope s_cells_of) := ⟨rfl, rfl, rfl, by decide +kernel, rfl, by decide +kernel, by decide +kernel⟩
theorem ok_cells_of (T : Top K mg) : Cal P w K mg base 2 "cells_of" (spP (A := Od × Unit) (fun (o, _) => o.l.length ≤ 100) fun (o, _) => cellsOf o.l) := by
  obtain ⟨fd, Fd, b⟩ := T.f_cells_of
  refine cal_of Fd T.g_cells_of b sc_cells_of rfl fun cdv Ar outer s H vs Q E hr F0 args e0 ha hp q => ?_
  have hu := hu_of hr
  refine ⟨_, (pss_cons (ps_set (i := 1) sc_cells_of.nd rfl (by first | exact Or.inl rfl | exact Or.inr rfl) (pe_lst (pa_cons (pe_tup (pa_cons pe_int (pa_cons pe_int pa_nil))) pa_nil)))
    (pss_cons (ps_for PassesOwn.never rfl (pi_str (pv 0)) (pg_name (i := 2) sc_cells_of.nd rfl (by first | exact Or.inl rfl | exact Or.inr rfl)) (pss_one (ps_expr (pe_bm PySem.F.plainAttrs_list PySem.F.slot_list_append PySem.F.type_list_append mt_append (pv 1) (pa_cons (pe_cal (ok_moved_on T) hr (by decide) rfl (pa_cons (pe_ix ix_seq (pv 1) (pe_un un_neg pe_int) (fun _ _ => rfl)) (pa_cons (pv 2) pa_nil))) pa_nil)))))
    (pss_one (ps_ret (pv 1))))), ?_⟩
  obtain ⟨v1, ws1, rfl, i1, rfl⟩ := ha
  obtain ⟨o, u_⟩ := args
  have i1 : Is F0 v1 o := i1
  have hl : o.l.length ≤ 100 := hp
  dsimp only [tSeq, tAsg]
  refine mk_lst (xs := [((0, 0) : Nat × Nat)]) (eas_cons (et_pair (et_nat (i := 0) (n := 0)) (et_nat (i := 0) (n := 0))) eas_nil) (by simp) e0 fun l vs F1 H1 g1 hn h0 hl1 ha1 => ?_
  have i1 := Rep.mono g1.ff i1
  dsimp only [gName]
  refine st_loop (xs := o.l.map Ltr.mk) (fun i Fi σ' H' => Grow F0 H Fi H' ∧ Fi l = none ∧ ∃ vs t, H' l = some (.lst vs) ∧ All2 (Rep.is Fi) vs ((List.range (i + 1)).map (cellAt o.l)) ∧ σ' = [some v1, some (.ref l), t])
    (ei_str (et_var rfl i1)) g1.fh (fun F2 H2 g2 => ⟨g1.trans g2, g2.off hn hl1, vs, none, g2.hh _ _ hl1, ha1.mono fun _ _ z => Rep.mono g2.ff z, rfl⟩) ?_ ?_
  · rintro N i x Fi σ' H' v F2 H2 hx e3 ⟨gi, hni, vs, t, hli, hai, rfl⟩ g2 iv k
    rw [List.getElem?_map] at hx
    cases eb : o.l[i]? with
    | none => rw [eb] at hx; cases hx
    | some b =>
      rw [eb] at hx
      cases hx
      have hn2 := g2.off hni hli
      have hl2 := g2.hh _ _ hli
      have ha2 := hai.mono fun _ _ z => Rep.mono g2.ff z
      have iv2 := Rep.mono (ex_upd (o := .lst vs) hn2) iv
      rw [List.range_succ, List.map_append] at ha2
      have hvl : vs.length = i + 1 := by rw [hai.len]; simp
      have hi := (List.getElem?_eq_some_iff.mp eb).1
      refine st_appB (l := l) (vs := vs) (x := mv (cellAt o.l i) b) (raw_var rfl) (et_call (args := (cellAt o.l i, Ltr.mk b, ())) (ea2 (et_ixLast (et_var rfl (is_lent hn2 ha2)) (et_neg et_int)) (et_var rfl iv2)) trivial) g2.fh hn2 hl2 (by omega) fun y F3 H3 g3 hn3 hl3 iy => ?_
      have g4 := gi.trans (g2.trans g3)
      refine k F3 _ _ (g2.ff.trans g3.ff) ((g4.mut hn3 h0).fh) ⟨g4.mut hn3 h0, hn3, _, _, upd_same, ?_, rfl⟩
      rw [List.range_succ, List.map_append]
      rw [← cellAt_succ eb] at iy
      exact (hai.mono fun _ _ z => Rep.mono (g2.ff.trans g3.ff) z).snoc iy
  rintro F2 σ' H2 e3 e4 ⟨g, hn2, vs, t, hl2, ha2, rfl⟩
  rw [List.length_map] at ha2
  dsimp only
  refine ⟨.ref l, rfl, q _ _ _ (g.frz hn2 h0 hl2) ⟨l, vs, rfl, upd_same, ha2.mono fun _ _ z => Rep.mono (ex_upd hn2) z⟩⟩
structure Good (n : Nat) (ps : List Int) (l : List Bool) : Prop where
  ord : IsOrd n l
  free : ∀ c ∈ cellsOf l, c ∉ bad ps
abbrev N_is_good : List Str := ["book", "thing", "bad", "cell"]
theorem sc_is_good : FnScope N_is_good ["book", "thing"] (defScope s_is_good) := ⟨rfl, rfl, rfl, by decide +kernel, rfl, by decide +kernel, by decide +kernel⟩
theorem ok_is_good (T : Top K mg) : Cal P w K mg base 4 "is_good" (spP (A := BkK K × Od × Unit) (fun (b, o, _) => b.ch.length ≤ 7 ∧ Good b.ch.length b.ps o.l) fun _ => true) := by
  obtain ⟨fd, Fd, b⟩ := T.f_is_good
  refine cal_of Fd T.g_is_good b sc_is_good rfl fun cdv Ar outer s H vs Q E hr F0 args e0 ha hp q => ?_
  have hu := hu_of hr
  have hu65 : (cxOf CX0 P w K mg base N_is_good "is_good" (defScope s_is_good) (He.ga K "is_good") cdv Ar outer s H E).nox.A.units + 65 < PySem.cLine := by
    have := hr.un
    exact Nat.lt_of_le_of_lt (Nat.add_le_add_left (by omega) _) this
  refine ⟨_, (pss_cons (ps_if (pt_not (pt_val (pe_cal (ok_is_order T) hr (by decide) rfl (pa_cons (pv 0) (pa_cons (pv 1) pa_nil))))) (pss_one (ps_ret pe_bl)) pss_nil)
    (pss_cons (ps_set (i := 2) sc_is_good.nd rfl (by first | exact Or.inl rfl | exact Or.inr rfl) (pe_cal (ok_bad_cells T) hr (by decide) rfl (pa_cons (pv 0) pa_nil)))
    (pss_one (ps_ret (pe_callB (cr_all rfl) (by rfl) T.m_all (by decide +kernel) (pa_cons (pe_lc (own := [("cell", 3)]) rfl sc_is_good.nd (pi_list (pe_cal (ok_cells_of T) hr (by decide) rfl (pa_cons (pv 1) pa_nil))) (blkOk_by (N := N_is_good) (sc := defScope s_is_good) (own := [("cell", 3)]) (by decide +kernel)) (fun _ _ _ _ _ => (pg_name (i := 3) sc_is_good.nd rfl (by first | exact Or.inl rfl | exact Or.inr rfl))) (fun _ _ _ _ _ => pts_nil) (fun _ _ _ _ _ => (pe_cmpR (op_notInDK (K := K) (by rfl) hu65) (pv 3) (pv 2) (by rfl)))) pa_nil)))))), ?_⟩
  obtain ⟨v1, ws1, rfl, i1, v2, ws2, rfl, i2, rfl⟩ := ha
  obtain ⟨b, o, u_⟩ := args
  have i1 : Is F0 v1 b := i1
  have i2 : Is F0 v2 o := i2
  obtain ⟨hb, ho⟩ : b.ch.length ≤ 7 ∧ Good b.ch.length b.ps o.l := hp
  have hol := ho.ord.len
  refine st_no (eb_not (b := true) (eb_B (et_call (args := (b, o, ())) (ea2 (et_var rfl i1) (et_var rfl i2)) ⟨hb, ho.ord⟩))) e0 fun F1 H1 g1 => ?_
  have i1 := Rep.mono g1.ff i1
  have i2 := Rep.mono g1.ff i2
  dsimp only [tNext, tSeq]
  refine st_set (et_call (args := (b, ())) (ea1 (et_var rfl i1)) hb) g1.fh fun v3 F2 H2 g2 i3 => ?_
  have i3 : Is F2 v3 (bad b.ps) := i3
  have i2 := Rep.mono g2.ff i2
  dsimp only
  refine st_ret (ET.to (et_all (et_lcN (xs := cellsOf o.l) (p := fun _ => true) (f := fun c => !decide (c ∈ bad b.ps)) (ei_list (et_call (args := (o, ())) (ea1 (et_var rfl i2)) (show o.l.length ≤ 100 by omega))) (fun _ => rfl) (fun x hx F1 v e i => eb_yes)
    (fun x hx F1 v e i _ => et_notInC (et_var rfl i) (et_var rfl (Rep.mono e i3))) (by rw [cellsOf_len]; omega))) ?_) g2.fh fun v F3 H3 g3 i => q v F3 H3 (g1.trans (g2.trans g3)) i
  rw [filter_yes, List.all_map]
  refine List.all_eq_true.mpr fun c hc => ?_
  show (!decide (c ∈ bad b.ps)) = true
  rw [decide_eq_false (ho.free c hc)]
  rfl
abbrev N_need_good : List Str := ["book", "order"]
theorem sc_need_good : FnScope N_need_good ["book", "order"] (defScope s_need_good) := ⟨rfl, rfl, rfl, by decide +kernel, rfl, by decide +kernel, by decide +kernel⟩
theorem ok_need_good (T : Top K mg) : Cal P w K mg base 5 "need_good" (spP (A := BkK K × Od × Unit) (fun (b, o, _) => b.ch.length ≤ 7 ∧ Good b.ch.length b.ps o.l) fun _ => ()) := by
  obtain ⟨fd, Fd, b⟩ := T.f_need_good
  refine cal_of Fd T.g_need_good b sc_need_good rfl fun cdv Ar outer s H vs Q E hr F0 args e0 ha hp q => ?_
  have hu := hu_of hr
  refine ⟨_, (pss_one (ps_if (pt_not (pt_val (pe_cal (ok_is_good T) hr (by decide) rfl (pa_cons (pv 0) (pa_cons (pv 1) pa_nil))))) (pss_one ps_never) pss_nil)), ?_⟩
  obtain ⟨v1, ws1, rfl, i1, v2, ws2, rfl, i2, rfl⟩ := ha
  obtain ⟨b, o, u_⟩ := args
  have i1 : Is F0 v1 b := i1
  have i2 : Is F0 v2 o := i2
  exact st_no (eb_not (b := true) (eb_B (et_call (args := (b, o, ())) (ea2 (et_var rfl i1) (et_var rfl i2)) hp))) e0 fun F1 H1 g1 => q .non F1 H1 g1 rfl

end
end LT
/-! ## W6 -/
set_option Elab.async false
set_option linter.all false
set_option maxRecDepth 100000
set_option maxHeartbeats 4000000
namespace LT
open PySem PySem.Spec PyProof.Rows L2
section
variable {P : Program} {w : World} {K : PySem.W.Frag} {mg : Str → Option Value} {base : Heap}
/-! ### ways_on -/
theorem par_dict {σ : St} {F H : Hp} {D : Ends} {ta : TE} {i j : Nat} {R : Hp → V → Prop} (h : ER ta σ F R) (hF : Ex F H) (k : ∀ v p F2 H2, Grow F H F2 H2 → F2 p = none → H p = none → H2 p = some (.dT []) → R F2 v → D.nx ((σ.set i (some v)).set j (some (.ref p))) H2) :
    tPar i j (tCons ta (tCons tDNewT tNil)) D σ H :=
  h H hF _ fun v F1 H1 g1 r p hp => ⟨v, .ref p, rfl, k v p F1 _ (g1.mut (ex_none g1.fh hp) (ex_none g1.hh hp)) (ex_none g1.fh hp) (ex_none g1.hh hp) upd_same r⟩
def waysF (n : Nat) (bar : Nat × Nat → Bool) (c : Nat × Nat) : Nat :=
  if c.1 ≤ n ∧ c.2 ≤ n then (if bar c = true then 0 else if c = (n, n) then 1 else waysF n bar (c.1 + 1, c.2) + waysF n bar (c.1, c.2 + 1)) else 0
termination_by 2 * n + 2 - c.1 - c.2
decreasing_by all_goals (simp_wf; omega)
structure IsWays (n : Nat) (bar : Nat × Nat → Bool) (w : Nat × Nat → Nat) : Prop where
  out : ∀ c : Nat × Nat, ¬ (c.1 ≤ n ∧ c.2 ≤ n) → w c = 0
  bar_ : ∀ c : Nat × Nat, bar c = true → w c = 0
  end_ : bar (n, n) = false → w (n, n) = 1
  step : ∀ c : Nat × Nat, c.1 ≤ n → c.2 ≤ n → bar c = false → c ≠ (n, n) → w c = w (c.1 + 1, c.2) + w (c.1, c.2 + 1)
theorem waysF_is (n : Nat) (bar : Nat × Nat → Bool) : IsWays n bar (waysF n bar) where
  out c h := by rw [waysF, if_neg h]
  bar_ c h := by
    by_cases h2 : c.1 ≤ n ∧ c.2 ≤ n
    · rw [waysF, if_pos h2, if_pos h]
    · rw [waysF, if_neg h2]
  end_ h := by rw [waysF, if_pos ⟨Nat.le_refl _, Nat.le_refl _⟩, if_neg (by rw [h]; exact Bool.false_ne_true), if_pos rfl]
  step c h1 h2 h3 h4 := by rw [waysF, if_pos ⟨h1, h2⟩, if_neg (by rw [h3]; exact Bool.false_ne_true), if_neg h4]
def part (n : Nat) (w : Nat × Nat → Nat) (i j : Nat) (c : Nat × Nat) : Nat := if c.1 ≤ n ∧ c.2 ≤ n ∧ (n < c.1 + i ∨ (c.1 + i = n ∧ n < c.2 + j)) then w c else 0
section
variable {n : Nat} {w : Nat × Nat → Nat} {bar : Nat × Nat → Bool} {i j : Nat}
theorem part_zero : part n w 0 0 = fun _ => 0 := by
  funext c
  unfold part
  exact if_neg (by omega)
theorem part_row : part n w i (n + 1) = part n w (i + 1) 0 := by
  funext c
  unfold part
  by_cases h : c.1 ≤ n ∧ c.2 ≤ n ∧ (n < c.1 + i ∨ (c.1 + i = n ∧ n < c.2 + (n + 1)))
  · rw [if_pos h, if_pos (by omega)]
  · rw [if_neg h, if_neg (by omega)]
theorem part_end (W : IsWays n bar w) : part n w (n + 1) 0 = w := by
  funext c
  unfold part
  by_cases h : c.1 ≤ n ∧ c.2 ≤ n
  · rw [if_pos (by omega)]
  · rw [if_neg (by omega), W.out c h]
theorem part_next (hi : i ≤ n) (hj : j ≤ n) : (fun d => if d = (n - i, n - j) then w (n - i, n - j) else part n w i j d) = part n w i (j + 1) := by
  funext d
  show (if d = (n - i, n - j) then w (n - i, n - j) else part n w i j d) = _
  unfold part
  by_cases h : d = (n - i, n - j)
  · rw [if_pos h, h, if_pos (by show n - i ≤ n ∧ n - j ≤ n ∧ (n < n - i + i ∨ (n - i + i = n ∧ n < n - j + (j + 1))); omega)]
  · rw [if_neg h]
    have h2 : ¬ (d.1 = n - i ∧ d.2 = n - j) := fun z => h (Prod.ext z.1 z.2)
    by_cases h3 : d.1 ≤ n ∧ d.2 ≤ n ∧ (n < d.1 + i ∨ (d.1 + i = n ∧ n < d.2 + j))
    · rw [if_pos h3, if_pos (by omega)]
    · rw [if_neg h3, if_neg (by omega)]
theorem part_down (W : IsWays n bar w) (hi : i ≤ n) : part n w i j (n - i + 1, n - j) = w (n - i + 1, n - j) := by
  unfold part
  by_cases h : n - i + 1 ≤ n
  · exact if_pos (by show n - i + 1 ≤ n ∧ n - j ≤ n ∧ (n < n - i + 1 + i ∨ _); omega)
  · rw [if_neg (by show ¬ (n - i + 1 ≤ n ∧ _); omega), W.out _ (by show ¬ (n - i + 1 ≤ n ∧ _); omega)]
theorem part_right (W : IsWays n bar w) (hi : i ≤ n) (hj : j ≤ n) : part n w i j (n - i, n - j + 1) = w (n - i, n - j + 1) := by
  unfold part
  by_cases h : n - j + 1 ≤ n
  · exact if_pos (by show n - i ≤ n ∧ n - j + 1 ≤ n ∧ (n < n - i + i ∨ (n - i + i = n ∧ n < n - j + 1 + j)); omega)
  · rw [if_neg (by show ¬ (n - i ≤ n ∧ n - j + 1 ≤ n ∧ _); omega), W.out _ (by show ¬ (n - i ≤ n ∧ n - j + 1 ≤ n); omega)]
end
theorem down_at {n i x : Nat} (h : (List.range (n + 1)).reverse[i]? = some x) : x = n - i ∧ i ≤ n := by
  have hl := (List.getElem?_eq_some_iff.mp h).1
  rw [List.length_reverse, List.length_range] at hl
  rw [List.getElem?_reverse (by rw [List.length_range]; exact hl), List.length_range, List.getElem?_range (by omega)] at h
  have := Option.some.inj h
  omega
abbrev N_ways_on : List Str := ["book", "barred", "last", "found", "one", "other", "cell"]
theorem sc_ways_on : FnScope N_ways_on ["book", "barred"] (defScope s_ways_on) := ⟨rfl, rfl, rfl, by decide +kernel, rfl, by decide +kernel, by decide +kernel⟩
theorem ok_ways_onL (T : Top K mg) : Cal P w K mg base 3 "ways_on" (spP (A := BkK K × List (Nat × Nat) × Unit) (fun (b, _, _) => b.ch.length ≤ 7) fun (b, bd, _) => Wy.mk (waysF b.ch.length (fun c => decide (c ∈ bd)))) := by
  obtain ⟨fd, Fd, b⟩ := T.f_ways_on
  refine cal_of Fd T.g_ways_on b sc_ways_on rfl fun cdv Ar outer s H vs Q E hr F0 args e0 ha hp q => ?_
  have hu := hu_of hr
  have hu64 : (cxOf CX0 P w K mg base N_ways_on "ways_on" (defScope s_ways_on) (He.ga K "ways_on") cdv Ar outer s H E).nox.A.units + 64 < PySem.cLine := by
    have := hr.un
    exact Nat.lt_of_le_of_lt (Nat.add_le_add_left (by omega) _) this
  have hu65 : (cxOf CX0 P w K mg base N_ways_on "ways_on" (defScope s_ways_on) (He.ga K "ways_on") cdv Ar outer s H E).nox.A.units + 65 < PySem.cLine := by
    have := hr.un
    exact Nat.lt_of_le_of_lt (Nat.add_le_add_left (by omega) _) this
  refine ⟨_, (pss_cons (ps_par (i := 2) (j := 3) (by rfl) sc_ways_on.nd rfl rfl (by decide) rfl rfl (pa_cons (pe_op op_sub (pe_callB (call_lenO (ok_Book_len T) hr (by decide)) (by rfl) T.m_len (by decide +kernel) (pa_cons (pv 0) pa_nil)) pe_int) (pa_cons pe_dnewT pa_nil)) (by rfl))
    (pss_cons (ps_for PassesOwn.never rfl (pi_range3 (by rfl) T.m_range (pa_cons (pv 2) (pa_cons (pe_un un_neg pe_int) (pa_cons (pe_un un_neg pe_int) pa_nil)))) (pg_name (i := 4) sc_ways_on.nd rfl (by first | exact Or.inl rfl | exact Or.inr rfl)) (pss_one (ps_for PassesOwn.never rfl (pi_range3 (by rfl) T.m_range (pa_cons (pv 2) (pa_cons (pe_un un_neg pe_int) (pa_cons (pe_un un_neg pe_int) pa_nil)))) (pg_name (i := 5) sc_ways_on.nd rfl (by first | exact Or.inl rfl | exact Or.inr rfl)) (pss_cons (ps_set (i := 6) sc_ways_on.nd rfl (by first | exact Or.inl rfl | exact Or.inr rfl) (pe_tup (pa_cons (pv 4) (pa_cons (pv 5) pa_nil))))
    (pss_one (ps_if (pt_cmpR (op_inD hu65) (pv 6) (pv 1) (by rfl)) (pss_one (ps_dput hu (pv 3) (pv 6) pe_int rfl)) (pss_one (ps_if (pt_cmpR (op_eqD hu64) (pv 6) (pe_tup (pa_cons (pv 2) (pa_cons (pv 2) pa_nil))) (nomark _)) (pss_one (ps_dput hu (pv 3) (pv 6) pe_int rfl)) (pss_one (ps_dput hu (pv 3) (pv 6) (pe_op op_add (pe_dget2 hu (pv 3) (pe_tup (pa_cons (pe_op op_add (pv 4) pe_int) (pa_cons (pv 5) pa_nil))) pe_int ⟨rfl, rfl, rfl, rfl⟩) (pe_dget2 hu (pv 3) (pe_tup (pa_cons (pv 4) (pa_cons (pe_op op_add (pv 5) pe_int) pa_nil))) pe_int ⟨rfl, rfl, rfl, rfl⟩)) rfl))))))))))
    (pss_one (ps_ret (pv 3))))), ?_⟩
  obtain ⟨v1, ws1, rfl, i1, v2, ws2, rfl, i2, rfl⟩ := ha
  obtain ⟨b, bd, u_⟩ := args
  have i1 : Is F0 v1 b := i1
  have i2 : Is F0 v2 bd := i2
  have hb : b.ch.length ≤ 7 := hp
  have W := waysF_is b.ch.length (fun c => decide (c ∈ bd))
  have q : ∀ v F2 H2, Grow F0 H F2 H2 → Is F2 v (Wy.mk (waysF b.ch.length (fun c => decide (c ∈ bd)))) → Q v H2 := q
  generalize waysF b.ch.length (fun c => decide (c ∈ bd)) = w at W q
  generalize hn : b.ch.length = n at hb W
  dsimp only [tSeq]
  refine par_dict (et_last (et_var rfl i1) (by omega)) e0 fun v3 p F1 H1 g1 hF1 h0 hH1 i3 => ?_
  have i3 : Is F1 v3 n := hn ▸ i3
  have i2 := Rep.mono g1.ff i2
  refine st_loop (xs := (List.range (n + 1)).reverse) (fun i Fi σ' H' => Grow F0 H Fi H' ∧ Fi p = none ∧ ∃ kvs t4 t5 t6, H' p = some (.dT kvs) ∧ kvs.length ≤ 9 * i ∧ WyR kvs (part n w i 0) ∧ σ' = [some v1, some v2, some v3, some (.ref p), t4, t5, t6])
    (ei_down (ea_cons (et_var rfl i3) (ea2 (et_neg et_int) (et_neg et_int))) (by omega)) g1.fh (fun F2 H2 g2 => ⟨g1.trans g2, g2.off hF1 hH1, [], none, none, none, g2.hh _ _ hH1, Nat.zero_le _, by rw [part_zero]; exact fun _ => rfl, rfl⟩) ?_ ?_
  · rintro N i x Fi σ' H' v4 F2 H2 hx e2 ⟨gi, hFi, kvs, t4, t5, t6, hHi, hki, hwi, rfl⟩ g2 i4 k
    obtain ⟨rfl, hin⟩ := down_at hx
    have i2 := Rep.mono (e2.trans g2.ff) i2
    have i3 := Rep.mono (e2.trans g2.ff) i3
    refine st_loop (xs := (List.range (n + 1)).reverse) (fun j Fj σ' H' => Grow F0 H Fj H' ∧ Fj p = none ∧ ∃ kvs t5 t6, H' p = some (.dT kvs) ∧ kvs.length ≤ 9 * i + j ∧ WyR kvs (part n w i j) ∧ σ' = [some v1, some v2, some v3, some (.ref p), some v4, t5, t6])
      (ei_down (ea_cons (et_var rfl i3) (ea2 (et_neg et_int) (et_neg et_int))) (by omega)) g2.fh (fun F3 H3 g3 => ⟨gi.trans (g2.trans g3), g3.off (g2.off hFi hHi) (g2.hh _ _ hHi), kvs, t5, t6, g3.hh _ _ (g2.hh _ _ hHi), hki, hwi, rfl⟩) ?_ ?_
    · rintro N2 j y Fj σ' H' v5 F3 H3 hy e3 ⟨gj, hFj, kvs, t5, t6, hHj, hkj, hwj, rfl⟩ g3 i5 k2
      obtain ⟨rfl, hjn⟩ := down_at hy
      have i2 := Rep.mono (e3.trans g3.ff) i2
      have i3 := Rep.mono (e3.trans g3.ff) i3
      have i4 := Rep.mono (e3.trans g3.ff) i4
      have hF3 := g3.off hFj hHj
      have hH3 := g3.hh _ _ hHj
      refine st_set (et_pair (x := n - i) (y := n - j) (et_var rfl i4) (et_var rfl i5)) g3.fh fun v6 F4 H4 g4 i6 => ?_
      have i6 : Is F4 v6 (n - i, n - j) := i6
      have hF4 := g4.off hF3 hH3
      have hH4 := g4.hh _ _ hH3
      have i2 := Rep.mono g4.ff i2
      have i3 := Rep.mono g4.ff i3
      have i4 := Rep.mono g4.ff i4
      have i5 := Rep.mono g4.ff i5
      have e24 : Ex Fj F4 := g3.ff.trans g4.ff
      have gj4 := gj.trans (g3.trans g4)
      have fin : ∀ m v F5 H5, Grow F4 H4 F5 H5 → F5 p = none → H5 p = some (.dT kvs) → Is F5 v (m : Nat) → m = w (n - i, n - j) → N2 [some v1, some v2, some v3, some (.ref p), some v4, some v5, some v6] (upd H5 p (.dT (putK kvs (kC (n - i, n - j)) v))) := by
        rintro m v F5 H5 g5 hF5 hH5 iv rfl
        have g6 := (gj4.trans g5).mut hF5 h0 (o := .dT (putK kvs (kC (n - i, n - j)) v))
        refine k2 F5 _ _ (e24.trans g5.ff) g6.fh ⟨g6, hF5, _, some v5, some v6, upd_same, Nat.le_trans (length_putK _ _ _) (by omega), ?_, rfl⟩
        rw [← part_next hin hjn, show v = .int (w (n - i, n - j) : Nat) from iv]
        exact wy_put hwj _ _
      refine st_if (b := decide ((n - i, n - j) ∈ bd)) (eb_test (et_inC (et_var rfl i6) (et_var rfl i2))) g4.fh (fun hb1 F5 H5 g5 => ?_) fun hb1 F5 H5 g5 => ?_
      · have hF5 := g5.off hF4 hH4
        have hH5 := g5.hh _ _ hH4
        refine st_putB (c := (n - i, n - j)) (et_nat (i := 0) (n := 0)) (raw_var rfl) (et_var rfl (Rep.mono g5.ff i6)) g5.fh hF5 hH5 (by omega) fun v F6 H6 g6 hF6 hH6 iv => ?_
        exact fin 0 v F6 H6 (g5.trans g6) hF6 hH6 iv (W.bar_ _ hb1).symm
      · have hF5 := g5.off hF4 hH4
        have hH5 := g5.hh _ _ hH4
        have i3 := Rep.mono g5.ff i3
        have i4 := Rep.mono g5.ff i4
        have i5 := Rep.mono g5.ff i5
        have i6 := Rep.mono g5.ff i6
        refine st_if (b := decide ((n - i, n - j) = (n, n))) (eb_test (et_eqC (et_var rfl i6) (et_pair (et_var rfl i3) (et_var rfl i3)))) g5.fh (fun hb2 F6 H6 g6 => ?_) fun hb2 F6 H6 g6 => ?_
        · have hF6 := g6.off hF5 hH5
          have hH6 := g6.hh _ _ hH5
          refine st_putB (c := (n - i, n - j)) (et_nat (i := 1) (n := 1)) (raw_var rfl) (et_var rfl (Rep.mono g6.ff i6)) g6.fh hF6 hH6 (by omega) fun v F7 H7 g7 hF7 hH7 iv => ?_
          have hc := of_decide_eq_true hb2
          refine fin 1 v F7 H7 (g5.trans (g6.trans g7)) hF7 hH7 iv ?_
          rw [hc]
          rw [hc] at hb1
          exact (W.end_ hb1).symm
        · have hF6 := g6.off hF5 hH5
          have hH6 := g6.hh _ _ hH5
          have i4 := Rep.mono g6.ff i4
          have i5 := Rep.mono g6.ff i5
          have i6 := Rep.mono g6.ff i6
          have j4 := Rep.mono (ex_upd (o := .dT kvs) hF6) i4
          have j5 := Rep.mono (ex_upd (o := .dT kvs) hF6) i5
          have jd : Is (upd F6 p (.dT kvs)) (.ref p) (Wy.mk (part n w i j)) := ⟨p, kvs, rfl, upd_same, hwj⟩
          refine st_putB (c := (n - i, n - j)) (x := part n w i j (n - i + 1, n - j) + part n w i j (n - i, n - j + 1)) (et_addN (et_get0 (w := Wy.mk (part n w i j)) (c := (n - i + 1, n - j)) (et_var rfl jd) (et_pair (et_addN (et_var rfl j4) (et_nat (i := 1) (n := 1))) (et_var rfl j5))) (et_get0 (w := Wy.mk (part n w i j)) (c := (n - i, n - j + 1)) (et_var rfl jd) (et_pair (et_var rfl j4) (et_addN (et_var rfl j5) (et_nat (i := 1) (n := 1)))))) (raw_var rfl) (et_var rfl i6) g6.fh hF6 hH6 (by omega) fun v F7 H7 g7 hF7 hH7 iv => ?_
          refine fin _ v F7 H7 (g5.trans (g6.trans g7)) hF7 hH7 iv ?_
          rw [part_down W hin, part_right W hin hjn]
          exact (W.step (n - i, n - j) (Nat.sub_le _ _) (Nat.sub_le _ _) hb1 (of_decide_eq_false hb2)).symm
    rintro Fj σ' H' e3 e4 ⟨gj, hFj, kvs, t5, t6, hHj, hkj, hwj, rfl⟩
    rw [List.length_reverse, List.length_range] at hkj hwj
    rw [part_row] at hwj
    exact k Fj _ _ (g2.ff.trans e3) e4 ⟨gj, hFj, kvs, some v4, t5, t6, hHj, by omega, hwj, rfl⟩
  rintro Fi σ' H' e2 e3 ⟨gi, hFi, kvs, t4, t5, t6, hHi, hki, hwi, rfl⟩
  rw [List.length_reverse, List.length_range, part_end W] at hwi
  dsimp only
  exact ⟨.ref p, rfl, q _ _ _ (gi.frz hFi h0 hHi) ⟨p, kvs, rfl, upd_same, hwi⟩⟩
theorem ok_ways_onD (T : Top K mg) : Cal P w K mg base 3 "ways_on" (spP (A := BkK K × Bd × Unit) (fun (b, _, _) => b.ch.length ≤ 7) fun (b, bd, _) => Wy.mk (waysF b.ch.length bd.f)) := by
  obtain ⟨fd, Fd, b⟩ := T.f_ways_on
  refine cal_of Fd T.g_ways_on b sc_ways_on rfl fun cdv Ar outer s H vs Q E hr F0 args e0 ha hp q => ?_
  have hu := hu_of hr
  have hu64 : (cxOf CX0 P w K mg base N_ways_on "ways_on" (defScope s_ways_on) (He.ga K "ways_on") cdv Ar outer s H E).nox.A.units + 64 < PySem.cLine := by
    have := hr.un
    exact Nat.lt_of_le_of_lt (Nat.add_le_add_left (by omega) _) this
  refine ⟨_, (pss_cons (ps_par (i := 2) (j := 3) (by rfl) sc_ways_on.nd rfl rfl (by decide) rfl rfl (pa_cons (pe_op op_sub (pe_callB (call_lenO (ok_Book_len T) hr (by decide)) (by rfl) T.m_len (by decide +kernel) (pa_cons (pv 0) pa_nil)) pe_int) (pa_cons pe_dnewT pa_nil)) (by rfl))
    (pss_cons (ps_for PassesOwn.never rfl (pi_range3 (by rfl) T.m_range (pa_cons (pv 2) (pa_cons (pe_un un_neg pe_int) (pa_cons (pe_un un_neg pe_int) pa_nil)))) (pg_name (i := 4) sc_ways_on.nd rfl (by first | exact Or.inl rfl | exact Or.inr rfl)) (pss_one (ps_for PassesOwn.never rfl (pi_range3 (by rfl) T.m_range (pa_cons (pv 2) (pa_cons (pe_un un_neg pe_int) (pa_cons (pe_un un_neg pe_int) pa_nil)))) (pg_name (i := 5) sc_ways_on.nd rfl (by first | exact Or.inl rfl | exact Or.inr rfl)) (pss_cons (ps_set (i := 6) sc_ways_on.nd rfl (by first | exact Or.inl rfl | exact Or.inr rfl) (pe_tup (pa_cons (pv 4) (pa_cons (pv 5) pa_nil))))
    (pss_one (ps_if (pt_cmp (pc_din hu (pv 6) (pv 1))) (pss_one (ps_dput hu (pv 3) (pv 6) pe_int rfl)) (pss_one (ps_if (pt_cmpR (op_eqD hu64) (pv 6) (pe_tup (pa_cons (pv 2) (pa_cons (pv 2) pa_nil))) (nomark _)) (pss_one (ps_dput hu (pv 3) (pv 6) pe_int rfl)) (pss_one (ps_dput hu (pv 3) (pv 6) (pe_op op_add (pe_dget2 hu (pv 3) (pe_tup (pa_cons (pe_op op_add (pv 4) pe_int) (pa_cons (pv 5) pa_nil))) pe_int ⟨rfl, rfl, rfl, rfl⟩) (pe_dget2 hu (pv 3) (pe_tup (pa_cons (pv 4) (pa_cons (pe_op op_add (pv 5) pe_int) pa_nil))) pe_int ⟨rfl, rfl, rfl, rfl⟩)) rfl))))))))))
    (pss_one (ps_ret (pv 3))))), ?_⟩
  obtain ⟨v1, ws1, rfl, i1, v2, ws2, rfl, i2, rfl⟩ := ha
  obtain ⟨b, bd, u_⟩ := args
  have i1 : Is F0 v1 b := i1
  have i2 : Is F0 v2 bd := i2
  have hb : b.ch.length ≤ 7 := hp
  have W := waysF_is b.ch.length bd.f
  have q : ∀ v F2 H2, Grow F0 H F2 H2 → Is F2 v (Wy.mk (waysF b.ch.length bd.f)) → Q v H2 := q
  generalize waysF b.ch.length bd.f = w at W q
  generalize hn : b.ch.length = n at hb W
  dsimp only [tSeq]
  refine par_dict (et_last (et_var rfl i1) (by omega)) e0 fun v3 p F1 H1 g1 hF1 h0 hH1 i3 => ?_
  have i3 : Is F1 v3 n := hn ▸ i3
  have i2 := Rep.mono g1.ff i2
  refine st_loop (xs := (List.range (n + 1)).reverse) (fun i Fi σ' H' => Grow F0 H Fi H' ∧ Fi p = none ∧ ∃ kvs t4 t5 t6, H' p = some (.dT kvs) ∧ kvs.length ≤ 9 * i ∧ WyR kvs (part n w i 0) ∧ σ' = [some v1, some v2, some v3, some (.ref p), t4, t5, t6])
    (ei_down (ea_cons (et_var rfl i3) (ea2 (et_neg et_int) (et_neg et_int))) (by omega)) g1.fh (fun F2 H2 g2 => ⟨g1.trans g2, g2.off hF1 hH1, [], none, none, none, g2.hh _ _ hH1, Nat.zero_le _, by rw [part_zero]; exact fun _ => rfl, rfl⟩) ?_ ?_
  · rintro N i x Fi σ' H' v4 F2 H2 hx e2 ⟨gi, hFi, kvs, t4, t5, t6, hHi, hki, hwi, rfl⟩ g2 i4 k
    obtain ⟨rfl, hin⟩ := down_at hx
    have i2 := Rep.mono (e2.trans g2.ff) i2
    have i3 := Rep.mono (e2.trans g2.ff) i3
    refine st_loop (xs := (List.range (n + 1)).reverse) (fun j Fj σ' H' => Grow F0 H Fj H' ∧ Fj p = none ∧ ∃ kvs t5 t6, H' p = some (.dT kvs) ∧ kvs.length ≤ 9 * i + j ∧ WyR kvs (part n w i j) ∧ σ' = [some v1, some v2, some v3, some (.ref p), some v4, t5, t6])
      (ei_down (ea_cons (et_var rfl i3) (ea2 (et_neg et_int) (et_neg et_int))) (by omega)) g2.fh (fun F3 H3 g3 => ⟨gi.trans (g2.trans g3), g3.off (g2.off hFi hHi) (g2.hh _ _ hHi), kvs, t5, t6, g3.hh _ _ (g2.hh _ _ hHi), hki, hwi, rfl⟩) ?_ ?_
    · rintro N2 j y Fj σ' H' v5 F3 H3 hy e3 ⟨gj, hFj, kvs, t5, t6, hHj, hkj, hwj, rfl⟩ g3 i5 k2
      obtain ⟨rfl, hjn⟩ := down_at hy
      have i2 := Rep.mono (e3.trans g3.ff) i2
      have i3 := Rep.mono (e3.trans g3.ff) i3
      have i4 := Rep.mono (e3.trans g3.ff) i4
      have hF3 := g3.off hFj hHj
      have hH3 := g3.hh _ _ hHj
      refine st_set (et_pair (x := n - i) (y := n - j) (et_var rfl i4) (et_var rfl i5)) g3.fh fun v6 F4 H4 g4 i6 => ?_
      have i6 : Is F4 v6 (n - i, n - j) := i6
      have hF4 := g4.off hF3 hH3
      have hH4 := g4.hh _ _ hH3
      have i2 := Rep.mono g4.ff i2
      have i3 := Rep.mono g4.ff i3
      have i4 := Rep.mono g4.ff i4
      have i5 := Rep.mono g4.ff i5
      have e24 : Ex Fj F4 := g3.ff.trans g4.ff
      have gj4 := gj.trans (g3.trans g4)
      have fin : ∀ m v F5 H5, Grow F4 H4 F5 H5 → F5 p = none → H5 p = some (.dT kvs) → Is F5 v (m : Nat) → m = w (n - i, n - j) → N2 [some v1, some v2, some v3, some (.ref p), some v4, some v5, some v6] (upd H5 p (.dT (putK kvs (kC (n - i, n - j)) v))) := by
        rintro m v F5 H5 g5 hF5 hH5 iv rfl
        have g6 := (gj4.trans g5).mut hF5 h0 (o := .dT (putK kvs (kC (n - i, n - j)) v))
        refine k2 F5 _ _ (e24.trans g5.ff) g6.fh ⟨g6, hF5, _, some v5, some v6, upd_same, Nat.le_trans (length_putK _ _ _) (by omega), ?_, rfl⟩
        rw [← part_next hin hjn, show v = .int (w (n - i, n - j) : Nat) from iv]
        exact wy_put hwj _ _
      refine st_if (b := bd.f (n - i, n - j)) (eb_B (et_inB (et_var rfl i6) (et_var rfl i2))) g4.fh (fun hb1 F5 H5 g5 => ?_) fun hb1 F5 H5 g5 => ?_
      · have hF5 := g5.off hF4 hH4
        have hH5 := g5.hh _ _ hH4
        refine st_putB (c := (n - i, n - j)) (et_nat (i := 0) (n := 0)) (raw_var rfl) (et_var rfl (Rep.mono g5.ff i6)) g5.fh hF5 hH5 (by omega) fun v F6 H6 g6 hF6 hH6 iv => ?_
        exact fin 0 v F6 H6 (g5.trans g6) hF6 hH6 iv (W.bar_ _ hb1).symm
      · have hF5 := g5.off hF4 hH4
        have hH5 := g5.hh _ _ hH4
        have i3 := Rep.mono g5.ff i3
        have i4 := Rep.mono g5.ff i4
        have i5 := Rep.mono g5.ff i5
        have i6 := Rep.mono g5.ff i6
        refine st_if (b := decide ((n - i, n - j) = (n, n))) (eb_test (et_eqC (et_var rfl i6) (et_pair (et_var rfl i3) (et_var rfl i3)))) g5.fh (fun hb2 F6 H6 g6 => ?_) fun hb2 F6 H6 g6 => ?_
        · have hF6 := g6.off hF5 hH5
          have hH6 := g6.hh _ _ hH5
          refine st_putB (c := (n - i, n - j)) (et_nat (i := 1) (n := 1)) (raw_var rfl) (et_var rfl (Rep.mono g6.ff i6)) g6.fh hF6 hH6 (by omega) fun v F7 H7 g7 hF7 hH7 iv => ?_
          have hc := of_decide_eq_true hb2
          refine fin 1 v F7 H7 (g5.trans (g6.trans g7)) hF7 hH7 iv ?_
          rw [hc]
          rw [hc] at hb1
          exact (W.end_ hb1).symm
        · have hF6 := g6.off hF5 hH5
          have hH6 := g6.hh _ _ hH5
          have i4 := Rep.mono g6.ff i4
          have i5 := Rep.mono g6.ff i5
          have i6 := Rep.mono g6.ff i6
          have j4 := Rep.mono (ex_upd (o := .dT kvs) hF6) i4
          have j5 := Rep.mono (ex_upd (o := .dT kvs) hF6) i5
          have jd : Is (upd F6 p (.dT kvs)) (.ref p) (Wy.mk (part n w i j)) := ⟨p, kvs, rfl, upd_same, hwj⟩
          refine st_putB (c := (n - i, n - j)) (x := part n w i j (n - i + 1, n - j) + part n w i j (n - i, n - j + 1)) (et_addN (et_get0 (w := Wy.mk (part n w i j)) (c := (n - i + 1, n - j)) (et_var rfl jd) (et_pair (et_addN (et_var rfl j4) (et_nat (i := 1) (n := 1))) (et_var rfl j5))) (et_get0 (w := Wy.mk (part n w i j)) (c := (n - i, n - j + 1)) (et_var rfl jd) (et_pair (et_var rfl j4) (et_addN (et_var rfl j5) (et_nat (i := 1) (n := 1)))))) (raw_var rfl) (et_var rfl i6) g6.fh hF6 hH6 (by omega) fun v F7 H7 g7 hF7 hH7 iv => ?_
          refine fin _ v F7 H7 (g5.trans (g6.trans g7)) hF7 hH7 iv ?_
          rw [part_down W hin, part_right W hin hjn]
          exact (W.step (n - i, n - j) (Nat.sub_le _ _) (Nat.sub_le _ _) hb1 (of_decide_eq_false hb2)).symm
    rintro Fj σ' H' e3 e4 ⟨gj, hFj, kvs, t5, t6, hHj, hkj, hwj, rfl⟩
    rw [List.length_reverse, List.length_range] at hkj hwj
    rw [part_row] at hwj
    exact k Fj _ _ (g2.ff.trans e3) e4 ⟨gj, hFj, kvs, some v4, t5, t6, hHj, by omega, hwj, rfl⟩
  rintro Fi σ' H' e2 e3 ⟨gi, hFi, kvs, t4, t5, t6, hHi, hki, hwi, rfl⟩
  rw [List.length_reverse, List.length_range, part_end W] at hwi
  dsimp only
  exact ⟨.ref p, rfl, q _ _ _ (gi.frz hFi h0 hHi) ⟨p, kvs, rfl, upd_same, hwi⟩⟩

end
end LT
/-! ## W7 -/
set_option Elab.async false
set_option linter.all false
set_option maxRecDepth 100000
set_option maxHeartbeats 4000000
namespace LT
open PySem PySem.Spec PyProof.Rows L2
section
variable {P : Program} {w : World} {K : PySem.W.Frag} {mg : Str → Option Value} {base : Heap}
/-! ### order_index, label_first, follows -/
def idxTo (w : Nat × Nat → Nat) (l : List Bool) : Nat → Nat
  | 0 => 0
  | k + 1 => idxTo w l k + (if l[k]? = some false then w (mv (cellAt l k) true) else 0)
theorem cellsOf_zip {l : List Bool} {i : Nat} {p : (Nat × Nat) × Ltr} (h : ((cellsOf l).zip (l.map Ltr.mk))[i]? = some p) : p.1 = cellAt l i ∧ l[i]? = some p.2.b := by
  obtain ⟨h1, h2⟩ := zip_get h
  rw [List.getElem?_map] at h2
  cases eb : l[i]? with
  | none => rw [eb] at h2; cases h2
  | some b =>
    rw [eb] at h2
    have hi := (List.getElem?_eq_some_iff.mp eb).1
    unfold cellsOf at h1
    rw [List.getElem?_map, List.getElem?_range (by omega)] at h1
    have e1 := Option.some.inj h1
    have e2 := Option.some.inj h2
    rw [← e2]
    exact ⟨e1.symm, rfl⟩
abbrev N_order_index : List Str := ["book", "order", "ways", "found", "cell", "letter"]
theorem sc_order_index : FnScope N_order_index ["book", "order"] (defScope s_order_index) := ⟨rfl, rfl, rfl, by decide +kernel, rfl, by decide +kernel, by decide +kernel⟩
theorem ok_order_index (T : Top K mg) : Cal P w K mg base 6 "order_index" (spP (A := BkK K × Od × Unit) (fun (b, o, _) => b.ch.length ≤ 7 ∧ Good b.ch.length b.ps o.l) fun (b, o, _) => idxTo (waysF b.ch.length fun c => decide (c ∈ bad b.ps)) o.l o.l.length) := by
  obtain ⟨fd, Fd, b⟩ := T.f_order_index
  refine cal_of Fd T.g_order_index b sc_order_index rfl fun cdv Ar outer s H vs Q E hr F0 args e0 ha hp q => ?_
  have hu := hu_of hr
  refine ⟨_, (pss_cons (ps_expr (pe_cal (ok_need_good T) hr (by decide) rfl (pa_cons (pv 0) (pa_cons (pv 1) pa_nil))))
    (pss_cons (ps_par (i := 2) (j := 3) (by rfl) sc_order_index.nd rfl rfl (by decide) rfl rfl (pa_cons (pe_cal (ok_ways_onL T) hr (by decide) rfl (pa_cons (pv 0) (pa_cons (pe_cal (ok_bad_cells T) hr (by decide) rfl (pa_cons (pv 0) pa_nil)) pa_nil))) (pa_cons pe_int pa_nil)) (by rfl))
    (pss_cons (ps_for PassesOwn.never rfl (pi_zipS (by rfl) T.m_zip (pa_cons (pe_cal (ok_cells_of T) hr (by decide) rfl (pa_cons (pv 1) pa_nil)) (pa_cons (pv 1) pa_nil))) (pg_tup rfl (pgs_cons (pg_name (i := 4) sc_order_index.nd rfl (by first | exact Or.inl rfl | exact Or.inr rfl)) (pgs_cons (pg_name (i := 5) sc_order_index.nd rfl (by first | exact Or.inl rfl | exact Or.inr rfl)) pgs_nil))) (pss_one (ps_if (pt_cmpR op_eq (pv 5) pe_str (nomark _)) (pss_one (ps_aug (i := 3) sc_order_index.nd rfl (by first | exact Or.inl rfl | exact Or.inr rfl) (pe_dget2 hu (pv 2) (pe_cal (ok_moved_on T) hr (by decide) rfl (pa_cons (pv 4) (pa_cons pe_str pa_nil))) pe_int ⟨rfl, rfl, rfl, rfl⟩) ip_add)) pss_nil)))
    (pss_one (ps_ret (pv 3)))))), ?_⟩
  obtain ⟨v1, ws1, rfl, i1, v2, ws2, rfl, i2, rfl⟩ := ha
  obtain ⟨b, o, u_⟩ := args
  have i1 : Is F0 v1 b := i1
  have i2 : Is F0 v2 o := i2
  obtain ⟨hb, ho⟩ : b.ch.length ≤ 7 ∧ Good b.ch.length b.ps o.l := hp
  have hol := ho.ord.len
  have q : ∀ v F2 H2, Grow F0 H F2 H2 → Is F2 v (idxTo (waysF b.ch.length fun c => decide (c ∈ bad b.ps)) o.l o.l.length) → Q v H2 := q
  dsimp only [tSeq]
  refine st_drop (et_call (args := (b, o, ())) (ea2 (et_var rfl i1) (et_var rfl i2)) ⟨hb, ho⟩) e0 fun _ F1 H1 g1 _ => ?_
  have i1 := Rep.mono g1.ff i1
  have i2 := Rep.mono g1.ff i2
  dsimp only
  refine st_par (R := fun G v => Is G v (Wy.mk (waysF b.ch.length fun c => decide (c ∈ bad b.ps)))) (S := fun G v => Is G v (0 : Nat)) ?x (fun _ _ => et_nat (i := 0) (n := 0)) (fun e i => Rep.mono e i) g1.fh fun v3 v4 F2 H2 g2 i3 i4 => ?_
  case x => exact et_call (args := (b, bad b.ps, ())) (ea2 (et_var rfl i1) (et_call (args := (b, ())) (ea1 (et_var rfl i1)) hb)) hb
  have i2 := Rep.mono g2.ff i2
  generalize waysF b.ch.length (fun c => decide (c ∈ bad b.ps)) = w at i3 q
  dsimp only
  refine st_loop (xs := (cellsOf o.l).zip (o.l.map Ltr.mk)) (fun i Fi σ' H' => Grow F0 H Fi H' ∧ ∃ v4 t5 t6, Is Fi v4 (idxTo w o.l i) ∧ σ' = [some v1, some v2, some v3, some v4, t5, t6])
    (ei_zipS (x := cellsOf o.l) (y := o) (ea2 (et_call (args := (o, ())) (ea1 (et_var rfl i2)) (show o.l.length ≤ 100 by omega)) (et_var rfl i2))) g2.fh (fun F3 H3 g3 => ⟨g1.trans (g2.trans g3), v4, none, none, i4, rfl⟩) ?_ ?_
  · rintro N i x Fi σ' H' v F3 H3 hx e3 ⟨gi, v4, t5, t6, i4, rfl⟩ g3 iv k
    obtain ⟨hx1, hx2⟩ := cellsOf_zip hx
    have i3 := Rep.mono (e3.trans g3.ff) i3
    have i4 := Rep.mono g3.ff i4
    refine gt_pair g3.fh iv fun u1 u2 j1 j2 => ?_
    refine st_if (b := !x.2.b) (eb_test (et_isT (et_var rfl j2))) g3.fh (fun hb1 F4 H4 g4 => ?_) fun hb1 F4 H4 g4 => ?_
    · have i3 := Rep.mono g4.ff i3
      have i4 := Rep.mono g4.ff i4
      have j1 := Rep.mono g4.ff j1
      refine st_aug (a := (idxTo w o.l i : Nat)) (b := (w (mv x.1 true) : Nat)) rfl i4 (et_get0 (w := Wy.mk w) (et_var rfl i3) (et_call (args := (x.1, Ltr.mk true, ())) (ea2 (et_var rfl j1) et_L) trivial)) g4.fh fun F5 H5 g5 => ?_
      refine k F5 _ H5 (g3.ff.trans (g4.ff.trans g5.ff)) g5.fh ⟨gi.trans (g3.trans (g4.trans g5)), _, _, _, ?_, rfl⟩
      have hb2 : x.2.b = false := by revert hb1; cases x.2.b <;> simp
      rw [idxTo, hx2, hb2, if_pos rfl, ← hx1]
      exact congrArg V.int (by omega)
    · refine k F4 _ H4 (g3.ff.trans g4.ff) g4.fh ⟨gi.trans (g3.trans g4), _, _, _, ?_, rfl⟩
      have hb2 : x.2.b = true := by revert hb1; cases x.2.b <;> simp
      rw [idxTo, hx2, hb2, if_neg (by simp)]
      exact Rep.mono g4.ff i4
  rintro F3 σ' H3 e3 e4 ⟨g, v4, t5, t6, i4, rfl⟩
  rw [List.length_zip, cellsOf_len, List.length_map, Nat.min_eq_right (by omega)] at i4
  dsimp only
  exact ⟨v4, rfl, q _ _ _ g i4⟩
def places (l : List Bool) (b : Bool) : List Nat := ((en (l.map Ltr.mk)).filter fun p => decide (p.2.b = b)).map (·.1)
def placeOf (l : List Bool) (b : Bool) (m : Nat) : Nat := (places l b).getD (m - 1) 0
abbrev N_place_of : List Str := ["order", "letter", "many", "at", "sign"]
theorem sc_place_of : FnScope N_place_of ["order", "letter", "many"] (defScope s_place_of) := ⟨rfl, rfl, rfl, by decide +kernel, rfl, by decide +kernel, by decide +kernel⟩
theorem ok_place_of (T : Top K mg) : Cal P w K mg base 1 "place_of" (spP (A := Od × Ltr × Nat × Unit) (fun (o, b, m, _) => o.l.length ≤ 100 ∧ 1 ≤ m ∧ m ≤ (places o.l b.b).length) fun (o, b, m, _) => placeOf o.l b.b m) := by
  obtain ⟨fd, Fd, b⟩ := T.f_place_of
  refine cal_of Fd T.g_place_of b sc_place_of rfl fun cdv Ar outer s H vs Q E hr F0 args e0 ha hp q => ?_
  have hu := hu_of hr
  refine ⟨_, (pss_one (ps_ret (pe_ix ix_seq (pe_lc (own := [("at", 3), ("sign", 4)]) rfl sc_place_of.nd (pi_enumT (by rfl) T.m_enumerate (pa_cons (pv 0) pa_nil)) (blkOk_by (N := N_place_of) (sc := defScope s_place_of) (own := [("at", 3), ("sign", 4)]) (by decide +kernel)) (fun _ _ _ _ _ => (pg_tupK (K := K) (n := 2) (by rfl) (by rfl) (pgs_cons (pg_name (i := 3) sc_place_of.nd rfl (by first | exact Or.inl rfl | exact Or.inr rfl)) (pgs_cons (pg_name (i := 4) sc_place_of.nd rfl (by first | exact Or.inl rfl | exact Or.inr rfl)) pgs_nil)))) (fun _ _ _ _ _ => (pts_one (pt_cmpR op_eq (pv 4) (pv 1) (nomark _)))) (fun _ _ _ _ _ => (pv 3))) (pe_op op_sub (pv 2) pe_int) (fun _ _ => rfl)))), ?_⟩
  obtain ⟨v1, ws1, rfl, i1, v2, ws2, rfl, i2, v3, ws3, rfl, i3, rfl⟩ := ha
  obtain ⟨o, b, m, u_⟩ := args
  have i1 : Is F0 v1 o := i1
  have i2 : Is F0 v2 b := i2
  have i3 : Is F0 v3 m := i3
  obtain ⟨hl, h1, h2⟩ : o.l.length ≤ 100 ∧ 1 ≤ m ∧ m ≤ (places o.l b.b).length := hp
  have hgx : (places o.l b.b)[m - 1]? = some (placeOf o.l b.b m) := getD_get (xs := places o.l b.b) (i := m - 1) (by omega)
  refine st_ret (et_ixL (xs := places o.l b.b) (i := m - 1) (x := placeOf o.l b.b m) ?x (et_subN (et_var rfl i3) (et_nat (i := 1) (n := 1)) h1) hgx) e0 q
  exact et_lcP (xs := en (o.l.map Ltr.mk)) (p := fun p => decide (p.2.b = b.b)) (f := (·.1)) (ei_enumT (ea1 (et_var rfl i1))) (fun _ _ => rfl) (fun x hx F1 v u e i j => eb_test (et_eqLL (et_var rfl j) (et_var rfl (Rep.mono e i2)))) (fun x hx F1 v u e i j _ => et_var rfl i) (by rw [en_len, List.length_map]; omega)
def lf (l : List Bool) (c : Nat × Nat) : Bool := decide (0 < c.2) && decide (c.1 < (l.take (placeOf l false c.2)).count true)
abbrev N_label_first : List Str := ["order", "cell", "one", "other"]
theorem sc_label_first : FnScope N_label_first ["order", "cell"] (defScope s_label_first) := ⟨rfl, rfl, rfl, by decide +kernel, rfl, by decide +kernel, by decide +kernel⟩
theorem ok_label_first (T : Top K mg) : Cal P w K mg base 2 "label_first" (spP (A := Od × (Nat × Nat) × Unit) (fun (o, c, _) => o.l.length ≤ 100 ∧ c.2 ≤ (places o.l false).length) fun (o, c, _) => lf o.l c) := by
  obtain ⟨fd, Fd, b⟩ := T.f_label_first
  refine cal_of Fd T.g_label_first b sc_label_first rfl fun cdv Ar outer s H vs Q E hr F0 args e0 ha hp q => ?_
  have hu := hu_of hr
  refine ⟨_, (pss_cons (ps_asg (pv 1) (pg_tup rfl (pgs_cons (pg_name (i := 2) sc_label_first.nd rfl (by first | exact Or.inl rfl | exact Or.inr rfl)) (pgs_cons (pg_name (i := 3) sc_label_first.nd rfl (by first | exact Or.inl rfl | exact Or.inr rfl)) pgs_nil))))
    (pss_one (ps_ret (pe_and (pe_cmpR op_gt (pv 3) pe_int (nomark _)) (pe_one (pe_cmpR op_gt (pe_m1 PySem.F.slot_str_count PySem.F.type_str_count mt_count (pe_slice sl_str (pv 0) po_none (po_some (pe_cal (ok_place_of T) hr (by decide) rfl (pa_cons (pv 0) (pa_cons pe_str (pa_cons (pv 3) pa_nil)))))) pe_str) (pv 2) (nomark _))))))), ?_⟩
  obtain ⟨v1, ws1, rfl, i1, v2, ws2, rfl, i2, rfl⟩ := ha
  obtain ⟨o, c, u_⟩ := args
  have i1 : Is F0 v1 o := i1
  have i2 : Is F0 v2 c := i2
  obtain ⟨hl, h1⟩ : o.l.length ≤ 100 ∧ c.2 ≤ (places o.l false).length := hp
  have q : ∀ v F2 H2, Grow F0 H F2 H2 → Is F2 v (lf o.l c) → Q v H2 := q
  dsimp only [tSeq]
  refine st_unpack (et_var rfl i2) e0 fun u w F1 H1 g1 j1 j2 => ?_
  have i1 := Rep.mono g1.ff i1
  dsimp only
  exact st_ret (et_andV (et_gtN (et_var rfl j2) (et_nat (i := 0) (n := 0))) fun h => et_gtN (et_cntL (o := Od.mk (o.l.take (placeOf o.l false c.2))) (et_slO (et_var rfl i1) (et_call (args := (o, Ltr.mk false, c.2, ())) (ea_cons (et_var rfl i1) (ea2 et_T (et_var rfl j2))) ⟨hl, of_decide_eq_true h, h1⟩) (by omega)) true fun _ => is_L) (et_var rfl j1)) g1.fh
    fun v F2 H2 g2 i => q v F2 H2 (g1.trans g2) i
abbrev FlArgs (K : PySem.W.Frag) := BkK K × Pr × Pr × Pr × Pln × Od × Unit
structure Follows (n : Nat) (ps : List Int) (lb tl gp : Pr) (pl : Pln) (l : List Bool) : Prop where
  good : Good n ps l
  plc : n ≤ (places l false).length
  lab : ∀ c ∈ bad ps, lf l c = true → LL lb tl gp pl c = true
  til : ∀ c ∈ bad ps, lf l c = false → TL lb tl gp pl c = true
abbrev N_follows : List Str := ["book", "label", "till", "gap", "plan", "order", "cell", "leaves"]
theorem sc_follows : FnScope N_follows ["book", "label", "till", "gap", "plan", "order"] (defScope s_follows) := ⟨rfl, rfl, rfl, by decide +kernel, rfl, by decide +kernel, by decide +kernel⟩
theorem ok_follows (T : Top K mg) : Cal P w K mg base 6 "follows" (spP (A := FlArgs K) (fun (b, lb, tl, gp, pl, o, _) => b.ch.length ≤ 7 ∧ pl.1.length = b.ch.length ∧ pl.2.length = b.ch.length ∧ Follows b.ch.length b.ps lb tl gp pl o.l) fun _ => true) := by
  obtain ⟨fd, Fd, b⟩ := T.f_follows
  refine cal_of Fd T.g_follows b sc_follows rfl fun cdv Ar outer s H vs Q E hr F0 args e0 ha hp q => ?_
  have hu := hu_of hr
  refine ⟨_, (pss_cons (ps_expr (pe_cal (ok_need_good T) hr (by decide) rfl (pa_cons (pv 0) (pa_cons (pv 5) pa_nil))))
    (pss_cons (ps_for PassesOwn.never rfl (pi_list (pe_cal (ok_bad_cells T) hr (by decide) rfl (pa_cons (pv 0) pa_nil))) (pg_name (i := 6) sc_follows.nd rfl (by first | exact Or.inl rfl | exact Or.inr rfl)) (pss_cons (ps_set (i := 7) sc_follows.nd rfl (by first | exact Or.inl rfl | exact Or.inr rfl) (pe_ifExp (pt_val (pe_cal (ok_label_first T) hr (by decide) rfl (pa_cons (pv 5) (pa_cons (pv 6) pa_nil)))) (pe_glob (v := .ref (He.ga K "label_leaves")) rfl T.g_label_leaves rfl) (pe_glob (v := .ref (He.ga K "till_leaves")) rfl T.g_till_leaves rfl)))
    (pss_one (ps_if (pt_not (pt_val (C8.pe_cv (i := 7) (calAt (ok_label_leaves T) T.g_label_leaves) (calAt (ok_till_leaves T) T.g_till_leaves) hr (by decide) (by decide) rfl (by first | exact Or.inl rfl | exact Or.inr (Or.inl rfl)) (pa_cons (pv 1) (pa_cons (pv 2) (pa_cons (pv 3) (pa_cons (pv 4) (pa_cons (pv 6) pa_nil)))))))) (pss_one (ps_ret pe_bl)) pss_nil))))
    (pss_one (ps_ret pe_bl)))), ?_⟩
  obtain ⟨v1, ws1, rfl, i1, v2, ws2, rfl, i2, v3, ws3, rfl, i3, v4, ws4, rfl, i4, v5, ws5, rfl, i5, v6, ws6, rfl, i6, rfl⟩ := ha
  obtain ⟨b, lb, tl, gp, pl, o, u_⟩ := args
  have i1 : Is F0 v1 b := i1
  have i2 : Is F0 v2 lb := i2
  have i3 : Is F0 v3 tl := i3
  have i4 : Is F0 v4 gp := i4
  have i5 : Is F0 v5 pl := i5
  have i6 : Is F0 v6 o := i6
  obtain ⟨hb, hp1, hp2, hf⟩ : b.ch.length ≤ 7 ∧ pl.1.length = b.ch.length ∧ pl.2.length = b.ch.length ∧ Follows b.ch.length b.ps lb tl gp pl o.l := hp
  have hol := hf.good.ord.len
  have hl := b.ps_len
  have hpl := hf.plc
  dsimp only [tSeq]
  refine st_drop (et_call (args := (b, o, ())) (ea2 (et_var rfl i1) (et_var rfl i6)) ⟨hb, hf.good⟩) e0 fun _ F1 H1 g1 _ => ?_
  have i1 := Rep.mono g1.ff i1
  have i2 := Rep.mono g1.ff i2
  have i3 := Rep.mono g1.ff i3
  have i4 := Rep.mono g1.ff i4
  have i5 := Rep.mono g1.ff i5
  have i6 := Rep.mono g1.ff i6
  dsimp only
  refine st_loop (xs := bad b.ps) (fun i Fi σ' H' => Grow F0 H Fi H' ∧ ∃ t7 t8, σ' = [some v1, some v2, some v3, some v4, some v5, some v6, t7, t8])
    (ei_list (et_call (args := (b, ())) (ea1 (et_var rfl i1)) hb)) g1.fh (fun F3 H3 g3 => ⟨g1.trans g3, none, none, rfl⟩) ?_ ?_
  · rintro N i x Fi σ' H' v F3 H3 hx e3 ⟨gi, t7, t8, rfl⟩ g3 iv k
    have i2 := Rep.mono (e3.trans g3.ff) i2
    have i3 := Rep.mono (e3.trans g3.ff) i3
    have i4 := Rep.mono (e3.trans g3.ff) i4
    have i5 := Rep.mono (e3.trans g3.ff) i5
    have i6 := Rep.mono (e3.trans g3.ff) i6
    have hmx := List.mem_of_getElem? hx
    have hm := mem_bad.mp hmx
    have hc : x.1 ≤ pl.1.length ∧ x.2 ≤ pl.2.length := by omega
    have hs1 : o.l.length ≤ 100 := by omega
    have hs2 : x.2 ≤ (places o.l false).length := by omega
    dsimp only [gName, tSeq]
    refine st_set (R := fun _ v => v = .ref (if lf o.l x = true then He.ga K "label_leaves" else He.ga K "till_leaves")) ?x g3.fh fun w F4 H4 g4 hw => ?_
    case x =>
      refine er_if (b := lf o.l x) (fun _ h => h) (eb_B (et_call (args := (o, x, ())) (ea2 (et_var rfl i6) (et_var rfl iv)) ⟨hs1, hs2⟩)) (fun h => ?_) fun h => ?_
      · rw [h, if_pos rfl]
        exact fun H e Q k => k _ _ H (.refl e) rfl
      · rw [h, if_neg Bool.false_ne_true]
        exact fun H e Q k => k _ _ H (.refl e) rfl
    have i2 := Rep.mono g4.ff i2
    have i3 := Rep.mono g4.ff i3
    have i4 := Rep.mono g4.ff i4
    have i5 := Rep.mono g4.ff i5
    have iv := Rep.mono g4.ff iv
    dsimp only
    refine st_no (eb_not (b := true) (eb_B ?y)) g4.fh fun F5 H5 g5 => ?_
    case y =>
      have ha : ∀ w, EA (tCons (tVar 1) (tCons (tVar 2) (tCons (tVar 3) (tCons (tVar 4) (tCons (tVar 6) tNil))))) [some v1, some v2, some v3, some v4, some v5, some v6, some v, w] F4 ((lb, tl, gp, pl, x, ()) : PlArgs) := fun w => ea_cons (et_var rfl i2) (ea_cons (et_var rfl i3) (ea_cons (et_var rfl i4) (ea2 (et_var rfl i5) (et_var rfl iv))))
      cases hlf : lf o.l x with
      | true =>
        rw [hlf, if_pos rfl] at hw
        subst hw
        intro H e Q k
        exact .inl ⟨rfl, ET.to (et_call (E := E0) (ha _) hc) (hf.lab x hmx hlf) H e Q k⟩
      | false =>
        rw [hlf, if_neg Bool.false_ne_true] at hw
        subst hw
        intro H e Q k
        exact .inr ⟨rfl, ET.to (et_call (E := E0) (ha _) hc) (hf.til x hmx hlf) H e Q k⟩
    exact k F5 _ H5 (g3.ff.trans (g4.ff.trans g5.ff)) g5.fh ⟨gi.trans (g3.trans (g4.trans g5)), _, _, rfl⟩
  rintro F3 σ' H3 e3 e4 ⟨g, t7, t8, rfl⟩
  dsimp only
  exact st_ret et_bl e4 fun v F4 H4 g4 i => q v F4 H4 (g.trans g4) i

end
end LT
/-! ## W8 -/
set_option Elab.async false
set_option linter.all false
set_option maxRecDepth 100000
set_option maxHeartbeats 4000000
namespace LT
open PySem PySem.Spec PyProof.Rows L2
section
variable {P : Program} {w : World} {K : PySem.W.Frag} {mg : Str → Option Value} {base : Heap}
/-! ### order_followed -/
instance {α : Type} [Rep α] : Rep (Option α) := ⟨fun F v x => match x with
  | none => v = .non
  | some y => Rep.is F v y, fun {F G v x} e h => by
    cases x with
    | none => exact h
    | some y => exact Rep.mono e h⟩
/-- what a bad cell bars -/
def rectB (n : Nat) (lb tl gp : Pr) (pl : Pln) (c d : Nat × Nat) : Bool := if LL lb tl gp pl c = true then decide (d.1 ≤ c.1) && (decide (c.2 ≤ d.2) && decide (d.2 ≤ n)) else (decide (c.1 ≤ d.1) && decide (d.1 ≤ n)) && decide (d.2 ≤ c.2)
def barF (n : Nat) (ps : List Int) (lb tl gp : Pr) (pl : Pln) (d : Nat × Nat) : Bool := (bad ps).any fun c => rectB n lb tl gp pl c d
def greedy (w : Nat × Nat → Nat) : Nat → Nat × Nat → List Bool
  | 0, _ => []
  | k + 1, c => decide (0 < w (mv c true)) :: greedy w k (mv c (decide (0 < w (mv c true))))
theorem greedy_len {w : Nat × Nat → Nat} : ∀ {k : Nat} {c : Nat × Nat}, (greedy w k c).length = k
  | 0, _ => rfl
  | k + 1, c => by rw [greedy, List.length_cons, greedy_len]
def oFol (n : Nat) (ps : List Int) (lb tl gp : Pr) (pl : Pln) : Option Od := if someMeet ps lb tl gp pl = true then none else some ⟨greedy (waysF n (barF n ps lb tl gp pl)) (2 * n) (0, 0)⟩
theorem any_take {α : Type} {p : α → Bool} {xs : List α} {i : Nat} {x : α} (h : xs[i]? = some x) : (xs.take (i + 1)).any p = (p x || (xs.take i).any p) := by
  rw [List.take_add_one, h, List.any_append, Bool.or_comm]
  simp
theorem od_nil {G : Hp} : Is G (.str "") (Od.mk []) := by
  show V.str "" = V.str (Od.mk []).str
  exact congrArg V.str (by decide)
abbrev N_order_followed : List Str := ["book", "label", "till", "gap", "plan", "barred", "last", "one", "other", "i", "j", "ways", "cell", "found", "letter"]
theorem sc_order_followed : FnScope N_order_followed ["book", "label", "till", "gap", "plan"] (defScope s_order_followed) := ⟨rfl, rfl, rfl, by decide +kernel, rfl, by decide +kernel, by decide +kernel⟩
theorem ok_order_followed (T : Top K mg) : Cal P w K mg base 5 "order_followed" (spP (A := HmArgs K) (fun (b, lb, tl, gp, pl, _) => b.ch.length ≤ 7 ∧ pl.1.length = b.ch.length ∧ pl.2.length = b.ch.length) fun (b, lb, tl, gp, pl, _) => oFol b.ch.length b.ps lb tl gp pl) := by
  obtain ⟨fd, Fd, b⟩ := T.f_order_followed
  refine cal_of Fd T.g_order_followed b sc_order_followed rfl fun cdv Ar outer s H vs Q E hr F0 args e0 ha hp q => ?_
  have hu := hu_of hr
  refine ⟨_, (pss_cons (ps_asg (pe_tup (pa_cons pe_dnewT (pa_cons (pe_op op_sub (pe_callB (call_lenO (ok_Book_len T) hr (by decide)) (by rfl) T.m_len (by decide +kernel) (pa_cons (pv 0) pa_nil)) pe_int) pa_nil))) (pg_tup rfl (pgs_cons (pg_name (i := 5) sc_order_followed.nd rfl (by first | exact Or.inl rfl | exact Or.inr rfl)) (pgs_cons (pg_name (i := 6) sc_order_followed.nd rfl (by first | exact Or.inl rfl | exact Or.inr rfl)) pgs_nil))))
    (pss_cons (ps_for PassesOwn.never rfl (pi_list (pe_cal (ok_bad_cells T) hr (by decide) rfl (pa_cons (pv 0) pa_nil))) (pg_tup rfl (pgs_cons (pg_name (i := 7) sc_order_followed.nd rfl (by first | exact Or.inl rfl | exact Or.inr rfl)) (pgs_cons (pg_name (i := 8) sc_order_followed.nd rfl (by first | exact Or.inl rfl | exact Or.inr rfl)) pgs_nil))) (pss_one (ps_if (pt_val (pe_cal (ok_label_leaves T) hr (by decide) rfl (pa_cons (pv 1) (pa_cons (pv 2) (pa_cons (pv 3) (pa_cons (pv 4) (pa_cons (pe_tup (pa_cons (pv 7) (pa_cons (pv 8) pa_nil))) pa_nil))))))) (pss_one (ps_expr (pe_bm PySem.F.plainAttrs_dict PySem.F.slot_dict_update PySem.F.type_dict_update (mt_updT hu) (pv 5) (pa_cons (pe_dc2 (own := [("i", 9), ("j", 10)]) (vs1 := [10]) rfl hu sc_order_followed.nd (pi_range1 (by rfl) T.m_range (pa_cons (pe_op op_add (pv 7) pe_int) pa_nil)) (blkOk_by (N := N_order_followed) (sc := defScope s_order_followed) (own := [("i", 9), ("j", 10)]) (by decide +kernel)) (by decide) (fun _ _ _ _ _ => (pg_name (i := 9) sc_order_followed.nd rfl (by first | exact Or.inl rfl | exact Or.inr rfl))) (fun _ _ _ _ _ => pts_nil) (fun _ _ _ _ _ => (pi_range2 (by rfl) T.m_range (pa_cons (pv 8) (pa_cons (pe_op op_add (pv 6) pe_int) pa_nil)))) (fun _ _ _ _ _ => (pg_name (i := 10) sc_order_followed.nd rfl (by first | exact Or.inl rfl | exact Or.inr rfl))) (fun _ _ _ _ _ => pts_nil) (fun _ _ _ _ _ => (pe_tup (pa_cons (pv 9) (pa_cons (pv 10) pa_nil)))) (fun _ _ _ _ _ => pe_bl)) pa_nil)))) (pss_one (ps_if (pt_val (pe_cal (ok_till_leaves T) hr (by decide) rfl (pa_cons (pv 1) (pa_cons (pv 2) (pa_cons (pv 3) (pa_cons (pv 4) (pa_cons (pe_tup (pa_cons (pv 7) (pa_cons (pv 8) pa_nil))) pa_nil))))))) (pss_one (ps_expr (pe_bm PySem.F.plainAttrs_dict PySem.F.slot_dict_update PySem.F.type_dict_update (mt_updT hu) (pv 5) (pa_cons (pe_dc2 (own := [("i", 9), ("j", 10)]) (vs1 := [10]) rfl hu sc_order_followed.nd (pi_range2 (by rfl) T.m_range (pa_cons (pv 7) (pa_cons (pe_op op_add (pv 6) pe_int) pa_nil))) (blkOk_by (N := N_order_followed) (sc := defScope s_order_followed) (own := [("i", 9), ("j", 10)]) (by decide +kernel)) (by decide) (fun _ _ _ _ _ => (pg_name (i := 9) sc_order_followed.nd rfl (by first | exact Or.inl rfl | exact Or.inr rfl))) (fun _ _ _ _ _ => pts_nil) (fun _ _ _ _ _ => (pi_range1 (by rfl) T.m_range (pa_cons (pe_op op_add (pv 8) pe_int) pa_nil))) (fun _ _ _ _ _ => (pg_name (i := 10) sc_order_followed.nd rfl (by first | exact Or.inl rfl | exact Or.inr rfl))) (fun _ _ _ _ _ => pts_nil) (fun _ _ _ _ _ => (pe_tup (pa_cons (pv 9) (pa_cons (pv 10) pa_nil)))) (fun _ _ _ _ _ => pe_bl)) pa_nil)))) (pss_one (ps_ret pe_non)))))))
    (pss_cons (ps_par3 (i := 11) (j := 12) (l := 13) (by rfl) sc_order_followed.nd rfl rfl rfl (by decide) (by decide) (by decide) rfl rfl rfl (pa_cons (pe_cal (ok_ways_onD T) hr (by decide) rfl (pa_cons (pv 0) (pa_cons (pv 5) pa_nil))) (pa_cons (pe_tup (pa_cons pe_int (pa_cons pe_int pa_nil))) (pa_cons pe_str pa_nil))) (by rfl))
    (pss_cons (ps_while PassesOwn.never (pt_cmpR op_lt (pe_callB call_len (by rfl) T.m_len (by decide +kernel) (pa_cons (pv 13) pa_nil)) (pe_op op_mul pe_int (pv 6)) (nomark _)) (pss_cons (ps_set (i := 14) sc_order_followed.nd rfl (by first | exact Or.inl rfl | exact Or.inr rfl) (pe_ifExp (pt_cmpR op_gt (pe_dget2 hu (pv 11) (pe_cal (ok_moved_on T) hr (by decide) rfl (pa_cons (pv 12) (pa_cons pe_str pa_nil))) pe_int ⟨rfl, rfl, rfl, rfl⟩) pe_int (nomark _)) pe_str pe_str))
    (pss_one (ps_par (i := 12) (j := 13) (by rfl) sc_order_followed.nd rfl rfl (by decide) rfl rfl (pa_cons (pe_cal (ok_moved_on T) hr (by decide) rfl (pa_cons (pv 12) (pa_cons (pv 14) pa_nil))) (pa_cons (pe_op op_add_str (pv 13) (pv 14)) pa_nil)) (by rfl)))))
    (pss_one (ps_ret (pv 13))))))), ?_⟩
  obtain ⟨v1, ws1, rfl, i1, v2, ws2, rfl, i2, v3, ws3, rfl, i3, v4, ws4, rfl, i4, v5, ws5, rfl, i5, rfl⟩ := ha
  obtain ⟨b, lb, tl, gp, pl, u_⟩ := args
  have i1 : Is F0 v1 b := i1
  have i2 : Is F0 v2 lb := i2
  have i3 : Is F0 v3 tl := i3
  have i4 : Is F0 v4 gp := i4
  have i5 : Is F0 v5 pl := i5
  obtain ⟨hb, hp1, hp2⟩ : b.ch.length ≤ 7 ∧ pl.1.length = b.ch.length ∧ pl.2.length = b.ch.length := hp
  have hl := b.ps_len
  have q : ∀ v F2 H2, Grow F0 H F2 H2 → Is F2 v (oFol b.ch.length b.ps lb tl gp pl) → Q v H2 := q
  have hbl := bad_len (ps := b.ps) (by omega)
  generalize hn : b.ch.length = n at hb hp1 hp2 hl q
  dsimp only [tSeq, tAsg, tTup, tCons, tNil]
  intro p h0
  have hFp : F0 p = none := ex_none e0 h0
  refine et_last (et_var rfl i1) (by omega) _ (ex_upd2 e0 hFp) _ fun v6 F1 H1 g1 i6 => ?_
  have i6 : Is F1 v6 n := hn ▸ i6
  have gA := ((Grow.refl e0).mut (o := .dT []) hFp h0).trans g1
  have hF1 := g1.off hFp upd_same
  have hH1 := g1.hh _ _ upd_same
  refine ⟨(by decide : 2 ≤ sizeLine), fun tp htp => ?_⟩
  have hne : p ≠ tp := fun z => by rw [z, htp] at hH1; cases hH1
  have gB := gA.mut (o := .tup [.ref p, v6]) (ex_none gA.fh htp) (ex_none gA.hh htp)
  have hHB : upd H1 tp (.tup [.ref p, v6]) p = some (.dT []) := by rw [upd_ne hne]; exact hH1
  refine ⟨tp, [.ref p, v6], rfl, SqT.of upd_same, rfl, .ref p, [v6], rfl, v6, [], rfl, rfl, ?_⟩
  have i1 := Rep.mono g1.ff i1
  have i2 := Rep.mono g1.ff i2
  have i3 := Rep.mono g1.ff i3
  have i4 := Rep.mono g1.ff i4
  have i5 := Rep.mono g1.ff i5
  refine st_loop (xs := bad b.ps) (fun i Fi σ' H' => Grow F0 H Fi H' ∧ Fi p = none ∧ (∀ k c, k < i → (bad b.ps)[k]? = some c → meet lb tl gp pl c = false) ∧ ∃ kvs t7 t8, H' p = some (.dT kvs) ∧ kvs.length ≤ 81 * i ∧ BdR kvs (fun d => ((bad b.ps).take i).any fun c => rectB n lb tl gp pl c d) ∧
      σ' = [some v1, some v2, some v3, some v4, some v5, some (.ref p), some v6, t7, t8, none, none, none, none, none, none])
    (ei_list (et_call (args := (b, ())) (ea1 (et_var rfl i1)) (show b.ch.length ≤ 7 by omega))) gB.fh (fun F3 H3 g3 => ⟨gB.trans g3, g3.off hF1 hHB, fun k c h => absurd h (Nat.not_lt_zero _), [], none, none, g3.hh _ _ hHB, Nat.zero_le _, fun d => rfl, rfl⟩) ?_ ?_
  · rintro N i x Fi σ' H' v F3 H3 hx e3 ⟨gi, hFi, hmi, kvs, t7, t8, hHi, hki, hbi, rfl⟩ g3 iv k
    have i2 := Rep.mono (e3.trans g3.ff) i2
    have i3 := Rep.mono (e3.trans g3.ff) i3
    have i4 := Rep.mono (e3.trans g3.ff) i4
    have i5 := Rep.mono (e3.trans g3.ff) i5
    have i6 := Rep.mono (e3.trans g3.ff) i6
    have hF3 := g3.off hFi hHi
    have hH3 := g3.hh _ _ hHi
    have hmx := List.mem_of_getElem? hx
    have hm := mem_bad.mp hmx
    have hc : x.1 ≤ pl.1.length ∧ x.2 ≤ pl.2.length := by omega
    have hi64 := (List.getElem?_eq_some_iff.mp hx).1
    refine gt_pair g3.fh iv fun u1 u2 j1 j2 => ?_
    have ha : EA (tCons (tVar 1) (tCons (tVar 2) (tCons (tVar 3) (tCons (tVar 4) (tCons (tTup (tCons (tVar 7) (tCons (tVar 8) tNil))) tNil))))) [some v1, some v2, some v3, some v4, some v5, some (.ref p), some v6, some u1, some u2, none, none, none, none, none, none] F3 ((lb, tl, gp, pl, x, ()) : PlArgs) := ea_cons (et_var rfl i2) (ea_cons (et_var rfl i3) (ea_cons (et_var rfl i4) (ea2 (et_var rfl i5) (et_pair (et_var rfl j1) (et_var rfl j2)))))
    have step : meet lb tl gp pl x = false → ∀ k c, k < i + 1 → (bad b.ps)[k]? = some c → meet lb tl gp pl c = false := fun hmeet k c h hkc => by
      by_cases e : k = i
      · subst e
        rw [hx] at hkc
        cases hkc
        exact hmeet
      · exact hmi k c (by omega) hkc
    /- the update, from the rectangle's dict -/
    have upd_ : ∀ (g : Nat × Nat → Bool) (m : Nat) (F4 : Hp) (H4 : Hp) (a : Addr) (ms : List (List Key × V)), Grow F3 H3 F4 H4 → F4 p = none → H4 p = some (.dT kvs) → F4 a = some (.dT ms) → Rect ms g m → m ≤ 81 → (∀ d, g d = true → d.1 < 9 ∧ d.2 < 9) → (∀ d, g d = rectB n lb tl gp pl x d) → meet lb tl gp pl x = false →
        rUpdT (.ref p) [.ref a] H4 fun _ H5 => N [some v1, some v2, some v3, some v4, some v5, some (.ref p), some v6, some u1, some u2, none, none, none, none, none, none] H5 := by
      intro g m F4 H4 a ms g4 hF4 hH4 hFa hr hm81 h9 hg hmeet
      have hlen := hr.len
      refine ⟨p, a, kvs, ms, rfl, rfl, hH4, g4.fh _ _ hFa, (fun z => by rw [← z, hF4] at hFa; cases hFa), fun r hr1 => ?_, sz_le (by omega), ?_⟩
      · obtain ⟨d, hd, hgd⟩ := hr.key r hr1
        rw [hd]
        exact kC_grid (h9 d hgd).1 (h9 d hgd).2
      · have g5 := (gi.trans (g3.trans g4)).mut hF4 h0 (o := .dT (mergeT kvs ms))
        refine k F4 _ _ (g3.ff.trans g4.ff) g5.fh ⟨g5, hF4, step hmeet, _, some u1, some u2, upd_same, ?_, ?_, rfl⟩
        · have := length_mergeT ms kvs
          omega
        · have h := Rect.merge hbi hr
          have e : (fun c => g c || ((bad b.ps).take i).any fun c' => rectB n lb tl gp pl c' c) = fun d => ((bad b.ps).take (i + 1)).any fun c => rectB n lb tl gp pl c d := funext fun d => by
            rw [hg d, any_take hx]
          rw [← e]
          exact h
    refine st_if (b := LL lb tl gp pl x) (eb_B (et_call ha hc)) g3.fh (fun hll F4 H4 g4 => ?_) fun hll F4 H4 g4 => ?_
    · have hF4 := g4.off hF3 hH3
      have hH4 := g4.hh _ _ hH3
      have i6 := Rep.mono g4.ff i6
      have j1 := Rep.mono g4.ff j1
      have j2 := Rep.mono g4.ff j2
      refine ⟨_, rfl, .inr (.inr (.inl ⟨rfl, .inr ⟨_, hH4⟩⟩)), ?_⟩
      refine et_dc2N (xs := List.range (x.1 + 1)) (ys := List.range' x.2 (n + 1 - x.2)) (ei_rngN (ea1 (et_addN (et_var rfl j1) (et_nat (i := 1) (n := 1)))) (by omega)) (fun _ => rfl) (fun _ _ => rfl)
        (fun y hy F5 v e i => ei_rng2 (ea2 (et_var rfl (Rep.mono e j2)) (et_addN (et_var rfl (Rep.mono e i6)) (et_nat (i := 1) (n := 1)))) (by omega) (by omega)) (fun y hy z hz F5 v u e i j => et_pair (et_var rfl i) (et_var rfl j)) (fun y hy z hz F5 v u e i j => et_bl) (by rw [List.length_range]; omega) (by rw [List.length_range']; omega)
        H4 g4.fh _ fun w F5 H5 g5 hw => ?_
      obtain ⟨a, ms, rfl, hFa, hr⟩ := hw
      rw [List.length_range, List.length_range'] at hr
      refine upd_ _ _ F5 H5 a ms (g4.trans g5) (g5.off hF4 hH4) (g5.hh _ _ hH4) hFa hr (Nat.le_trans (Nat.mul_le_mul (show x.1 + 1 ≤ 9 by omega) (show n + 1 - x.2 ≤ 9 by omega)) (by decide)) (fun d hd => ?_) (fun d => ?_) (by unfold meet; rw [hll]; rfl)
      · rw [Bool.and_eq_true, decide_eq_true_eq, decide_eq_true_eq, List.mem_range, List.mem_range'_1] at hd
        omega
      · unfold rectB
        rw [if_pos hll, Bool.eq_iff_iff]
        simp only [Bool.and_eq_true, decide_eq_true_eq, List.mem_range, List.mem_range'_1]
        omega
    · have hF4 := g4.off hF3 hH3
      have hH4 := g4.hh _ _ hH3
      refine st_if (b := TL lb tl gp pl x) (eb_B (et_call (ha.mono g4.ff) hc)) g4.fh (fun htl F5 H5 g5 => ?_) fun htl F5 H5 g5 => ?_
      · have hF5 := g5.off hF4 hH4
        have hH5 := g5.hh _ _ hH4
        have i6 := Rep.mono (g4.ff.trans g5.ff) i6
        have j1 := Rep.mono (g4.ff.trans g5.ff) j1
        have j2 := Rep.mono (g4.ff.trans g5.ff) j2
        refine ⟨_, rfl, .inr (.inr (.inl ⟨rfl, .inr ⟨_, hH5⟩⟩)), ?_⟩
        refine et_dc2N (xs := List.range' x.1 (n + 1 - x.1)) (ys := List.range (x.2 + 1)) (ei_rng2 (ea2 (et_var rfl j1) (et_addN (et_var rfl i6) (et_nat (i := 1) (n := 1)))) (by omega) (by omega)) (fun _ => rfl) (fun _ _ => rfl)
          (fun y hy F5 v e i => ei_rngN (ea1 (et_addN (et_var rfl (Rep.mono e j2)) (et_nat (i := 1) (n := 1)))) (by omega)) (fun y hy z hz F5 v u e i j => et_pair (et_var rfl i) (et_var rfl j)) (fun y hy z hz F5 v u e i j => et_bl) (by rw [List.length_range']; omega) (by rw [List.length_range]; omega)
          H5 g5.fh _ fun w F6 H6 g6 hw => ?_
        obtain ⟨a, ms, rfl, hFa, hr⟩ := hw
        rw [List.length_range, List.length_range'] at hr
        refine upd_ _ _ F6 H6 a ms (g4.trans (g5.trans g6)) (g6.off hF5 hH5) (g6.hh _ _ hH5) hFa hr (Nat.le_trans (Nat.mul_le_mul (show n + 1 - x.1 ≤ 9 by omega) (show x.2 + 1 ≤ 9 by omega)) (by decide)) (fun d hd => ?_) (fun d => ?_) (by unfold meet; rw [htl]; simp)
        · rw [Bool.and_eq_true, decide_eq_true_eq, decide_eq_true_eq, List.mem_range, List.mem_range'_1] at hd
          omega
        · unfold rectB
          rw [if_neg (by rw [hll]; exact Bool.false_ne_true), Bool.eq_iff_iff]
          simp only [Bool.and_eq_true, decide_eq_true_eq, List.mem_range, List.mem_range'_1]
          omega
      · refine st_ret et_non g5.fh fun v F6 H6 g6 iv => q v F6 H6 (gi.trans (g3.trans (g4.trans (g5.trans g6)))) ?_
        have : someMeet b.ps lb tl gp pl = true := List.any_eq_true.mpr ⟨x, hmx, by unfold meet; rw [hll, htl]; rfl⟩
        unfold oFol
        rw [if_pos this]
        exact iv
  rintro F3 σ' H3 e3 e4 ⟨g, hF3, hmi, kvs, t7, t8, hH3, hki, hbi, rfl⟩
  rw [List.take_of_length_le (Nat.le_refl _)] at hbi
  have hno : someMeet b.ps lb tl gp pl = false := by
    refine List.any_eq_false.mpr fun c hc => ?_
    obtain ⟨j, hjc⟩ := List.getElem?_of_mem hc
    rw [hmi j c (List.getElem?_eq_some_iff.mp hjc).1 hjc]
    exact Bool.false_ne_true
  have hval : oFol n b.ps lb tl gp pl = some ⟨greedy (waysF n (barF n b.ps lb tl gp pl)) (2 * n) (0, 0)⟩ := by
    unfold oFol
    rw [if_neg (by rw [hno]; exact Bool.false_ne_true)]
  rw [hval] at q
  have g := g.frz hF3 h0 hH3
  have eP : Ex F3 (upd F3 p (.dT kvs)) := ex_upd hF3
  have iB : Is (upd F3 p (.dT kvs)) (.ref p) (Bd.mk (barF n b.ps lb tl gp pl)) := ⟨p, kvs, rfl, upd_same, hbi⟩
  generalize upd F3 p (.dT kvs) = F4 at g eP iB
  have i1 := Rep.mono (e3.trans eP) i1
  have i6 := Rep.mono (e3.trans eP) i6
  dsimp only [tPar3, tCons, tNil]
  refine et_call (args := (b, Bd.mk (barF n b.ps lb tl gp pl), ())) (ea2 (et_var rfl i1) (et_var rfl iB)) (show b.ch.length ≤ 7 by omega) H3 g.fh _ fun v11 F5 H5 g5 i11 => ?_
  have i11 : Is F5 v11 (Wy.mk (waysF n (barF n b.ps lb tl gp pl))) := hn ▸ i11
  generalize waysF n (barF n b.ps lb tl gp pl) = w at q i11
  refine et_pair (x := 0) (y := 0) (et_nat (i := 0) (n := 0)) (et_nat (i := 0) (n := 0)) H5 g5.fh _ fun v12 F6 H6 g6 i12 => ?_
  have i12 : Is F6 v12 ((0, 0) : Nat × Nat) := i12
  refine ⟨v11, v12, .str "", rfl, ?_⟩
  have g := g.trans (g5.trans g6)
  have i6 := Rep.mono (g5.ff.trans g6.ff) i6
  have i11 := Rep.mono g6.ff i11
  dsimp only
  refine ⟨fun m σ' H' => ∃ Fi l c v12 v13 t14, Ex F6 Fi ∧ Grow F0 H Fi H' ∧ m + l.length = 2 * n ∧ l ++ greedy w m c = greedy w (2 * n) (0, 0) ∧ Is Fi v12 c ∧ Is Fi v13 (Od.mk l) ∧ σ' = [some v1, some v2, some v3, some v4, some v5, some (.ref p), some v6, t7, t8, none, none, some v11, some v12, some v13, t14],
    ⟨2 * n, F6, [], (0, 0), v12, .str "", none, Ex.refl _, g, rfl, rfl, i12, od_nil, rfl⟩, ?_⟩
  rintro m σ' H' ⟨Fi, l, c, v12, v13, t14, ei, gi, hm, hgr, i12, i13, rfl⟩
  have i6 := Rep.mono ei i6
  have i11 := Rep.mono ei i11
  refine eb_test (et_ltN (i := l.length) (j := 2 * n) (et_lenO (o := Od.mk l) (et_var rfl i13) (show l.length ≤ 100000 by omega)) ((et_mul (i := 2) (j := (n : Int)) et_int (et_var rfl i6) (Or.inl (by omega))).nat (by omega))) H' gi.fh _ fun F7 H7 g7 => ?_
  by_cases hlt : l.length < 2 * n
  · rw [if_pos (decide_eq_true hlt)]
    obtain ⟨m, rfl⟩ : ∃ k, m = k + 1 := ⟨m - 1, by omega⟩
    refine ⟨fun σ' H' => ∃ Fi l c v12 v13 t14, Ex F6 Fi ∧ Grow F0 H Fi H' ∧ m + l.length = 2 * n ∧ l ++ greedy w m c = greedy w (2 * n) (0, 0) ∧ Is Fi v12 c ∧ Is Fi v13 (Od.mk l) ∧ σ' = [some v1, some v2, some v3, some v4, some v5, some (.ref p), some v6, t7, t8, none, none, some v11, some v12, some v13, t14], fun σ' H' h => ⟨m, Nat.lt_succ_self m, h⟩, ?_⟩
    have i11 := Rep.mono g7.ff i11
    have i12 := Rep.mono g7.ff i12
    have i13 := Rep.mono g7.ff i13
    dsimp only [tSeq]
    refine st_set (R := fun G v => Is G v (Ltr.mk (decide (0 < w (mv c true))))) ?x g7.fh fun v14 F8 H8 g8 i14 => ?_
    case x =>
      refine et_if (b := decide (0 < w (mv c true))) (eb_test (et_gtN (et_get0 (w := Wy.mk w) (c := mv c true) (et_var rfl i11) (et_call (args := (c, Ltr.mk true, ())) (ea2 (et_var rfl i12) et_L) trivial)) (et_nat (i := 0) (n := 0)))) (fun h => ?_) fun h => ?_
      · rw [h]; exact et_L
      · rw [h]; exact et_T
    have i12 := Rep.mono g8.ff i12
    have i13 := Rep.mono g8.ff i13
    dsimp only
    generalize hbit : decide (0 < w (mv c true)) = bit at i14
    refine st_par (R := fun G v => Is G v (mv c bit)) (S := fun G v => Is G v (Od.mk (l ++ [bit]))) (et_call (args := (c, Ltr.mk bit, ())) (ea2 (et_var rfl i12) (et_var rfl i14)) trivial) (fun G eG => et_catO (o := Od.mk l) (c := Ltr.mk bit) (et_var rfl (Rep.mono eG i13)) (et_var rfl (Rep.mono eG i14)) (show l.length < 100000 by omega)) (fun e i => Rep.mono e i) g8.fh fun w1 w2 F9 H9 g9 k1 k2 => ?_
    refine ⟨F9, l ++ [bit], mv c bit, w1, w2, some v14, ei.trans (g7.ff.trans (g8.ff.trans g9.ff)), gi.trans (g7.trans (g8.trans g9)), ?_, ?_, k1, k2, rfl⟩
    · rw [List.length_append]
      show m + (l.length + 1) = _
      omega
    · rw [← hgr, greedy, hbit, List.append_assoc]
      rfl
  · rw [if_neg (by rw [decide_eq_false hlt]; exact Bool.false_ne_true)]
    have h0m : m = 0 := by omega
    subst h0m
    rw [greedy, List.append_nil] at hgr
    rw [← hgr] at q
    dsimp only
    exact ⟨v13, rfl, q _ _ _ (gi.trans g7) (Rep.mono g7.ff i13)⟩

end
end LT
/-! ## W9 -/
set_option Elab.async false
set_option linter.all false
set_option maxRecDepth 100000
set_option maxHeartbeats 4000000
namespace LT
open PySem PySem.Spec PyProof.Rows L2
section
variable {P : Program} {w : World} {K : PySem.W.Frag} {mg : Str → Option Value} {base : Heap}
/-! ### forces -/
structure PlOk (n : Nat) (ps : List Int) (l : List Bool) : Prop where
  num : ∀ b, (places l b).length = n
  inn : ∀ b m, 1 ≤ m → m ≤ n → placeOf l b m < l.length
  lab : ∀ c ∈ bad ps, lf l c = true → c.1 + 1 ≤ n ∧ 1 ≤ c.2 ∧ c.2 ≤ n ∧ placeOf l true (c.1 + 1) < placeOf l false c.2
  til : ∀ c ∈ bad ps, lf l c = false → c.2 + 1 ≤ n ∧ 1 ≤ c.1 ∧ c.1 ≤ n ∧ placeOf l false (c.2 + 1) < placeOf l true c.1
def FOk (ps : List Int) (lb tl gp : Pr) (l : List Bool) (k : Nat) (p : Nat × Int) : Prop := p.1 < k ∧
  ((p.2 = 0 ∧ l[p.1]? = l[k]?) ∨ (∃ c ∈ bad ps, lf l c = true ∧ k = placeOf l false c.2 ∧ p.1 = placeOf l true (c.1 + 1) ∧ p.2 = lb.2 + gp.2 - tl.1 + 1) ∨
    ∃ c ∈ bad ps, lf l c = false ∧ k = placeOf l true c.1 ∧ p.1 = placeOf l false (c.2 + 1) ∧ p.2 = tl.2 - lb.1 - gp.1 + 1)
/-- a list of lists, all of which may change -/
structure LsOf {α : Type} [Rep α] (F0 H0 F H : Hp) (p : Addr) (ok : Nat → α → Prop) (m : Nat) (ls : List Addr) : Prop where
  g : Grow F0 H0 F H
  pF : F p = none
  p0 : H0 p = none
  pH : H p = some (.lst (ls.map V.ref))
  nd : ls.Nodup
  pn : p ∉ ls
  at_ : ∀ (k : Nat) l, ls[k]? = some l → F l = none ∧ H0 l = none ∧ ∃ us xs, H l = some (.lst us) ∧ All2 (Rep.is F) us xs ∧ us.length ≤ m ∧ ∀ x ∈ xs, ok k x
section
variable {α : Type} [Rep α] {F0 H0 F H F2 H2 : Hp} {p : Addr} {ok : Nat → α → Prop} {m : Nat} {ls : List Addr}
theorem LsOf.grow (h : LsOf F0 H0 F H p ok m ls) (g : Grow F H F2 H2) : LsOf F0 H0 F2 H2 p ok m ls where
  g := h.g.trans g
  pF := g.off h.pF h.pH
  p0 := h.p0
  pH := g.hh _ _ h.pH
  nd := h.nd
  pn := h.pn
  at_ k l e := by
    obtain ⟨h1, h2, us, xs, h3, h4, h5, h6⟩ := h.at_ k l e
    exact ⟨g.off h1 h3, h2, us, xs, g.hh _ _ h3, h4.mono fun _ _ z => Rep.mono g.ff z, h5, h6⟩
theorem LsOf.le {m' : Nat} (h : LsOf F0 H0 F H p ok m ls) (e : m ≤ m') : LsOf F0 H0 F H p ok m' ls :=
  ⟨h.g, h.pF, h.p0, h.pH, h.nd, h.pn, fun k l q => let ⟨h1, h2, us, xs, h3, h4, h5, h6⟩ := h.at_ k l q; ⟨h1, h2, us, xs, h3, h4, Nat.le_trans h5 e, h6⟩⟩
/-- one more list -/
theorem LsOf.add (h : LsOf F0 H0 F H p ok m ls) {D : Addr} {acc : List V} {xs : List α} (hDF : F D = none) (hD0 : H0 D = none) (hDH : H D = some (.lst acc)) (hnew : D ∉ ls) (hp : D ≠ p) (ha : All2 (Rep.is F) acc xs) (hl : acc.length ≤ m) (hx : ∀ x ∈ xs, ok ls.length x) :
    LsOf F0 H0 F (upd H p (.lst (ls.map V.ref ++ [.ref D]))) p ok m (ls ++ [D]) where
  g := h.g.mut h.pF h.p0
  pF := h.pF
  p0 := h.p0
  pH := by rw [upd_same, List.map_append]; rfl
  nd := List.nodup_append.mpr ⟨h.nd, (by simp), fun a ha b hb z => by
    rw [List.mem_singleton] at hb
    exact hnew (by rw [← hb, ← z]; exact ha)⟩
  pn hm := by
    rcases List.mem_append.mp hm with z | z
    · exact h.pn z
    · exact hp (List.mem_singleton.mp z).symm
  at_ k l e := by
    by_cases hk : k < ls.length
    · rw [List.getElem?_append_left hk] at e
      have hne : l ≠ p := fun z => h.pn (z ▸ List.mem_of_getElem? e)
      obtain ⟨h1, h2, us, ys, h3, h4, h5, h6⟩ := h.at_ k l e
      exact ⟨h1, h2, us, ys, by rw [upd_ne hne]; exact h3, h4, h5, h6⟩
    · rw [List.getElem?_append_right (by omega)] at e
      have hk2 : k = ls.length := by
        have := (List.getElem?_eq_some_iff.mp e).1
        rw [List.length_singleton] at this
        omega
      subst hk2
      rw [Nat.sub_self] at e
      cases e
      exact ⟨hDF, hD0, acc, xs, by rw [upd_ne hp]; exact hDH, ha, hl, hx⟩
/-- one list grows -/
theorem LsOf.push (h : LsOf F0 H0 F H p ok m ls) {k : Nat} {l : Addr} {us : List V} {v : V} {x : α} (e : ls[k]? = some l) (hl : H l = some (.lst us)) (hv : Is F v x) (hx : ok k x) :
    LsOf F0 H0 F (upd H l (.lst (us ++ [v]))) p ok (m + 1) ls where
  g := h.g.mut (h.at_ k l e).1 (h.at_ k l e).2.1
  pF := h.pF
  p0 := h.p0
  pH := by
    have hne : p ≠ l := fun z => h.pn (by rw [z]; exact List.mem_of_getElem? e)
    rw [upd_ne hne]
    exact h.pH
  nd := h.nd
  pn := h.pn
  at_ k' l' e' := by
    obtain ⟨h1, h2, us', ys, h3, h4, h5, h6⟩ := h.at_ k' l' e'
    by_cases z : l' = l
    · subst z
      have hkk : k' = k := by
        have a1 := (List.getElem?_eq_some_iff.mp e).1
        exact (List.getElem?_inj (List.getElem?_eq_some_iff.mp e').1 h.nd).mp (e'.trans e.symm)
      subst hkk
      rw [hl] at h3
      cases h3
      refine ⟨h1, h2, _, ys ++ [x], upd_same, h4.snoc hv, by rw [List.length_append]; show us.length + 1 ≤ _; omega, fun y hy => ?_⟩
      rcases List.mem_append.mp hy with q | q
      · exact h6 y q
      · rw [List.mem_singleton.mp q]; exact hx
    · exact ⟨h1, h2, us', ys, by rw [upd_ne z]; exact h3, h4, by omega, h6⟩
/-- they change no more -/
theorem LsOf.fin (h : LsOf F0 H0 F H p ok m ls) : ∃ F2 X, Grow F0 H0 F2 H ∧ Is F2 (.ref p) (X : List (List α)) ∧ X.length = ls.length ∧ ∀ k xs, X[k]? = some xs → xs.length ≤ m ∧ ∀ x ∈ xs, ok k x := by
  let F1 : Hp := fun a => if a ∈ ls then H a else F a
  have e1 : Ex F F1 := fun a o q => by
    show (if a ∈ ls then H a else F a) = some o
    rw [if_neg]
    · exact q
    · intro hm
      obtain ⟨k, hk⟩ := List.getElem?_of_mem hm
      rw [(h.at_ k a hk).1] at q
      cases q
  have g1 : Grow F0 H0 F1 H := ⟨h.g.ff.trans e1, fun a o q => by
    by_cases z : a ∈ ls
    · have q : (if a ∈ ls then H a else F a) = some o := q
      rw [if_pos z] at q; exact q
    · have q : (if a ∈ ls then H a else F a) = some o := q
      rw [if_neg z] at q; exact h.g.fh a o q, h.g.hh, fun a o q => by
    by_cases z : a ∈ ls
    · obtain ⟨k, hk⟩ := List.getElem?_of_mem z
      exact .inr (h.at_ k a hk).2.1
    · have q : (if a ∈ ls then H a else F a) = some o := q
      rw [if_neg z] at q; exact h.g.nw a o q⟩
  have hp1 : F1 p = none := by
    show (if p ∈ ls then H p else F p) = none
    rw [if_neg h.pn]; exact h.pF
  have hex : ∀ n, n ≤ ls.length → ∃ X : List (List α), All2 (Rep.is F1) ((ls.take n).map V.ref) X ∧ ∀ k xs, X[k]? = some xs → xs.length ≤ m ∧ ∀ x ∈ xs, ok k x := by
    intro n
    induction n with
    | zero => exact fun _ => ⟨[], by rw [List.take_zero]; exact .nil, fun k xs q => by simp at q⟩
    | succ n ih =>
      intro hn
      obtain ⟨X, hX, hk⟩ := ih (by omega)
      have hl : ls[n]? = some ls[n] := List.getElem?_eq_getElem (by omega)
      obtain ⟨_, _, us, xs, h3, h4, h5, h6⟩ := h.at_ n _ hl
      have hXl : X.length = n := by rw [← hX.len, List.length_map, List.length_take]; omega
      refine ⟨X ++ [xs], ?_, fun k ys q => ?_⟩
      · rw [List.take_add_one, hl, List.map_append]
        refine hX.snoc ⟨ls[n], us, rfl, ?_, h4.mono fun _ _ z => Rep.mono e1 z⟩
        show (if ls[n] ∈ ls then H ls[n] else F ls[n]) = _
        rw [if_pos (List.getElem_mem _)]
        exact h3
      · by_cases hkn : k < X.length
        · rw [List.getElem?_append_left hkn] at q
          exact hk k ys q
        · rw [List.getElem?_append_right (by omega)] at q
          have hk2 : k = X.length := by
            have := (List.getElem?_eq_some_iff.mp q).1
            rw [List.length_singleton] at this
            omega
          subst hk2
          rw [Nat.sub_self] at q
          cases q
          rw [hXl]
          exact ⟨by rw [← h4.len]; exact h5, h6⟩
  obtain ⟨X, hX, hk⟩ := hex ls.length (Nat.le_refl _)
  rw [List.take_of_length_le (Nat.le_refl _)] at hX
  refine ⟨upd F1 p (.lst (ls.map V.ref)), X, g1.frz hp1 h.p0 h.pH, ⟨p, _, rfl, upd_same, hX.mono fun _ _ z => Rep.mono (ex_upd hp1) z⟩, by rw [← hX.len, List.length_map], hk⟩
end
theorem raw_ix {σ : St} {H : Hp} {i j : Nat} {p : Addr} {rs : List V} {k : Nat} {l : Addr} (h : σ[i]? = some (some (.ref p))) (hl : H p = some (.lst rs)) (hj : σ[j]? = some (some (.int (k : Nat)))) (e : rs[k]? = some (.ref l)) :
    ∀ H', Ex H H' → ∀ Q : VK, (∀ H2, Ex H' H2 → Q (.ref l) H2) → tOp (rIx K) (tVar i) (tVar j) σ H' Q := fun H' e1 Q q =>
  ⟨_, h, _, hj, .inl ⟨p, rs, _, _, rfl, rfl, SqL.of (e1 _ _ hl), atI_of e, q H' (Ex.refl _)⟩⟩
abbrev FoArgs (K : PySem.W.Frag) := BkK K × Pr × Pr × Pr × Od × Unit
abbrev N_forces : List Str := ["book", "label", "till", "gap", "order", "found", "at", "letter", "spot", "one", "other", "here", "there"]
theorem sc_forces : FnScope N_forces ["book", "label", "till", "gap", "order"] (defScope s_forces) := ⟨rfl, rfl, rfl, by decide +kernel, rfl, by decide +kernel, by decide +kernel⟩
theorem ok_forces (T : Top K mg) : Cal P w K mg base 3 "forces" (spR (A := FoArgs K) (fun (b, lb, tl, gp, o, _) => b.ch.length ≤ 7 ∧ o.l.length = 2 * b.ch.length ∧ PlOk b.ch.length b.ps o.l) fun (b, lb, tl, gp, o, _) F2 v => ∃ X : List (List (Nat × Int)), Is F2 v X ∧ X.length = o.l.length ∧ ∀ k xs, X[k]? = some xs → xs.length ≤ 200 ∧ ∀ x ∈ xs, FOk b.ps lb tl gp o.l k x) := by
  obtain ⟨fd, Fd, b⟩ := T.f_forces
  refine cal_of Fd T.g_forces b sc_forces rfl fun cdv Ar outer s H vs Q E hr F0 args e0 ha hp q => ?_
  have hu := hu_of hr
  refine ⟨_, (pss_cons (ps_set (i := 5) sc_forces.nd rfl (by first | exact Or.inl rfl | exact Or.inr rfl) (pe_lst pa_nil))
    (pss_cons (ps_for PassesOwn.never rfl (pi_enumT (by rfl) T.m_enumerate (pa_cons (pv 4) pa_nil)) (pg_tup rfl (pgs_cons (pg_name (i := 6) sc_forces.nd rfl (by first | exact Or.inl rfl | exact Or.inr rfl)) (pgs_cons (pg_name (i := 7) sc_forces.nd rfl (by first | exact Or.inl rfl | exact Or.inr rfl)) pgs_nil))) (pss_one (ps_expr (pe_bm PySem.F.plainAttrs_list PySem.F.slot_list_append PySem.F.type_list_append mt_append (pv 5) (pa_cons (pe_lc (own := [("spot", 8)]) rfl sc_forces.nd (pi_range1 (by rfl) T.m_range (pa_cons (pv 6) pa_nil)) (blkOk_by (N := N_forces) (sc := defScope s_forces) (own := [("spot", 8)]) (by decide +kernel)) (fun _ _ _ _ _ => (pg_name (i := 8) sc_forces.nd rfl (by first | exact Or.inl rfl | exact Or.inr rfl))) (fun _ _ _ _ _ => (pts_one (pt_cmpR op_eq (pe_ix (ix_seqK (K := K) (by rfl)) (pv 4) (pv 8) (fun _ _ => rfl)) (pv 7) (nomark _)))) (fun _ _ _ _ _ => (pe_tup (pa_cons (pv 8) (pa_cons pe_int pa_nil))))) pa_nil)))))
    (pss_cons (ps_for PassesOwn.never rfl (pi_list (pe_cal (ok_bad_cells T) hr (by decide) rfl (pa_cons (pv 0) pa_nil))) (pg_tup rfl (pgs_cons (pg_name (i := 9) sc_forces.nd rfl (by first | exact Or.inl rfl | exact Or.inr rfl)) (pgs_cons (pg_name (i := 10) sc_forces.nd rfl (by first | exact Or.inl rfl | exact Or.inr rfl)) pgs_nil))) (pss_one (ps_if (pt_val (pe_cal (ok_label_first T) hr (by decide) rfl (pa_cons (pv 4) (pa_cons (pe_tup (pa_cons (pv 9) (pa_cons (pv 10) pa_nil))) pa_nil)))) (pss_cons (ps_par (i := 11) (j := 12) (by rfl) sc_forces.nd rfl rfl (by decide) rfl rfl (pa_cons (pe_cal (ok_place_of T) hr (by decide) rfl (pa_cons (pv 4) (pa_cons pe_str (pa_cons (pv 10) pa_nil)))) (pa_cons (pe_cal (ok_place_of T) hr (by decide) rfl (pa_cons (pv 4) (pa_cons pe_str (pa_cons (pe_op op_add (pv 9) pe_int) pa_nil)))) pa_nil)) (by rfl))
    (pss_one (ps_expr (pe_bm PySem.F.plainAttrs_list PySem.F.slot_list_append PySem.F.type_list_append mt_append (pe_ix ix_seq (pv 5) (pv 11) (fun _ _ => rfl)) (pa_cons (pe_tup (pa_cons (pv 12) (pa_cons (pe_op op_add (pe_op op_sub (pe_op op_add (pe_ix ix_seq (pv 1) pe_int (fun _ _ => rfl)) (pe_ix ix_seq (pv 3) pe_int (fun _ _ => rfl))) (pe_ix ix_seq (pv 2) pe_int (fun _ _ => rfl))) pe_int) pa_nil))) pa_nil))))) (pss_cons (ps_par (i := 11) (j := 12) (by rfl) sc_forces.nd rfl rfl (by decide) rfl rfl (pa_cons (pe_cal (ok_place_of T) hr (by decide) rfl (pa_cons (pv 4) (pa_cons pe_str (pa_cons (pv 9) pa_nil)))) (pa_cons (pe_cal (ok_place_of T) hr (by decide) rfl (pa_cons (pv 4) (pa_cons pe_str (pa_cons (pe_op op_add (pv 10) pe_int) pa_nil)))) pa_nil)) (by rfl))
    (pss_one (ps_expr (pe_bm PySem.F.plainAttrs_list PySem.F.slot_list_append PySem.F.type_list_append mt_append (pe_ix ix_seq (pv 5) (pv 11) (fun _ _ => rfl)) (pa_cons (pe_tup (pa_cons (pv 12) (pa_cons (pe_op op_add (pe_op op_sub (pe_op op_sub (pe_ix ix_seq (pv 2) pe_int (fun _ _ => rfl)) (pe_ix ix_seq (pv 1) pe_int (fun _ _ => rfl))) (pe_ix ix_seq (pv 3) pe_int (fun _ _ => rfl))) pe_int) pa_nil))) pa_nil))))))))
    (pss_one (ps_ret (pv 5)))))), ?_⟩
  obtain ⟨v1, ws1, rfl, i1, v2, ws2, rfl, i2, v3, ws3, rfl, i3, v4, ws4, rfl, i4, v5, ws5, rfl, i5, rfl⟩ := ha
  obtain ⟨b, lb, tl, gp, o, u_⟩ := args
  have i1 : Is F0 v1 b := i1
  have i2 : Is F0 v2 lb := i2
  have i3 : Is F0 v3 tl := i3
  have i4 : Is F0 v4 gp := i4
  have i5 : Is F0 v5 o := i5
  obtain ⟨hb, hol, hpl⟩ : b.ch.length ≤ 7 ∧ o.l.length = 2 * b.ch.length ∧ PlOk b.ch.length b.ps o.l := hp
  have q : ∀ v F2 H2, Grow F0 H F2 H2 → (∃ X : List (List (Nat × Int)), Is F2 v X ∧ X.length = o.l.length ∧ ∀ k xs, X[k]? = some xs → xs.length ≤ 200 ∧ ∀ x ∈ xs, FOk b.ps lb tl gp o.l k x) → Q v H2 := q
  have hl := b.ps_len
  have hbl := bad_len (ps := b.ps) (by omega)
  generalize hok : FOk b.ps lb tl gp o.l = ok at q
  dsimp only [tSeq, tAsg]
  refine mk_lst (α := List (Nat × Int)) (xs := []) eas_nil (by simp) e0 fun p vs F1 H1 g1 hn h0 hl1 ha1 => ?_
  have hvs : vs = [] := List.eq_nil_of_length_eq_zero (by rw [ha1.len]; rfl)
  subst hvs
  have i1 := Rep.mono g1.ff i1
  have i2 := Rep.mono g1.ff i2
  have i3 := Rep.mono g1.ff i3
  have i4 := Rep.mono g1.ff i4
  have i5 := Rep.mono g1.ff i5
  dsimp only [gName]
  refine st_loop (xs := en (o.l.map Ltr.mk)) (fun i Fi σ' H' => Ex F1 Fi ∧ ∃ ls t6 t7, LsOf F0 H Fi H' p ok 20 ls ∧ ls.length = i ∧ σ' = [some v1, some v2, some v3, some v4, some v5, some (.ref p), t6, t7, none, none, none, none, none])
    (ei_enumT (ea1 (et_var rfl i5))) g1.fh (fun F2 H2 g2 => ⟨g2.ff, [], none, none, ⟨g1.trans g2, g2.off hn hl1, h0, g2.hh _ _ hl1, List.nodup_nil, List.not_mem_nil, fun k l e => by simp at e⟩, rfl, rfl⟩) ?_ ?_
  · rintro N i x Fi σ' H' v F2 H2 hx e3 ⟨_, ls, t6, t7, hI, hli, rfl⟩ g2 iv k
    obtain ⟨hx1, hx2⟩ := en_get hx
    have hI := hI.grow g2
    have i5 := Rep.mono (e3.trans g2.ff) i5
    have hi := (List.getElem?_eq_some_iff.mp hx).1
    rw [en_len, List.length_map] at hi
    rw [List.getElem?_map] at hx2
    cases eb : o.l[i]? with
    | none => rw [eb] at hx2; cases hx2
    | some bit =>
      rw [eb] at hx2
      have hx3 : Ltr.mk bit = x.2 := Option.some.inj hx2
      refine gt_pair g2.fh iv fun u1 u2 j1 j2 => ?_
      refine ⟨.ref p, rfl, .inl ⟨rfl, _, .inl (.inl hI.pH)⟩, ?_⟩
      refine mk_lc (xs := List.range i) (p := fun s => decide (o.l.getD s true = bit)) (f := fun s => ((s, 0) : Nat × Int)) (fun s F3 σ3 => ∃ w, σ3 = [some v1, some v2, some v3, some v4, some v5, some (.ref p), some u1, some u2, some w, none, none, none, none] ∧ Is F3 w s)
        (ei_rngN (ea1 (et_var rfl (hx1 ▸ j1))) (by omega)) (fun s _ F3 H3 w _ _ iw Q q => q _ ⟨w, rfl, iw⟩) (fun s F3 σ3 ⟨w, e, _⟩ => by rw [e]; rfl)
        (fun s hs F3 σ3 e ⟨w, e2, iw⟩ => by
          rw [e2]
          have hs2 := List.mem_range.mp hs
          refine eb_test ((et_eqLL (et_ixO (b := o.l.getD s true) (et_var rfl (Rep.mono e i5)) (et_var rfl iw) (getD_get (by omega)) (by omega)) (et_var rfl (Rep.mono e j2))).to ?_)
          rw [← hx3])
        (fun s hs F3 σ3 e ⟨w, e2, iw⟩ _ => by
          rw [e2]
          exact et_pair (et_var rfl iw) et_int) (by rw [List.length_range]; omega) g2.fh fun D acc F3 H3 g3 hD3 hD2 hH3 hacc => ?_
      have hI3 := hI.grow g3
      have hDp : D ≠ p := fun z => by rw [z, hI.pH] at hD2; cases hD2
      have hDls : D ∉ ls := fun hm => by
        obtain ⟨k, hk⟩ := List.getElem?_of_mem hm
        obtain ⟨_, _, us, _, h3, _⟩ := hI.at_ k D hk
        rw [h3] at hD2
        cases hD2
      have hD0 : H D = none := ex_none hI.g.hh hD2
      refine ⟨p, ls.map V.ref, .ref D, rfl, rfl, hI3.pH, sz_lt (by rw [List.length_map]; omega), ?_⟩
      have hal : acc.length ≤ 20 := by
        rw [hacc.len, List.length_map]
        exact Nat.le_trans (List.length_filter_le _ _) (by rw [List.length_range]; omega)
      have hI4 := hI3.add hD3 hD0 hH3 hDls hDp hacc hal (fun y hy => by
        rw [List.mem_map] at hy
        obtain ⟨s, hs, rfl⟩ := hy
        rw [List.mem_filter] at hs
        have hs2 := List.mem_range.mp hs.1
        rw [hli, ← hok]
        refine ⟨hs2, .inl ⟨rfl, ?_⟩⟩
        rw [eb, getD_get (d := true) (show s < o.l.length by omega)]
        exact congrArg some (of_decide_eq_true hs.2))
      exact k F3 _ _ (g2.ff.trans g3.ff) hI4.g.fh ⟨e3.trans (g2.ff.trans g3.ff), _, _, _, hI4, by rw [List.length_append, hli]; rfl, rfl⟩
  rintro F2 σ' H2 e2 e2' ⟨_, ls, t6, t7, hI, hli, rfl⟩
  rw [en_len, List.length_map] at hli
  have i1 := Rep.mono e2 i1
  have i2 := Rep.mono e2 i2
  have i3 := Rep.mono e2 i3
  have i4 := Rep.mono e2 i4
  have i5 := Rep.mono e2 i5
  dsimp only [tSeq]
  refine st_loop (xs := bad b.ps) (fun i Fi σ' H' => Ex F2 Fi ∧ LsOf F0 H Fi H' p ok (20 + i) ls ∧ ∃ t9 t10 t11 t12, σ' = [some v1, some v2, some v3, some v4, some v5, some (.ref p), t6, t7, none, t9, t10, t11, t12])
    (ei_list (et_call (args := (b, ())) (ea1 (et_var rfl i1)) hb)) e2' (fun F3 H3 g3 => ⟨g3.ff, hI.grow g3, none, none, none, none, rfl⟩) ?_ ?_
  · rintro N i c Fi σ' H' v F3 H3 hx e3 ⟨e23, hI, t9, t10, t11, t12, rfl⟩ g3 iv k
    have hI := hI.grow g3
    have i2 := Rep.mono (e3.trans g3.ff) i2
    have i3 := Rep.mono (e3.trans g3.ff) i3
    have i4 := Rep.mono (e3.trans g3.ff) i4
    have i5 := Rep.mono (e3.trans g3.ff) i5
    have hmc := List.mem_of_getElem? hx
    have hmb := mem_bad.mp hmc
    have hi64 := (List.getElem?_eq_some_iff.mp hx).1
    have hnF := hpl.num false
    have hnT := hpl.num true
    refine gt_pair g3.fh iv fun u1 u2 j1 j2 => ?_
    have hs1 : o.l.length ≤ 100 := by omega
    have fin : ∀ (F5 H5 : Hp) (there here : Nat) (wt : Int) (w11 w12 : V) (tt : TE), Grow F3 H3 F5 H5 → Is F5 w11 here → Is F5 w12 there → here < o.l.length → ok here (there, wt) → ET tt [some v1, some v2, some v3, some v4, some v5, some (.ref p), t6, t7, none, some u1, some u2, some w11, some w12] F5 (there, wt) →
        ∀ D : Ends, D.nx = N → tDrop (tBM K "list" rAppend (tOp (rIx K) (tVar 5) (tVar 11)) (tCons tt tNil)) D [some v1, some v2, some v3, some v4, some v5, some (.ref p), t6, t7, none, some u1, some u2, some w11, some w12] H5 := by
      intro F5 H5 there here wt w11 w12 tt g5 k11 k12 hh hokk htt D hD
      have hI5 := hI.grow g5
      have hls : ls[here]? = some (ls[here]'(by omega)) := List.getElem?_eq_getElem _
      obtain ⟨h1, h2, us, xs, h3, h4, h5, h6⟩ := hI5.at_ here _ hls
      refine st_app (x := (there, wt)) (raw_ix rfl hI5.pH (congrArg (fun z => some (some z)) k11) (by rw [List.getElem?_map, hls]; rfl)) htt g5.fh h3 (by omega) fun w F6 H6 g6 iw => ?_
      rw [hD]
      have hI6 := (hI5.grow g6).push hls (g6.hh _ _ h3) iw hokk
      exact k F6 _ _ (g3.ff.trans (g5.ff.trans g6.ff)) hI6.g.fh ⟨e23.trans (g3.ff.trans (g5.ff.trans g6.ff)), hI6.le (by omega), _, _, _, _, rfl⟩
    have hs2 : c.2 ≤ (places o.l false).length := by omega
    refine st_if (b := lf o.l c) (eb_B (et_call (args := (o, c, ())) (ea2 (et_var rfl i5) (et_pair (et_var rfl j1) (et_var rfl j2))) ⟨hs1, hs2⟩)) g3.fh (fun hlf F4 H4 g4 => ?_) fun hlf F4 H4 g4 => ?_
    · obtain ⟨a1, a2, a3, a4⟩ := hpl.lab c hmc hlf
      have i2 := Rep.mono g4.ff i2
      have i3 := Rep.mono g4.ff i3
      have i4 := Rep.mono g4.ff i4
      have i5 := Rep.mono g4.ff i5
      have j1 := Rep.mono g4.ff j1
      have j2 := Rep.mono g4.ff j2
      have z1 : c.2 ≤ (places o.l (Ltr.mk false).b).length := by rw [hnF]; exact a3
      have z2 : c.1 + 1 ≤ (places o.l (Ltr.mk true).b).length := by rw [hnT]; exact a1
      dsimp only [tSeq]
      refine st_par (R := fun G v => Is G v (placeOf o.l false c.2)) (S := fun G v => Is G v (placeOf o.l true (c.1 + 1))) (et_call (args := (o, Ltr.mk false, c.2, ())) (ea_cons (et_var rfl i5) (ea2 et_T (et_var rfl j2))) ⟨hs1, a2, z1⟩)
        (fun G e => et_call (args := (o, Ltr.mk true, c.1 + 1, ())) (ea_cons (et_var rfl (Rep.mono e i5)) (ea2 et_L (et_addN (et_var rfl (Rep.mono e j1)) (et_nat (i := 1) (n := 1))))) ⟨hs1, by show 1 ≤ c.1 + 1; omega, z2⟩) (fun e i => Rep.mono e i) g4.fh fun w11 w12 F5 H5 g5 k11 k12 => ?_
      have i2 := Rep.mono g5.ff i2
      have i3 := Rep.mono g5.ff i3
      have i4 := Rep.mono g5.ff i4
      exact fin F5 H5 _ _ (lb.2 + gp.2 - tl.1 + 1) w11 w12 _ (g4.trans g5) k11 k12 (hpl.inn false c.2 a2 a3) (by rw [← hok]; exact ⟨a4, .inr (.inl ⟨c, hmc, hlf, rfl, rfl, rfl⟩)⟩)
        (et_pair (et_var rfl k12) (et_add (et_sub (et_add (et_snd (et_var rfl i2)) (et_snd (et_var rfl i4))) (et_fst (et_var rfl i3))) et_int)) _ rfl
    · obtain ⟨a1, a2, a3, a4⟩ := hpl.til c hmc hlf
      have i2 := Rep.mono g4.ff i2
      have i3 := Rep.mono g4.ff i3
      have i4 := Rep.mono g4.ff i4
      have i5 := Rep.mono g4.ff i5
      have j1 := Rep.mono g4.ff j1
      have j2 := Rep.mono g4.ff j2
      have z1 : c.1 ≤ (places o.l (Ltr.mk true).b).length := by rw [hnT]; exact a3
      have z2 : c.2 + 1 ≤ (places o.l (Ltr.mk false).b).length := by rw [hnF]; exact a1
      dsimp only [tSeq]
      refine st_par (R := fun G v => Is G v (placeOf o.l true c.1)) (S := fun G v => Is G v (placeOf o.l false (c.2 + 1))) (et_call (args := (o, Ltr.mk true, c.1, ())) (ea_cons (et_var rfl i5) (ea2 et_L (et_var rfl j1))) ⟨hs1, a2, z1⟩)
        (fun G e => et_call (args := (o, Ltr.mk false, c.2 + 1, ())) (ea_cons (et_var rfl (Rep.mono e i5)) (ea2 et_T (et_addN (et_var rfl (Rep.mono e j2)) (et_nat (i := 1) (n := 1))))) ⟨hs1, by show 1 ≤ c.2 + 1; omega, z2⟩) (fun e i => Rep.mono e i) g4.fh fun w11 w12 F5 H5 g5 k11 k12 => ?_
      have i2 := Rep.mono g5.ff i2
      have i3 := Rep.mono g5.ff i3
      have i4 := Rep.mono g5.ff i4
      exact fin F5 H5 _ _ (tl.2 - lb.1 - gp.1 + 1) w11 w12 _ (g4.trans g5) k11 k12 (hpl.inn true c.1 a2 a3) (by rw [← hok]; exact ⟨a4, .inr (.inr ⟨c, hmc, hlf, rfl, rfl, rfl⟩)⟩)
        (et_pair (et_var rfl k12) (et_add (et_sub (et_sub (et_snd (et_var rfl i3)) (et_fst (et_var rfl i2))) (et_fst (et_var rfl i4))) et_int)) _ rfl
  rintro F3 σ' H3 e3 e3' ⟨_, hI, t9, t10, t11, t12, rfl⟩
  obtain ⟨F4, X, g4, iX, hXl, hX⟩ := hI.fin
  dsimp only
  exact ⟨.ref p, rfl, q _ F4 _ g4 ⟨X, iX, by rw [hXl, hli], fun k xs e => ⟨by have := (hX k xs e).1; omega, (hX k xs e).2⟩⟩⟩

end
end LT
/-! ## W10 -/
set_option Elab.async false
set_option linter.all false
set_option maxRecDepth 100000
set_option maxHeartbeats 4000000
namespace LT
open PySem PySem.Spec PyProof.Rows L2
section
variable {P : Program} {w : World} {K : PySem.W.Frag} {mg : Str → Option Value} {base : Heap}
/-! ### least plans -/
def ownM (ms : List Int) (l : List Bool) (k : Nat) : Int := ms.getD ((l.take k).count (l.getD k true)) 0
def ownMs (ms : List Int) (l : List Bool) : List Int := (List.range l.length).map (ownM ms l)
abbrev N_letter_moments : List Str := ["book", "order", "moments", "met", "found", "letter"]
theorem sc_letter_moments : FnScope N_letter_moments ["book", "order"] (defScope s_letter_moments) := ⟨rfl, rfl, rfl, by decide +kernel, rfl, by decide +kernel, by decide +kernel⟩
theorem ok_letter_moments (T : Top K mg) : Cal P w K mg base 3 "letter_moments" (spP (A := BkK K × Od × Unit) (fun (b, o, _) => b.ch.length ≤ 7 ∧ IsOrd b.ch.length o.l) fun (b, o, _) => ownMs b.ms o.l) := by
  obtain ⟨fd, Fd, b⟩ := T.f_letter_moments
  refine cal_of Fd T.g_letter_moments b sc_letter_moments rfl fun cdv Ar outer s H vs Q E hr F0 args e0 ha hp q => ?_
  have hu := hu_of hr
  refine ⟨_, (pss_cons (ps_par (i := 2) (j := 3) (by rfl) sc_letter_moments.nd rfl rfl (by decide) rfl rfl (pa_cons (pe_met0 (ok_Book_moments T) hr (by decide) (pv 0)) (pa_cons (pe_disp (pps_cons pe_str pe_int (pps_cons pe_str pe_int pps_nil)) (by rfl) (by rfl) (fun z => by cases z) (by decide)) pa_nil)) (by rfl))
    (pss_cons (ps_set (i := 4) sc_letter_moments.nd rfl (by first | exact Or.inl rfl | exact Or.inr rfl) (pe_lst pa_nil))
    (pss_cons (ps_for PassesOwn.never rfl (pi_str (pv 1)) (pg_name (i := 5) sc_letter_moments.nd rfl (by first | exact Or.inl rfl | exact Or.inr rfl)) (pss_cons (ps_expr (pe_bm PySem.F.plainAttrs_list PySem.F.slot_list_append PySem.F.type_list_append mt_append (pv 4) (pa_cons (pe_ix ix_seq (pv 2) (pe_dget hu (pv 3) (pv 5) (fun _ _ => rfl)) (fun _ _ => rfl)) pa_nil)))
    (pss_one (ps_daug hu (pv 3) (pv 5) pe_int in_add (fun _ _ _ => rfl)))))
    (pss_one (ps_ret (pv 4)))))), ?_⟩
  obtain ⟨v1, ws1, rfl, i1, v2, ws2, rfl, i2, rfl⟩ := ha
  obtain ⟨b, o, u_⟩ := args
  have i1 : Is F0 v1 b := i1
  have i2 : Is F0 v2 o := i2
  obtain ⟨hb, ho⟩ : b.ch.length ≤ 7 ∧ IsOrd b.ch.length o.l := hp
  have hol := ho.len
  have hms : b.ms.length = b.ch.length := by unfold Bk.ms; simp
  have q : ∀ v F2 H2, Grow F0 H F2 H2 → Is F2 v (ownMs b.ms o.l) → Q v H2 := q
  dsimp only [tSeq, tPar, tCons, tNil]
  refine et_meth (m := "moments") (args := ()) (et_var rfl i1) ea_nil (show b.ch.length ≤ 1000 by omega) (by rfl) H e0 _ fun v3 F1 H1 g1 i3 => ?_
  have i3 : Is F1 v3 b.ms := i3
  intro p hp1
  refine ⟨upd_same, [(.inr "L", .int 0), (.inr "T", .int 0)], rfl, by decide, ?_⟩
  have hF1 : F1 p = none := ex_none g1.fh hp1
  have h0 : H p = none := ex_none g1.hh hp1
  have gA := (g1.mut (o := .dK []) hF1 h0).mut (o := .dK (mergeK [] [(.inr "L", .int 0), (.inr "T", .int 0)])) hF1 h0
  have hmt : MtD (mergeK [] [(.inr "L", .int 0), (.inr "T", .int 0)]) (fun b => ((o.l.take 0).count b)) := fun b => by
    rw [List.take_zero]
    cases b <;> decide
  have hlen0 : (mergeK [] [((.inr "L" : Key), V.int 0), (.inr "T", .int 0)]).length ≤ 4 := by decide
  generalize mergeK [] [((.inr "L" : Key), V.int 0), (.inr "T", .int 0)] = kv0 at gA hmt hlen0
  refine ⟨v3, .ref p, rfl, ?_⟩
  have i2 := Rep.mono g1.ff i2
  have hpA : upd (upd H1 p (.dK [])) p (.dK kv0) p = some (.dK kv0) := upd_same
  generalize upd (upd H1 p (.dK [])) p (.dK kv0) = HA at gA hpA
  dsimp only [tAsg]
  refine mk_lst (α := Int) (xs := []) eas_nil (by simp) gA.fh fun l vs F2 H2 g2 hn2 hA2 hl2 ha2 => ?_
  have hF2 := g2.off hF1 hpA
  have hp2 := g2.hh _ _ hpA
  have hl0 : H l = none := ex_none gA.hh hA2
  have hpl : l ≠ p := fun z => by rw [z, hpA] at hA2; cases hA2
  have i2 := Rep.mono g2.ff i2
  have i3 := Rep.mono g2.ff i3
  have gB := gA.trans g2
  dsimp only [gName]
  refine st_loop (xs := o.l.map Ltr.mk) (fun i Fi σ' H' => Grow F0 H Fi H' ∧ Fi l = none ∧ Fi p = none ∧ ∃ vs kvs t, H' l = some (.lst vs) ∧ All2 (Rep.is Fi) vs ((List.range i).map (ownM b.ms o.l)) ∧ H' p = some (.dK kvs) ∧ kvs.length ≤ 4 + i ∧ MtD kvs (fun b => ((o.l.take i).count b)) ∧
      σ' = [some v1, some v2, some v3, some (.ref p), some (.ref l), t])
    (ei_str (et_var rfl i2)) gB.fh (fun F3 H3 g3 => ⟨gB.trans g3, g3.off hn2 hl2, g3.off hF2 hp2, vs, kv0, none, g3.hh _ _ hl2, ha2.mono fun _ _ z => Rep.mono g3.ff z, g3.hh _ _ hp2, by omega, hmt, rfl⟩) ?_ ?_
  · rintro N i x Fi σ' H' v F3 H3 hx e3 ⟨gi, hni, hpi, vs, kvs, t, hli, hai, hki, hkl, hmi, rfl⟩ g3 iv k
    rw [List.getElem?_map] at hx
    cases eb : o.l[i]? with
    | none => rw [eb] at hx; cases hx
    | some bit =>
      rw [eb] at hx
      cases hx
      have hi := (List.getElem?_eq_some_iff.mp eb).1
      have hn3 := g3.off hni hli
      have hl3 := g3.hh _ _ hli
      have hp3 := g3.off hpi hki
      have hk3 := g3.hh _ _ hki
      have i3 := Rep.mono (e3.trans g3.ff) i3
      have hvl : vs.length = i := by rw [hai.len]; simp
      have hgd : o.l.getD i true = bit := by rw [List.getD_eq_getElem?_getD, eb]; rfl
      have hcnt : (o.l.take i).count bit < b.ms.length := by
        have h1 : (o.l.take (i + 1)).count bit ≤ o.l.count bit := (List.take_sublist _ _).count_le _
        rw [List.take_add_one, eb, List.count_append] at h1
        have h2 : o.l.count bit = b.ch.length := by
          cases bit
          · exact ho.ts
          · exact ho.ls
        simp at h1
        omega
      dsimp only [gName, tSeq]
      refine st_appP (p := p) (o := .dK kvs) (l := l) (vs := vs) (x := ownM b.ms o.l i) (raw_var rfl) ?x g3.fh hp3 hk3 (fun _ z => by cases z) hl3 (by omega) fun y F4 H4 g4 hp4 hk4 hl4 iy => ?_
      case x =>
        have im : Is (upd F3 p (.dK kvs)) (.ref p) (Mt.mk fun b => ((o.l.take i).count b)) := ⟨p, kvs, rfl, upd_same, hmi⟩
        have hget := getD_get (d := (0 : Int)) hcnt
        rw [← hgd] at hget
        refine et_ixL (xs := b.ms) (i := (o.l.take i).count bit) (et_var rfl (Rep.mono (ex_upd hp3) i3)) (et_getM (m := Mt.mk fun b => ((o.l.take i).count b)) (b := Ltr.mk bit) (et_var rfl im) (et_var rfl (Rep.mono (ex_upd hp3) iv))) ?_
        rw [← hgd]
        exact hget
      have hn4 := g4.off hn3 hl3
      have g5 := (gi.trans (g3.trans g4)).mut hn4 hl0 (o := .lst (vs ++ [y]))
      have hk5 : upd H4 l (.lst (vs ++ [y])) p = some (.dK kvs) := by rw [upd_ne hpl.symm]; exact hk4
      dsimp only
      refine ⟨.ref p, rfl, v, rfl, p, .int ((o.l.take i).count bit : Nat), rfl, .inl ⟨kvs, .inr (ltr bit), .inl hk5, iv, (hmi bit).symm⟩, ((o.l.take i).count bit : Nat), 1, rfl, rfl, _, .inl ⟨kvs, .inr (ltr bit), hk5, iv, sz_lt (by omega), rfl⟩, ?_⟩
      have g6 := g5.mut hp4 h0 (o := .dK (putK kvs (.inr (ltr bit)) (.int (((o.l.take i).count bit : Nat) + 1))))
      refine k F4 _ _ (g3.ff.trans g4.ff) g6.fh ⟨g6, hn4, hp4, _, _, _, by rw [upd_ne hpl]; exact upd_same, ?_, upd_same, Nat.le_trans (length_putK _ _ _) (by omega), ?_, rfl⟩
      · rw [List.range_succ, List.map_append]
        exact (hai.mono fun _ _ z => Rep.mono (g3.ff.trans g4.ff) z).snoc iy
      · have hm2 := mt_put hmi bit ((o.l.take i).count bit + 1)
        have e : (fun c => if c = bit then (o.l.take i).count bit + 1 else (o.l.take i).count c) = fun b => ((o.l.take (i + 1)).count b) := funext fun c => by
          rw [List.take_add_one, eb, List.count_append]
          by_cases h : c = bit
          · rw [if_pos h, h]; simp
          · rw [if_neg h]; simp [h, Ne.symm h]
        rw [e] at hm2
        exact hm2
  rintro F3 σ' H3 e3 e3' ⟨g, hn3, hp3, vs, kvs, t, hl3, ha3, _, _, _, rfl⟩
  rw [List.length_map] at ha3
  dsimp only
  exact ⟨.ref l, rfl, q _ _ _ (g.frz hn3 hl0 hl3) ⟨l, vs, rfl, upd_same, ha3.mono fun _ _ z => Rep.mono (ex_upd hn3) z⟩⟩
structure Least (ps : List Int) (lb tl gp : Pr) (ms : List Int) (l : List Bool) (Ms : List Int) : Prop where
  len : Ms.length = l.length
  val : ∀ (k : Nat) m, Ms[k]? = some m → m = ownM ms l k ∨ ∃ s w, FOk ps lb tl gp l k (s, w) ∧ m = Ms.getD s 0 + w
abbrev N_least_moments : List Str := ["book", "label", "till", "gap", "order", "found", "own", "at", "some", "spot", "by"]
theorem sc_least_moments : FnScope N_least_moments ["book", "label", "till", "gap", "order"] (defScope s_least_moments) := ⟨rfl, rfl, rfl, by decide +kernel, rfl, by decide +kernel, by decide +kernel⟩
theorem ok_least_moments (T : Top K mg) : Cal P w K mg base 4 "least_moments" (spR (A := FoArgs K) (fun (b, lb, tl, gp, o, _) => b.ch.length ≤ 7 ∧ IsOrd b.ch.length o.l ∧ PlOk b.ch.length b.ps o.l) fun (b, lb, tl, gp, o, _) F2 v => ∃ Ms : List Int, Is F2 v Ms ∧ Least b.ps lb tl gp b.ms o.l Ms) := by
  obtain ⟨fd, Fd, b⟩ := T.f_least_moments
  refine cal_of Fd T.g_least_moments b sc_least_moments rfl fun cdv Ar outer s H vs Q E hr F0 args e0 ha hp q => ?_
  have hu := hu_of hr
  refine ⟨_, (pss_cons (ps_asg (pe_tup (pa_cons (pe_lst pa_nil) (pa_cons (pe_cal (ok_letter_moments T) hr (by decide) rfl (pa_cons (pv 0) (pa_cons (pv 4) pa_nil))) pa_nil))) (pg_tup rfl (pgs_cons (pg_name (i := 5) sc_least_moments.nd rfl (by first | exact Or.inl rfl | exact Or.inr rfl)) (pgs_cons (pg_name (i := 6) sc_least_moments.nd rfl (by first | exact Or.inl rfl | exact Or.inr rfl)) pgs_nil))))
    (pss_cons (ps_for PassesOwn.never rfl (pi_enum (by rfl) T.m_enumerate (pa_cons (pe_cal (ok_forces T) hr (by decide) rfl (pa_cons (pv 0) (pa_cons (pv 1) (pa_cons (pv 2) (pa_cons (pv 3) (pa_cons (pv 4) pa_nil)))))) pa_nil)) (pg_tup rfl (pgs_cons (pg_name (i := 7) sc_least_moments.nd rfl (by first | exact Or.inl rfl | exact Or.inr rfl)) (pgs_cons (pg_name (i := 8) sc_least_moments.nd rfl (by first | exact Or.inl rfl | exact Or.inr rfl)) pgs_nil))) (pss_one (ps_expr (pe_bm PySem.F.plainAttrs_list PySem.F.slot_list_append PySem.F.type_list_append mt_append (pv 5) (pa_cons (pe_callB (cr_max rfl) (by rfl) T.m_max (by decide +kernel) (pa_cons (pe_op op_cat (pe_lst (pa_cons (pe_ix ix_seq (pv 6) (pv 7) (fun _ _ => rfl)) pa_nil)) (pe_lc (own := [("spot", 9), ("by", 10)]) rfl sc_least_moments.nd (pi_list (pv 8)) (blkOk_by (N := N_least_moments) (sc := defScope s_least_moments) (own := [("spot", 9), ("by", 10)]) (by decide +kernel)) (fun _ _ _ _ _ => (pg_tupK (K := K) (n := 2) (by rfl) (by rfl) (pgs_cons (pg_name (i := 9) sc_least_moments.nd rfl (by first | exact Or.inl rfl | exact Or.inr rfl)) (pgs_cons (pg_name (i := 10) sc_least_moments.nd rfl (by first | exact Or.inl rfl | exact Or.inr rfl)) pgs_nil)))) (fun _ _ _ _ _ => pts_nil) (fun _ _ _ _ _ => (pe_op op_add (pe_ix (ix_seqK (K := K) (by rfl)) (pv 5) (pv 9) (fun _ _ => rfl)) (pv 10))))) pa_nil)) pa_nil)))))
    (pss_one (ps_ret (pv 5))))), ?_⟩
  obtain ⟨v1, ws1, rfl, i1, v2, ws2, rfl, i2, v3, ws3, rfl, i3, v4, ws4, rfl, i4, v5, ws5, rfl, i5, rfl⟩ := ha
  obtain ⟨b, lb, tl, gp, o, u_⟩ := args
  have i1 : Is F0 v1 b := i1
  have i2 : Is F0 v2 lb := i2
  have i3 : Is F0 v3 tl := i3
  have i4 : Is F0 v4 gp := i4
  have i5 : Is F0 v5 o := i5
  obtain ⟨hb, ho, hpl⟩ : b.ch.length ≤ 7 ∧ IsOrd b.ch.length o.l ∧ PlOk b.ch.length b.ps o.l := hp
  have hol := ho.len
  have q : ∀ v F2 H2, Grow F0 H F2 H2 → (∃ Ms : List Int, Is F2 v Ms ∧ Least b.ps lb tl gp b.ms o.l Ms) → Q v H2 := q
  dsimp only [tSeq, tAsg, tTup, tCons, tNil]
  refine mk_lst (α := Int) (xs := []) eas_nil (by simp) e0 fun p vs F1 H1 g1 hn1 h0 hl1 ha1 => ?_
  have i1 := Rep.mono g1.ff i1
  have i2 := Rep.mono g1.ff i2
  have i3 := Rep.mono g1.ff i3
  have i4 := Rep.mono g1.ff i4
  have i5 := Rep.mono g1.ff i5
  refine et_call (args := (b, o, ())) (ea2 (et_var rfl i1) (et_var rfl i5)) ⟨hb, ho⟩ H1 g1.fh _ fun v7 F2 H2 g2 i7 => ?_
  have i7 : Is F2 v7 (ownMs b.ms o.l) := i7
  have hn2 := g2.off hn1 hl1
  have hl2 := g2.hh _ _ hl1
  have i1 := Rep.mono g2.ff i1
  have i2 := Rep.mono g2.ff i2
  have i3 := Rep.mono g2.ff i3
  have i4 := Rep.mono g2.ff i4
  have i5 := Rep.mono g2.ff i5
  refine ⟨(by decide : 2 ≤ sizeLine), fun tp htp => ?_⟩
  have hne : p ≠ tp := fun z => by rw [z, htp] at hl2; cases hl2
  have gB := (g1.trans g2).mut (o := .tup [.ref p, v7]) (ex_none g2.fh htp) (ex_none (g1.trans g2).hh htp)
  have hHB : upd H2 tp (.tup [.ref p, v7]) p = some (.lst vs) := by rw [upd_ne hne]; exact hl2
  refine ⟨tp, [.ref p, v7], rfl, SqT.of upd_same, rfl, .ref p, [v7], rfl, v7, [], rfl, rfl, ?_⟩
  generalize upd H2 tp (.tup [.ref p, v7]) = HB at gB hHB
  have a2 : All2 (Rep.is F2) vs ([] : List Int) := ha1.mono fun _ _ z => Rep.mono g2.ff z
  refine st_loopE (α := Nat × List (Nat × Int)) (P := fun xs => ∃ X : List (List (Nat × Int)), xs = en X ∧ X.length = o.l.length ∧ ∀ k xs, X[k]? = some xs → xs.length ≤ 200 ∧ ∀ x ∈ xs, FOk b.ps lb tl gp o.l k x)
    (fun xs i Fi σ' H' => Grow F0 H Fi H' ∧ Fi p = none ∧ ∃ vs Ms t8 t9, H' p = some (.lst vs) ∧ All2 (Rep.is Fi) vs Ms ∧ Ms.length = i ∧ (∀ (k : Nat) m, Ms[k]? = some m → m = ownM b.ms o.l k ∨ ∃ s w, FOk b.ps lb tl gp o.l k (s, w) ∧ m = Ms.getD s 0 + w) ∧
      σ' = [some v1, some v2, some v3, some v4, some v5, some (.ref p), some v7, t8, t9, none, none])
    (fun H e R k => er_call (A := FoArgs K) (args := (b, lb, tl, gp, o, ())) (ea_cons (et_var rfl i1) (ea_cons (et_var rfl i2) (ea_cons (et_var rfl i3) (ea2 (et_var rfl i4) (et_var rfl i5))))) ⟨hb, hol, hpl⟩ H e _ fun v F3 H3 g3 ⟨X, iX, hX⟩ =>
      ei_enum (σ := []) (xs := X) (ea1 (et_c iX)) H3 g3.fh R fun J F4 H4 g4 w => k (en X) J F4 H4 (g3.trans g4) w ⟨X, rfl, hX⟩) gB.fh
    (fun xs F3 H3 _ g3 => ⟨gB.trans g3, g3.off hn2 hHB, vs, [], none, none, g3.hh _ _ hHB, a2.mono fun _ _ z => Rep.mono g3.ff z, rfl, fun k m h => by simp at h, rfl⟩) ?_ ?_
  · rintro N xs i x Fi σ' H' v F3 H3 ⟨X, rfl, hXl, hX⟩ hx e3 ⟨gi, hni, vs, Ms, t8, t9, hli, hai, hMl, hMv, rfl⟩ g3 iv k
    obtain ⟨hx1, hx2⟩ := en_get hx
    obtain ⟨hxl, hxf⟩ := hX i _ hx2
    have hi := (List.getElem?_eq_some_iff.mp hx2).1
    have hn3 := g3.off hni hli
    have hl3 := g3.hh _ _ hli
    have ha3 := hai.mono fun _ _ z => Rep.mono g3.ff z
    have hvl := hai.len
    have i7 := Rep.mono (e3.trans g3.ff) i7
    refine gt_pair g3.fh iv fun u1 u2 j1 j2 => ?_
    have e4 : Ex F3 (upd F3 p (.lst vs)) := ex_upd hn3
    have iM : Is (upd F3 p (.lst vs)) (.ref p) Ms := is_lent hn3 ha3
    have hown : (ownMs b.ms o.l)[x.1]? = some (ownM b.ms o.l i) := by
      unfold ownMs
      rw [hx1, List.getElem?_map, List.getElem?_range (by omega)]
      rfl
    refine st_appB (l := p) (vs := vs) (x := mx (ownM b.ms o.l i) (x.2.map fun y => Ms.getD y.1 0 + y.2)) (raw_var rfl) ?x g3.fh hn3 hl3 (by omega) fun y F4 H4 g4 hn4 hl4 iy => ?_
    case x =>
      refine et_max (ET.to (et_cat (et_lst (eas_cons (et_ixL (et_var rfl (Rep.mono e4 i7)) (et_var rfl (Rep.mono e4 j1)) hown) eas_nil) (by simp)) (et_lcP (xs := x.2) (p := fun _ => true) (f := fun y => Ms.getD y.1 0 + y.2) (ei_list (et_var rfl (Rep.mono e4 j2))) (fun _ _ => rfl) (fun z hz F5 v u e i j => eb_yes)
        (fun z hz F5 v u e i j _ => et_add (et_ixL (et_var rfl (Rep.mono e iM)) (et_var rfl i) (getD_get (show z.1 < Ms.length from by have := (hxf z hz).1; omega))) (et_var rfl j)) (by omega)) (by rw [filter_yes]; simp; omega)) (by rw [filter_yes]; rfl))
    have g5 := (gi.trans (g3.trans g4)).mut hn4 h0 (o := .lst (vs ++ [y]))
    refine k F4 _ _ (g3.ff.trans g4.ff) g5.fh ⟨g5, hn4, _, Ms ++ [_], _, _, upd_same, (ha3.mono fun _ _ z => Rep.mono g4.ff z).snoc iy, by rw [List.length_append, hMl]; rfl, fun kk m hm => ?_, rfl⟩
    have get_ap : ∀ s, s < Ms.length → (Ms ++ [mx (ownM b.ms o.l i) (x.2.map fun y => Ms.getD y.1 0 + y.2)]).getD s 0 = Ms.getD s 0 := fun s hs => by
      rw [List.getD_eq_getElem?_getD, List.getD_eq_getElem?_getD, List.getElem?_append_left hs]
    by_cases hkk : kk < Ms.length
    · rw [List.getElem?_append_left hkk] at hm
      rcases hMv kk m hm with h | ⟨s, w, h1, h2⟩
      · exact .inl h
      · exact .inr ⟨s, w, h1, by rw [get_ap s (by have := h1.1; omega)]; exact h2⟩
    · rw [List.getElem?_append_right (by omega)] at hm
      have hk2 : kk = Ms.length := by
        have := (List.getElem?_eq_some_iff.mp hm).1
        rw [List.length_singleton] at this
        omega
      subst hk2
      rw [Nat.sub_self] at hm
      have hm := Option.some.inj hm
      rcases List.mem_cons.mp (mx_mem (x := ownM b.ms o.l i) (xs := x.2.map fun y => Ms.getD y.1 0 + y.2)) with h | h
      · exact .inl (by rw [← hm, hMl]; exact h)
      · rw [List.mem_map] at h
        obtain ⟨z, hz, e⟩ := h
        refine .inr ⟨z.1, z.2, by rw [hMl]; exact hxf z hz, ?_⟩
        rw [get_ap z.1 (by have := (hxf z hz).1; omega), e]
        exact hm.symm
  rintro xs F3 σ' H3 ⟨X, rfl, hXl, hX⟩ e3 e3' ⟨g, hn3, vs, Ms, t8, t9, hl3, ha3, hMl, hMv, rfl⟩
  rw [en_len] at hMl
  dsimp only
  exact ⟨.ref p, rfl, q _ _ _ (g.frz hn3 h0 hl3) ⟨Ms, ⟨p, vs, rfl, upd_same, ha3.mono fun _ _ z => Rep.mono (ex_upd hn3) z⟩, by rw [hMl, hXl], hMv⟩⟩
def pick (l : List Bool) (Ms : List Int) (b : Bool) : List Int := (((l.map Ltr.mk).zip Ms).filter fun p => decide (p.1.b = b)).map (·.2)
def cs_plan_of : Scope := match defBody s_plan_of with
  | (.Assign _ (.ListComp _ _ sc _) _) :: _ => sc
  | _ => defScope s_plan_of
theorem is_LT {G : Hp} : Is G (.str "LT") (Od.mk [true, false]) := by
  show V.str "LT" = V.str (Od.mk [true, false]).str
  exact congrArg V.str (by decide)
abbrev N_plan_of : List Str := ["order", "moments", "told", "sign", "moment", "letter"]
theorem sc_plan_of : FnScope N_plan_of ["order", "moments"] (defScope s_plan_of) := ⟨rfl, rfl, rfl, by decide +kernel, rfl, by decide +kernel, by decide +kernel⟩
theorem ok_plan_of (T : Top K mg) : Cal P w K mg base 1 "plan_of" (spP (A := Od × List Int × Unit) (fun (o, Ms, _) => o.l.length ≤ 100 ∧ Ms.length ≤ 100) fun (o, Ms, _) => (pick o.l Ms true, pick o.l Ms false)) := by
  obtain ⟨fd, Fd, b⟩ := T.f_plan_of
  refine cal_of Fd T.g_plan_of b sc_plan_of rfl fun cdv Ar outer s H vs Q E hr F0 args e0 ha hp q => ?_
  have hu := hu_of hr
  refine ⟨_, (pss_cons (ps_setLc (i := 2) (own := [("letter", 5)]) rfl sc_plan_of.nd rfl rfl (sw_true rfl rfl rfl (by decide +kernel)) (pi_str pe_str) (blkOk_by (N := N_plan_of) (sc := defScope s_plan_of) (own := [("letter", 5)]) (by decide +kernel)) (fun _ _ _ _ _ => (pg_name (i := 5) sc_plan_of.nd rfl (by first | exact Or.inl rfl | exact Or.inr rfl))) (fun _ _ _ _ _ => pts_nil) (fun _ _ _ _ _ => (pe_lc (own := [("sign", 3), ("moment", 4)]) (by rfl) sc_plan_of.nd (pi_zipSK (K := K) (by rfl) (by rfl) T.m_zip (pa_cons (pv 0) (pa_cons (pv 1) pa_nil))) (blkOk_by (N := N_plan_of) (sc := (relS cs_plan_of (defScope s_plan_of))) (own := [("sign", 3), ("moment", 4)]) (by decide +kernel)) (fun _ _ _ _ _ => (pg_tupK (K := K) (n := 2) (by rfl) (by rfl) (pgs_cons (pg_name (i := 3) sc_plan_of.nd rfl (by first | exact Or.inl rfl | exact Or.inr rfl)) (pgs_cons (pg_name (i := 4) sc_plan_of.nd rfl (by first | exact Or.inl rfl | exact Or.inr rfl)) pgs_nil)))) (fun _ _ _ _ _ => (pts_one (pt_cmpR op_eq (pv 3) (pv 5) (nomark _)))) (fun _ _ _ _ _ => (pv 4)))))
    (pss_one (ps_ret (pe_tup (pa_cons (pe_ix ix_seq (pv 2) pe_int (fun _ _ => rfl)) (pa_cons (pe_ix ix_seq (pv 2) pe_int (fun _ _ => rfl)) pa_nil)))))), ?_⟩
  obtain ⟨v1, ws1, rfl, i1, v2, ws2, rfl, i2, rfl⟩ := ha
  obtain ⟨o, Ms, u_⟩ := args
  have i1 : Is F0 v1 o := i1
  have i2 : Is F0 v2 Ms := i2
  obtain ⟨hol, hMs⟩ : o.l.length ≤ 100 ∧ Ms.length ≤ 100 := hp
  dsimp only [tSeq]
  refine st_set (R := fun G v => Is G v [pick o.l Ms true, pick o.l Ms false]) ?x e0 fun v3 F1 H1 g1 i3 => ?_
  case x =>
    refine ET.to (et_lcN (xs := [Ltr.mk true, Ltr.mk false]) (p := fun _ => true) (f := fun c => pick o.l Ms c.b) (ei_str (o := Od.mk [true, false]) (et_c is_LT)) (fun _ => rfl) (fun x hx F1 v e i => eb_yes)
      (fun x hx F1 v e i _ => et_lcP (xs := (o.l.map Ltr.mk).zip Ms) (p := fun p => decide (p.1.b = x.b)) (f := (·.2)) (ei_zipS (x := o) (y := Ms) (ea2 (et_var rfl (Rep.mono e i1)) (et_var rfl (Rep.mono e i2)))) (fun _ _ => rfl)
        (fun y hy F2 v u e2 i2 j2 => eb_test (et_eqLL (et_var rfl i2) (et_var rfl (Rep.mono e2 i)))) (fun y hy F2 v u e2 i2 j2 _ => et_var rfl j2) (by rw [List.length_zip, List.length_map]; omega)) (by simp)) (by rw [filter_yes]; rfl)
  dsimp only
  exact st_ret (et_pair (et_ixL (i := 0) (et_var rfl i3) (et_nat (i := 0) (n := 0)) rfl) (et_ixL (i := 1) (et_var rfl i3) (et_nat (i := 1) (n := 1)) rfl)) g1.fh fun v F2 H2 g2 i => q v F2 H2 (g1.trans g2) i
abbrev N_least_plan : List Str := ["book", "label", "till", "gap", "order"]
theorem sc_least_plan : FnScope N_least_plan ["book", "label", "till", "gap", "order"] (defScope s_least_plan) := ⟨rfl, rfl, rfl, by decide +kernel, rfl, by decide +kernel, by decide +kernel⟩
theorem ok_least_plan (T : Top K mg) : Cal P w K mg base 6 "least_plan" (spR (A := FoArgs K) (fun (b, lb, tl, gp, o, _) => b.ch.length ≤ 7 ∧ Good b.ch.length b.ps o.l ∧ PlOk b.ch.length b.ps o.l) fun (b, lb, tl, gp, o, _) F2 v => ∃ Ms : List Int, Is F2 v (pick o.l Ms true, pick o.l Ms false) ∧ Least b.ps lb tl gp b.ms o.l Ms) := by
  obtain ⟨fd, Fd, b⟩ := T.f_least_plan
  refine cal_of Fd T.g_least_plan b sc_least_plan rfl fun cdv Ar outer s H vs Q E hr F0 args e0 ha hp q => ?_
  have hu := hu_of hr
  refine ⟨_, (pss_cons (ps_expr (pe_cal (ok_need_good T) hr (by decide) rfl (pa_cons (pv 0) (pa_cons (pv 4) pa_nil))))
    (pss_one (ps_ret (pe_cal (ok_plan_of T) hr (by decide) rfl (pa_cons (pv 4) (pa_cons (pe_cal (ok_least_moments T) hr (by decide) rfl (pa_cons (pv 0) (pa_cons (pv 1) (pa_cons (pv 2) (pa_cons (pv 3) (pa_cons (pv 4) pa_nil)))))) pa_nil)))))), ?_⟩
  obtain ⟨v1, ws1, rfl, i1, v2, ws2, rfl, i2, v3, ws3, rfl, i3, v4, ws4, rfl, i4, v5, ws5, rfl, i5, rfl⟩ := ha
  obtain ⟨b, lb, tl, gp, o, u_⟩ := args
  have i1 : Is F0 v1 b := i1
  have i2 : Is F0 v2 lb := i2
  have i3 : Is F0 v3 tl := i3
  have i4 : Is F0 v4 gp := i4
  have i5 : Is F0 v5 o := i5
  obtain ⟨hb, ho, hpl⟩ : b.ch.length ≤ 7 ∧ Good b.ch.length b.ps o.l ∧ PlOk b.ch.length b.ps o.l := hp
  have hol := ho.ord.len
  have q : ∀ v F2 H2, Grow F0 H F2 H2 → (∃ Ms : List Int, Is F2 v (pick o.l Ms true, pick o.l Ms false) ∧ Least b.ps lb tl gp b.ms o.l Ms) → Q v H2 := q
  dsimp only [tSeq]
  refine st_drop (et_call (args := (b, o, ())) (ea2 (et_var rfl i1) (et_var rfl i5)) ⟨hb, ho⟩) e0 fun _ F1 H1 g1 _ => ?_
  have i1 := Rep.mono g1.ff i1
  have i2 := Rep.mono g1.ff i2
  have i3 := Rep.mono g1.ff i3
  have i4 := Rep.mono g1.ff i4
  have i5 := Rep.mono g1.ff i5
  dsimp only [tRet, tCall, tCons, tNil]
  refine et_var (α := Od) (i := 4) rfl i5 H1 g1.fh _ fun w1 F2 H2 g2 k1 => ?_
  have i1 := Rep.mono g2.ff i1
  have i2 := Rep.mono g2.ff i2
  have i3 := Rep.mono g2.ff i3
  have i4 := Rep.mono g2.ff i4
  have i5 := Rep.mono g2.ff i5
  refine er_call (E := E0) (A := FoArgs K) (args := (b, lb, tl, gp, o, ())) (ea_cons (et_var rfl i1) (ea_cons (et_var rfl i2) (ea_cons (et_var rfl i3) (ea2 (et_var rfl i4) (et_var rfl i5))))) ⟨hb, ho.ord, hpl⟩ H2 g2.fh _ fun w2 F3 H3 g3 ⟨Ms, k2, hM⟩ => ?_
  have hMl : Ms.length = o.l.length := hM.len
  have z1 : o.l.length ≤ 100 := by omega
  have z2 : Ms.length ≤ 100 := by omega
  exact ⟨F3, (o, Ms, ()), g3.fh, ⟨w1, _, rfl, Rep.mono g3.ff k1, w2, _, rfl, k2, rfl⟩, ⟨z1, z2⟩, fun v F4 H4 g4 i => q v F4 H4 (g1.trans (g2.trans (g3.trans g4))) ⟨Ms, i, hM⟩⟩

end
end LT
/-! ## W11 -/
set_option Elab.async false
set_option linter.all false
set_option maxRecDepth 100000
set_option maxHeartbeats 4000000
namespace LT
open PySem PySem.Spec PyProof.Rows L2
section
variable {P : Program} {w : World} {K : PySem.W.Frag} {mg : Str → Option Value} {base : Heap}
/-! ### draws -/
structure OkMany (m : Int) : Prop where
  pos : 0 < m
  log : m.natAbs.log2 < 9000
theorem OkMany.div {m : Int} (h : OkMany m) {i : Int} : CDivW i m := ⟨h.pos, h.log⟩
theorem mod_nat {i m : Int} (h : 0 < m) : ∃ k : Nat, i % m = (k : Int) ∧ (k : Int) < m := by
  have h1 := Int.emod_nonneg i (by omega : m ≠ 0)
  have h2 := Int.emod_lt_of_pos i h
  exact ⟨(i % m).toNat, by omega, by omega⟩
abbrev N_law_take : List Str := ["_law_bag_here", "_law_many", "_law_cell", "_law_mixed", "_law_drawn", "_law_early", "_law_second"]
theorem sc_law_take : FnScope N_law_take ["_law_bag_here", "_law_many"] (defScope s_law_take) := ⟨rfl, rfl, rfl, by decide +kernel, rfl, by decide +kernel, by decide +kernel⟩
theorem ok_law_take (T : Top K mg) : Cal P w K mg base 1 "_law_take" (spB (A := Int × Unit) (fun (m, _) => OkMany m) fun (m, _) F2 v => ∃ k : Nat, Is F2 v k ∧ (k : Int) < m) := by
  obtain ⟨fd, Fd, b⟩ := T.f_law_take
  refine cal_ofB Fd T.g_law_take b sc_law_take rfl fun cdv Ar outer s H vs Q E hr F0 bq args S0 ha hp q => ?_
  have hu := hu_of hr
  refine ⟨_, (pss_cons (ps_if (pt_cmpR op_eq (pe_ix ix_seq (pv 0) pe_int (fun _ _ => rfl)) pe_int (nomark _)) (pss_cons (ps_set (i := 2) sc_law_take.nd rfl (by first | exact Or.inl rfl | exact Or.inr rfl) pe_int)
    (pss_cons (ps_if (pt_cmpR op_lt (pe_ix ix_seq (pv 0) pe_int (fun _ _ => rfl)) (pe_callB call_len_seq (by rfl) T.m_len (by decide +kernel) (pa_cons (pe_ix ix_seq (pv 0) pe_int (fun _ _ => rfl)) pa_nil)) (nomark _)) (pss_one (ps_set (i := 2) sc_law_take.nd rfl (by first | exact Or.inl rfl | exact Or.inr rfl) (pe_ix ix_seq (pe_ix ix_seq (pv 0) pe_int (fun _ _ => rfl)) (pe_ix ix_seq (pv 0) pe_int (fun _ _ => rfl)) (fun _ _ => rfl)))) pss_nil)
    (pss_cons (ps_augS (pv 0) pe_int get_list pe_int ip_add set_list)
    (pss_cons (ps_if (pt_cmpR op_ge (pv 2) pe_int (nomark _)) (pss_one (ps_asg (pv 2) (pg_sub (pv 0) pe_int set_list))) pss_nil)
    (pss_cons (ps_set (i := 3) sc_law_take.nd rfl (by first | exact Or.inl rfl | exact Or.inr rfl) (pe_op op_add (pe_op op_add (pe_op op_mul (pe_ix ix_seq (pv 0) pe_int (fun _ _ => rfl)) pe_int) (pe_op op_mod (pe_callTy call_int1 (by rfl) T.m_int (by decide +kernel) (pa_cons (pv 2) pa_nil)) pe_int)) (pe_op op_mul pe_int (pe_ix ix_seq (pv 0) pe_int (fun _ _ => rfl)))))
    (pss_one (ps_asg (pe_op op_mod (pe_callTy call_int1 (by rfl) T.m_int (by decide +kernel) (pa_cons (pv 3) pa_nil)) pe_int) (pg_sub (pv 0) pe_int set_list)))))))) pss_nil)
    (pss_cons (ps_if (pt_cmpR op_gt (pe_ix ix_seq (pv 0) pe_int (fun _ _ => rfl)) pe_int (nomark _)) (pss_cons (ps_set (i := 4) sc_law_take.nd rfl (by first | exact Or.inl rfl | exact Or.inr rfl) (pe_op op_mod (pe_callTy call_int1 (by rfl) T.m_int (by decide +kernel) (pa_cons (pe_ix ix_seq (pv 0) pe_int (fun _ _ => rfl)) pa_nil)) (pv 1)))
    (pss_cons (ps_asg (pe_op op_fdivW (pe_ix ix_seq (pv 0) pe_int (fun _ _ => rfl)) (pv 1)) (pg_sub (pv 0) pe_int set_list))
    (pss_one (ps_ret (pv 4))))) pss_nil)
    (pss_cons (ps_set (i := 5) sc_law_take.nd rfl (by first | exact Or.inl rfl | exact Or.inr rfl) (pe_op op_mod (pe_callTy call_int1 (by rfl) T.m_int (by decide +kernel) (pa_cons (pe_op op_mul (pe_op op_add (pe_ix ix_seq (pv 0) pe_int (fun _ _ => rfl)) pe_int) pe_int) pa_nil)) pe_int))
    (pss_cons (ps_set (i := 6) sc_law_take.nd rfl (by first | exact Or.inl rfl | exact Or.inr rfl) (pe_op op_mod (pe_callTy call_int1 (by rfl) T.m_int (by decide +kernel) (pa_cons (pe_op op_mul (pe_op op_mod (pe_callTy call_int1 (by rfl) T.m_int (by decide +kernel) (pa_cons (pe_op op_mul (pv 5) (pv 5)) pa_nil)) pe_int) pe_int) pa_nil)) pe_int))
    (pss_one (ps_ret (pe_op op_mod (pe_callTy call_int1 (by rfl) T.m_int (by decide +kernel) (pa_cons (pe_op op_fdivW (pv 6) pe_int) pa_nil)) (pv 1)))))))), ?_⟩
  obtain ⟨v1, ws1, rfl, i1, rfl⟩ := ha
  obtain ⟨m, u_⟩ := args
  have i1 : Is F0 v1 m := i1
  have hm : OkMany m := hp
  have hm0 := hm.pos
  have q : ∀ v F2 H2, BS bq F0 H F2 H2 → (∃ k : Nat, Is F2 v k ∧ (k : Int) < m) → Q v H2 := q
  have rd : ∀ (σ : St) (F : Hp) (s0 s1 : Int) (s2 : Nat) (cl : V) (cs : List Int), σ[0]? = some (some (.ref bq)) → F bq = none → Is F cl cs →
      ET (tOp (rIx K) (tVar 0) (tC (.int 0))) σ (upd F bq (.lst (bagL s0 s1 s2 cl))) s0 ∧ ET (tOp (rIx K) (tVar 0) (tC (.int 1))) σ (upd F bq (.lst (bagL s0 s1 s2 cl))) s1 ∧
      ET (tOp (rIx K) (tVar 0) (tC (.int 2))) σ (upd F bq (.lst (bagL s0 s1 s2 cl))) s2 ∧ ET (tOp (rIx K) (tVar 0) (tC (.int 3))) σ (upd F bq (.lst (bagL s0 s1 s2 cl))) cs := fun σ F s0 s1 s2 cl cs hs hn i =>
    ⟨et_rawix (k := 0) hs upd_same rfl rfl rfl, et_rawix (k := 1) hs upd_same rfl rfl rfl, et_rawix (k := 2) hs upd_same rfl rfl rfl, et_rawix (k := 3) hs upd_same rfl rfl (Rep.mono (ex_upd hn) i)⟩
  have nt : ∀ {xs : List V} (vs : List V), HO.lst xs ≠ .tup vs := fun vs z => by cases z
  obtain ⟨s0, s1, s2, cl, cs, hb, hcl⟩ := S0.bag
  dsimp only [tSeq]
  refine join_nx (P := fun σ' H' => ∃ t2 t3 F1, BS bq F0 H F1 H' ∧ σ' = [some (.ref bq), some v1, t2, t3, none, none, none]) ?tail ?head
  case head =>
    intro N hN
    refine st_ifB (l := bq) (b := decide (s0 = 0)) (eb_test (et_eqI (rd _ _ s0 s1 s2 cl cs rfl S0.off hcl).1 et_int)) S0.fh S0.off hb (fun _ F1 H1 g1 hn1 hb1 => ?_) fun _ F1 H1 g1 hn1 hb1 => hN _ _ ⟨none, none, F1, S0.step g1, rfl⟩
    have S1 := S0.step g1
    have hcl := Rep.mono g1.ff hcl
    have i1 := Rep.mono g1.ff i1
    dsimp only [tSeq]
    refine st_set (R := fun G v => Is G v (0 : Int)) et_int S1.fh fun v2 F2 H2 g2 j2 => ?_
    have S2 := S1.step g2
    have hb2 := g2.hh _ _ hb1
    have hcl := Rep.mono g2.ff hcl
    have i1 := Rep.mono g2.ff i1
    dsimp only [tSeq]
    refine join_nx (P := fun σ' H' => ∃ v2 F3 c, BS bq F0 H F3 H' ∧ H' bq = some (.lst (bagL s0 s1 s2 cl)) ∧ Is F3 cl cs ∧ Is F3 v2 (c : Int) ∧ σ' = [some (.ref bq), some v1, some v2, none, none, none, none]) ?tail2 ?head2
    case head2 =>
      intro N2 hN2
      obtain ⟨r0, r1, r2, r3⟩ := rd [some (.ref bq), some v1, some v2, none, none, none, none] F2 s0 s1 s2 cl cs rfl S2.off hcl
      refine st_ifB (l := bq) (b := decide (s2 < cs.length)) (eb_test (et_ltN r2 (et_len r3))) S2.fh S2.off hb2 (fun hlt F3 H3 g3 hn3 hb3 => ?_) fun _ F3 H3 g3 hn3 hb3 => hN2 _ _ ⟨v2, F3, 0, S2.step g3, hb3, Rep.mono g3.ff hcl, Rep.mono g3.ff j2, rfl⟩
      have S3 := S2.step g3
      have hcl := Rep.mono g3.ff hcl
      obtain ⟨r0, r1, r2, r3⟩ := rd [some (.ref bq), some v1, some v2, none, none, none, none] F3 s0 s1 s2 cl cs rfl S3.off hcl
      dsimp only [tAsg]
      refine borrow (x := cs.getD s2 0) (et_ixL r3 r2 (getD_get (of_decide_eq_true hlt))) S3.fh S3.off hb3 nt fun v F4 H4 g4 hn4 hb4 iv => ?_
      exact hN2 _ _ ⟨v, F4, _, S3.step g4, hb4, Rep.mono g4.ff hcl, iv, rfl⟩
    rintro σ2 H3 ⟨v2, F3, c, S3, hb3, hcl, j2, rfl⟩
    /- bag[2] += 1 -/
    dsimp only [tSeq]
    refine ⟨.ref bq, rfl, bq, bagL s0 s1 s2 cl, 2, .int s2, rfl, rfl, SqL.of hb3, rfl, s2, 1, rfl, rfl, bq, bagL s0 s1 s2 cl, 2, 2, rfl, rfl, hb3, rfl, ?_⟩
    have S4 := S3.set (s0 := s0) (s1 := s1) (s2 := s2 + 1) hcl
    have hb4 : upd H3 bq (.lst (bagL s0 s1 (s2 + 1) cl)) bq = some (.lst (bagL s0 s1 (s2 + 1) cl)) := upd_same
    have e4 : upd H3 bq (.lst ((bagL s0 s1 s2 cl).set 2 (.int ((s2 : Int) + 1)))) = upd H3 bq (.lst (bagL s0 s1 (s2 + 1) cl)) := rfl
    rw [e4]
    generalize upd H3 bq (.lst (bagL s0 s1 (s2 + 1) cl)) = H4 at S4 hb4
    dsimp only [tSeq]
    refine join_nx (P := fun σ' H' => ∃ F5 s0', BS bq F0 H F5 H' ∧ H' bq = some (.lst (bagL s0' s1 (s2 + 1) cl)) ∧ Is F5 cl cs ∧ Is F5 v2 (c : Int) ∧ σ' = [some (.ref bq), some v1, some v2, none, none, none, none]) ?tail3 ?head3
    case head3 =>
      intro N3 hN3
      refine st_if (b := decide ((1000000000000000000 : Int) ≤ c)) (eb_test (et_ge (et_var rfl j2) et_int)) S4.fh (fun _ F5 H5 g5 => ?_) fun _ F5 H5 g5 => hN3 _ _ ⟨F5, s0, S4.step g5, g5.hh _ _ hb4, Rep.mono g5.ff hcl, Rep.mono g5.ff j2, rfl⟩
      have S5 := S4.step g5
      have hb5 := g5.hh _ _ hb4
      have hcl := Rep.mono g5.ff hcl
      have j2 := Rep.mono g5.ff j2
      refine st_bag (j := 0) (x := c) (et_var rfl (Rep.mono (ex_upd S5.off) j2)) S5.fh S5.off hb5 rfl (by show 0 < 4; decide) rfl fun F6 H6 g6 hn6 => ?_
      exact hN3 _ _ ⟨F6, c, (S5.step g6).set (Rep.mono g6.ff hcl), upd_same, Rep.mono g6.ff hcl, Rep.mono g6.ff j2, rfl⟩
    rintro σ2 H5 ⟨F5, s0', S5, hb5, hcl, j2, rfl⟩
    obtain ⟨r0, r1, r2, r3⟩ := rd [some (.ref bq), some v1, some v2, none, none, none, none] F5 s0' s1 (s2 + 1) cl cs rfl S5.off hcl
    dsimp only [tSeq, tAsg]
    refine borrow (x := s1 * 48271 + c % 2147483647 + 7919 * ((s2 + 1 : Nat) : Int)) (et_add (et_add (et_mul r1 et_int (Or.inr (by decide))) (et_mod (et_int1 (et_var rfl (Rep.mono (ex_upd S5.off) j2))) et_int (by decide))) (et_mul et_int r2 (Or.inl (by decide)))) S5.fh S5.off hb5 nt fun v3 F6 H6 g6 hn6 hb6 i3 => ?_
    have S6 := S5.step g6
    have hcl := Rep.mono g6.ff hcl
    dsimp only [gName]
    refine st_bag (j := 1) (x := _) (et_mod (et_int1 (et_var rfl (Rep.mono (ex_upd S6.off) i3))) et_int (by decide)) S6.fh S6.off hb6 rfl (by show 1 < 4; decide) rfl fun F7 H7 g7 hn7 => ?_
    exact hN _ _ ⟨_, _, F7, (S6.step g7).set (Rep.mono g7.ff hcl), rfl⟩
  rintro σ' H1 ⟨t2, t3, F1, S1, rfl⟩
  obtain ⟨s0, s1, s2, cl, cs, hb, hcl⟩ := S1.bag
  have i1 := Rep.mono S1.ff i1
  have hr1 := rd
  dsimp only [tSeq]
  refine st_ifB (l := bq) (b := decide (0 < s0)) (eb_test (et_gt (rd _ _ s0 s1 s2 cl cs rfl S1.off hcl).1 et_int)) S1.fh S1.off hb (fun _ F2 H2 g2 hn2 hb2 => ?_) fun _ F2 H2 g2 hn2 hb2 => ?_
  · have S2 := S1.step g2
    have hcl := Rep.mono g2.ff hcl
    have i1 := Rep.mono g2.ff i1
    obtain ⟨k, hk, hkm⟩ := mod_nat (i := s0) hm0
    dsimp only [tSeq, tAsg]
    refine borrow (x := s0 % m) (et_mod (et_int1 (rd _ _ s0 s1 s2 cl cs rfl S2.off hcl).1) (et_var rfl (Rep.mono (ex_upd S2.off) i1)) hm0) S2.fh S2.off hb2 nt fun v4 F3 H3 g3 hn3 hb3 i4 => ?_
    have S3 := S2.step g3
    have hcl := Rep.mono g3.ff hcl
    have i1 := Rep.mono g3.ff i1
    dsimp only [gName]
    refine st_bag (j := 0) (x := s0 / m) (et_div (rd _ _ s0 s1 s2 cl cs rfl S3.off hcl).1 (et_var rfl (Rep.mono (ex_upd S3.off) i1)) hm.div) S3.fh S3.off hb3 rfl (by show 0 < 4; decide) rfl fun F4 H4 g4 hn4 => ?_
    have S4 := (S3.step g4).set (s0 := s0 / m) (s1 := s1) (s2 := s2) (Rep.mono g4.ff hcl)
    dsimp only
    refine ⟨v4, rfl, q _ F4 _ S4 ⟨k, ?_, hkm⟩⟩
    rw [hk] at i4
    exact Rep.mono g4.ff i4
  · have S2 := S1.step g2
    have hcl := Rep.mono g2.ff hcl
    have i1 := Rep.mono g2.ff i1
    dsimp only [tNext, tAsg]
    refine borrow (x := (s1 + 1) * 39373 % 1000000007) (et_mod (et_int1 (et_mul (et_add (rd _ _ s0 s1 s2 cl cs rfl S2.off hcl).2.1 et_int) et_int (Or.inr (by decide)))) et_int (by decide)) S2.fh S2.off hb2 nt fun v5 F3 H3 g3 hn3 hb3 i5 => ?_
    have S3 := S2.step g3
    have i1 := Rep.mono g3.ff i1
    obtain ⟨e, he, hem⟩ := mod_nat (i := (s1 + 1) * 39373) (m := 1000000007) (by decide)
    rw [he] at i5
    dsimp only [gName]
    refine et_mod (i := (e : Int) * e % 998244353 * 30011) (j := 998244353) (et_int1 (et_mul (et_mod (et_int1 (et_mul (et_var rfl i5) (et_var rfl i5) (Or.inl (by omega)))) et_int (by decide)) et_int (Or.inr (by decide)))) et_int (by decide) H3 S3.fh _ fun v6 F4 H4 g4 i6 => ?_
    have S4 := S3.step g4
    have i1 := Rep.mono g4.ff i1
    obtain ⟨k, hk, hkm⟩ := mod_nat (i := (e : Int) * e % 998244353 * 30011 % 998244353 / 7) hm0
    dsimp only
    refine st_ret (et_mod (et_int1 (et_div (et_var rfl i6) (et_int (i := 7)) ⟨by decide, by decide⟩)) (et_var rfl i1) hm0) S4.fh fun v F5 H5 g5 iv => q v F5 H5 (S4.step g5) ⟨k, ?_, hkm⟩
    rw [hk] at iv
    exact iv

end
end LT
/-! ## W12 -/
set_option Elab.async false
set_option linter.all false
set_option maxRecDepth 100000
set_option maxHeartbeats 4000000
namespace LT
open PySem PySem.Spec PyProof.Rows L2
section
variable {P : Program} {w : World} {K : PySem.W.Frag} {mg : Str → Option Value} {base : Heap}
/-! ### draws of numbers, books, boards -/
theorem okM {m : Int} (h0 : 0 < m) (h : m < 10000000000000000000000000000000000000000000000000000000000000) : OkMany m := by
  refine ⟨h0, ?_⟩
  rw [Nat.log2_lt (by omega)]
  have h2 : (10000000000000000000000000000000000000000000000000000000000000 : Nat) < 2 ^ 9000 := by decide +kernel
  omega
theorem ix_go {α : Type} [Rep α] {F H : Hp} {v w : V} {xs : List α} {k : Nat} {x : α} {Q : VK} (e : Ex F H) (iv : Is F v xs) (ik : Is F w k) (hx : xs[k]? = some x) (q : ∀ u, Is F u x → Q u H) : rIx K v w H Q := by
  obtain ⟨a, vs, hv, ha, hs⟩ := iv
  obtain ⟨u, hu, iu⟩ := hs.get hx
  exact .inl ⟨a, vs, k, u, hv, ik, SqL.of (e _ _ ha), atI_of hu, q u iu⟩
abbrev N_law_one : List Str := ["_law_bag_here", "_law_things"]
theorem sc_law_one : FnScope N_law_one ["_law_bag_here", "_law_things"] (defScope s_law_one) := ⟨rfl, rfl, rfl, by decide +kernel, rfl, by decide +kernel, by decide +kernel⟩
theorem ok_law_oneI (T : Top K mg) : Cal P w K mg base 2 "_law_one" (spB (A := List Int × Unit) (fun (xs, _) => xs ≠ [] ∧ xs.length ≤ 100) fun (xs, _) F2 v => ∃ x, x ∈ xs ∧ Is F2 v x) := by
  obtain ⟨fd, Fd, b⟩ := T.f_law_one
  refine cal_ofB Fd T.g_law_one b sc_law_one rfl fun cdv Ar outer s H vs Q E hr F0 bq args S0 ha hp q => ?_
  have hu := hu_of hr
  refine ⟨_, (pss_one (ps_ret (pe_ix ix_seq (pv 1) (pe_cal (ok_law_take T) hr (by decide) rfl (pa_cons (pv 0) (pa_cons (pe_callB call_len_seq (by rfl) T.m_len (by decide +kernel) (pa_cons (pv 1) pa_nil)) pa_nil))) (fun _ _ => rfl)))), ?_⟩
  obtain ⟨v1, ws1, rfl, i1, rfl⟩ := ha
  obtain ⟨xs, u_⟩ := args
  have i1 : Is F0 v1 xs := i1
  obtain ⟨hne, hl⟩ : xs ≠ [] ∧ xs.length ≤ 100 := hp
  have hpos := List.length_pos_iff.mpr hne
  dsimp only [tRet, tOp]
  refine et_var (α := List Int) (i := 1) rfl i1 H S0.fh _ fun w1 F1 H1 g1 j1 => ?_
  have S1 := S0.step g1
  have i1 := Rep.mono g1.ff i1
  refine call_b (args := ((xs.length : Int), ())) S1 rfl (ea1 (et_len (et_var rfl i1)).int) (okM (by omega) (by omega)) fun v F2 H2 c2 ⟨k, ik, hk⟩ => ?_
  have S2 := S1.call c2
  have hk : k < xs.length := by have h : (k : Int) < (xs.length : Int) := hk; omega
  exact ix_go S2.fh (Rep.mono c2.ff j1) ik (List.getElem?_eq_getElem hk) fun u iu => q u F2 H2 S2 ⟨_, List.getElem_mem hk, iu⟩
theorem ok_law_oneL (T : Top K mg) : Cal P w K mg base 2 "_law_one" (spB (A := List Ltr × Unit) (fun (xs, _) => xs ≠ [] ∧ xs.length ≤ 100) fun (xs, _) F2 v => ∃ x, x ∈ xs ∧ Is F2 v x) := by
  obtain ⟨fd, Fd, b⟩ := T.f_law_one
  refine cal_ofB Fd T.g_law_one b sc_law_one rfl fun cdv Ar outer s H vs Q E hr F0 bq args S0 ha hp q => ?_
  have hu := hu_of hr
  refine ⟨_, (pss_one (ps_ret (pe_ix ix_seq (pv 1) (pe_cal (ok_law_take T) hr (by decide) rfl (pa_cons (pv 0) (pa_cons (pe_callB call_len_seq (by rfl) T.m_len (by decide +kernel) (pa_cons (pv 1) pa_nil)) pa_nil))) (fun _ _ => rfl)))), ?_⟩
  obtain ⟨v1, ws1, rfl, i1, rfl⟩ := ha
  obtain ⟨xs, u_⟩ := args
  have i1 : Is F0 v1 xs := i1
  obtain ⟨hne, hl⟩ : xs ≠ [] ∧ xs.length ≤ 100 := hp
  have hpos := List.length_pos_iff.mpr hne
  dsimp only [tRet, tOp]
  refine et_var (α := List Ltr) (i := 1) rfl i1 H S0.fh _ fun w1 F1 H1 g1 j1 => ?_
  have S1 := S0.step g1
  have i1 := Rep.mono g1.ff i1
  refine call_b (args := ((xs.length : Int), ())) S1 rfl (ea1 (et_len (et_var rfl i1)).int) (okM (by omega) (by omega)) fun v F2 H2 c2 ⟨k, ik, hk⟩ => ?_
  have S2 := S1.call c2
  have hk : k < xs.length := by have h : (k : Int) < (xs.length : Int) := hk; omega
  exact ix_go S2.fh (Rep.mono c2.ff j1) ik (List.getElem?_eq_getElem hk) fun u iu => q u F2 H2 S2 ⟨_, List.getElem_mem hk, iu⟩
abbrev N_law_gap_of : List Str := ["_law_bag_here", "_law_way"]
theorem sc_law_gap_of : FnScope N_law_gap_of ["_law_bag_here"] (defScope s_law_gap_of) := ⟨rfl, rfl, rfl, by decide +kernel, rfl, by decide +kernel, by decide +kernel⟩
theorem ok_law_gap_of (T : Top K mg) : Cal P w K mg base 2 "_law_gap_of" (spB (A := Unit) (fun _ => True) fun _ F2 v => ∃ g : Int, Is F2 v g ∧ 1 ≤ g ∧ g < 1000000000000000000000000000000) := by
  obtain ⟨fd, Fd, b⟩ := T.f_law_gap_of
  refine cal_ofB Fd T.g_law_gap_of b sc_law_gap_of rfl fun cdv Ar outer s H vs Q E hr F0 bq args S0 ha hp q => ?_
  have hu := hu_of hr
  refine ⟨_, (pss_cons (ps_set (i := 1) sc_law_gap_of.nd rfl (by first | exact Or.inl rfl | exact Or.inr rfl) (pe_cal (ok_law_take T) hr (by decide) rfl (pa_cons (pv 0) (pa_cons pe_int pa_nil))))
    (pss_cons (ps_if (pt_cmpR op_lt (pv 1) pe_int (nomark _)) (pss_one (ps_ret (pe_op op_add pe_int (pe_cal (ok_law_take T) hr (by decide) rfl (pa_cons (pv 0) (pa_cons (pe_ix ix_seq (pe_lst (pa_cons pe_int (pa_cons pe_int (pa_cons pe_int (pa_cons pe_int (pa_cons pe_int (pa_cons pe_int pa_nil))))))) (pv 1) (fun _ _ => rfl)) pa_nil)))))) pss_nil)
    (pss_one (ps_ret (pe_op op_add (pe_ix ix_seq (pe_lst (pa_cons (pe_op op_pow pe_int pe_int) (pa_cons (pe_op op_pow pe_int pe_int) (pa_cons (pe_op op_pow pe_int pe_int) (pa_cons (pe_op op_pow pe_int pe_int) pa_nil))))) (pe_cal (ok_law_take T) hr (by decide) rfl (pa_cons (pv 0) (pa_cons pe_int pa_nil))) (fun _ _ => rfl)) (pe_cal (ok_law_take T) hr (by decide) rfl (pa_cons (pv 0) (pa_cons pe_int pa_nil)))))))), ?_⟩
  cases ha
  dsimp only [tSeq, tAsg]
  refine call_b (args := ((8 : Int), ())) S0 rfl (ea1 et_int) (okM (by decide) (by decide)) fun v1 F1 H1 S1 ⟨k, ik, hk⟩ => ?_
  have hk : (k : Int) < 8 := hk
  dsimp only [gName]
  refine st_if (b := decide ((k : Int) < 6)) (eb_test (et_lt (i := (k : Int)) (et_var rfl ik) et_int)) S1.fh (fun h F2 H2 g2 => ?_) fun h F2 H2 g2 => ?_
  · have S2 := S1.step g2
    have ik := Rep.mono g2.ff ik
    have hk6 : k < 6 := by have := of_decide_eq_true h; omega
    have hx : ([1, 2, 3, 5, 9, 30] : List Int)[k]? = some (([1, 2, 3, 5, 9, 30] : List Int)[k]'hk6) := List.getElem?_eq_getElem _
    have hm : ∀ x ∈ ([1, 2, 3, 5, 9, 30] : List Int), 0 < x ∧ x < 100 := by decide
    obtain ⟨h1, h2⟩ := hm _ (List.getElem_mem hk6)
    generalize ([1, 2, 3, 5, 9, 30] : List Int)[k]'hk6 = x at hx h1 h2
    dsimp only [tRet, tOp, tC]
    refine call_b (args := (x, ())) S2 rfl (ea1 (et_ixL (xs := [1, 2, 3, 5, 9, 30]) (et_lst (eas_cons et_int (eas_cons et_int (eas_cons et_int (eas_cons et_int (eas_cons et_int (eas_cons et_int eas_nil)))))) (by decide)) (et_var rfl ik) hx)) (okM h1 (by omega)) fun v2 F3 H3 c3 ⟨k2, ik2, hk2⟩ => ?_
    have hk2 : (k2 : Int) < x := hk2
    exact ⟨1, k2, rfl, ik2, q _ F3 H3 (S2.call c3) ⟨1 + k2, rfl, by omega, by omega⟩⟩
  · have S2 := S1.step g2
    dsimp only [tNext, tRet, tOp]
    refine et_lst (xs := [((10 : Int) ^ ((4 : Int).toNat)), (10 : Int) ^ ((9 : Int).toNat), (10 : Int) ^ ((17 : Int).toNat), (10 : Int) ^ ((28 : Int).toNat)]) (eas_cons (et_pow et_int et_int ⟨by decide, by decide, by decide⟩) (eas_cons (et_pow et_int et_int ⟨by decide, by decide, by decide⟩) (eas_cons (et_pow et_int et_int ⟨by decide, by decide, by decide⟩) (eas_cons (et_pow et_int et_int ⟨by decide, by decide, by decide⟩) eas_nil)))) (by simp) H2 S2.fh _ fun v2 F3 H3 g3 i2 => ?_
    have S3 := S2.step g3
    refine call_b (args := ((4 : Int), ())) S3 rfl (ea1 et_int) (okM (by decide) (by decide)) fun v3 F4 H4 c4 ⟨k3, i3, hk3⟩ => ?_
    have S4 := S3.call c4
    have hk4 : k3 < 4 := by have h : (k3 : Int) < 4 := hk3; omega
    have hx : ([((10 : Int) ^ ((4 : Int).toNat)), (10 : Int) ^ ((9 : Int).toNat), (10 : Int) ^ ((17 : Int).toNat), (10 : Int) ^ ((28 : Int).toNat)] : List Int)[k3]? = some (([((10 : Int) ^ ((4 : Int).toNat)), (10 : Int) ^ ((9 : Int).toNat), (10 : Int) ^ ((17 : Int).toNat), (10 : Int) ^ ((28 : Int).toNat)] : List Int)[k3]'hk4) := List.getElem?_eq_getElem _
    have hm : ∀ x ∈ ([((10 : Int) ^ ((4 : Int).toNat)), (10 : Int) ^ ((9 : Int).toNat), (10 : Int) ^ ((17 : Int).toNat), (10 : Int) ^ ((28 : Int).toNat)] : List Int), 1 ≤ x ∧ x ≤ 10000000000000000000000000000 := by decide
    obtain ⟨h1, h2⟩ := hm _ (List.getElem_mem hk4)
    generalize ([((10 : Int) ^ ((4 : Int).toNat)), (10 : Int) ^ ((9 : Int).toNat), (10 : Int) ^ ((17 : Int).toNat), (10 : Int) ^ ((28 : Int).toNat)] : List Int)[k3]'hk4 = x at hx h1 h2
    refine ix_go S4.fh (Rep.mono c4.ff i2) i3 hx fun u iu => ?_
    refine call_b (args := ((5 : Int), ())) S4 rfl (ea1 et_int) (okM (by decide) (by decide)) fun v5 F5 H5 c5 ⟨k5, i5, hk5⟩ => ?_
    have hk5 : (k5 : Int) < 5 := hk5
    exact ⟨x, k5, Rep.mono c5.ff iu, i5, q _ F5 H5 (S4.call c5) ⟨x + k5, rfl, by omega, by omega⟩⟩
abbrev N_law_price : List Str := ["_law_bag_here", "_law_way"]
theorem sc_law_price : FnScope N_law_price ["_law_bag_here"] (defScope s_law_price) := ⟨rfl, rfl, rfl, by decide +kernel, rfl, by decide +kernel, by decide +kernel⟩
theorem ok_law_price (T : Top K mg) : Cal P w K mg base 2 "_law_price" (spB (A := Unit) (fun _ => True) fun _ F2 v => ∃ g : Int, Is F2 v g ∧ 0 ≤ g) := by
  obtain ⟨fd, Fd, b⟩ := T.f_law_price
  refine cal_ofB Fd T.g_law_price b sc_law_price rfl fun cdv Ar outer s H vs Q E hr F0 bq args S0 ha hp q => ?_
  have hu := hu_of hr
  refine ⟨_, (pss_cons (ps_set (i := 1) sc_law_price.nd rfl (by first | exact Or.inl rfl | exact Or.inr rfl) (pe_cal (ok_law_take T) hr (by decide) rfl (pa_cons (pv 0) (pa_cons pe_int pa_nil))))
    (pss_cons (ps_if (pt_cmpR op_lt (pv 1) pe_int (nomark _)) (pss_one (ps_ret (pe_cal (ok_law_take T) hr (by decide) rfl (pa_cons (pv 0) (pa_cons (pe_ix ix_seq (pe_lst (pa_cons pe_int (pa_cons pe_int (pa_cons pe_int (pa_cons pe_int pa_nil))))) (pv 1) (fun _ _ => rfl)) pa_nil))))) pss_nil)
    (pss_one (ps_ret (pe_op op_add (pe_ix ix_seq (pe_lst (pa_cons (pe_op op_pow pe_int pe_int) (pa_cons (pe_op op_pow pe_int pe_int) pa_nil))) (pe_op op_sub (pv 1) pe_int) (fun _ _ => rfl)) (pe_cal (ok_law_take T) hr (by decide) rfl (pa_cons (pv 0) (pa_cons pe_int pa_nil)))))))), ?_⟩
  cases ha
  dsimp only [tSeq, tAsg]
  refine call_b (args := ((6 : Int), ())) S0 rfl (ea1 et_int) (okM (by decide) (by decide)) fun v1 F1 H1 S1 ⟨k, ik, hk⟩ => ?_
  have hk : (k : Int) < 6 := hk
  dsimp only [gName]
  refine st_if (b := decide ((k : Int) < 4)) (eb_test (et_lt (i := (k : Int)) (et_var rfl ik) et_int)) S1.fh (fun h F2 H2 g2 => ?_) fun h F2 H2 g2 => ?_
  · have S2 := S1.step g2
    have ik := Rep.mono g2.ff ik
    have hk6 : k < 4 := by have := of_decide_eq_true h; omega
    have hx : ([2, 4, 8, 100] : List Int)[k]? = some (([2, 4, 8, 100] : List Int)[k]'hk6) := List.getElem?_eq_getElem _
    have hm : ∀ x ∈ ([2, 4, 8, 100] : List Int), 0 < x ∧ x < 1000 := by decide
    obtain ⟨h1, h2⟩ := hm _ (List.getElem_mem hk6)
    generalize ([2, 4, 8, 100] : List Int)[k]'hk6 = x at hx h1 h2
    dsimp only [tRet]
    refine call_b (args := (x, ())) S2 rfl (ea1 (et_ixL (xs := [2, 4, 8, 100]) (et_lst (eas_cons et_int (eas_cons et_int (eas_cons et_int (eas_cons et_int eas_nil)))) (by decide)) (et_var rfl ik) hx)) (okM h1 (by omega)) fun v2 F3 H3 c3 ⟨k2, ik2, hk2⟩ => ?_
    exact q _ F3 H3 (S2.call c3) ⟨k2, ik2, by omega⟩
  · have S2 := S1.step g2
    have ik := Rep.mono g2.ff ik
    have h4 : ¬ (k : Int) < 4 := of_decide_eq_false h
    have hx : ([((10 : Int) ^ ((9 : Int).toNat)), (10 : Int) ^ ((29 : Int).toNat)] : List Int)[k - 4]? = some (([((10 : Int) ^ ((9 : Int).toNat)), (10 : Int) ^ ((29 : Int).toNat)] : List Int)[k - 4]'(by simp; omega)) := List.getElem?_eq_getElem _
    have hm : ∀ x ∈ ([((10 : Int) ^ ((9 : Int).toNat)), (10 : Int) ^ ((29 : Int).toNat)] : List Int), 1 ≤ x := by decide
    have h1 := hm _ (List.getElem_mem (show k - 4 < _ by simp; omega))
    generalize ([((10 : Int) ^ ((9 : Int).toNat)), (10 : Int) ^ ((29 : Int).toNat)] : List Int)[k - 4]'(by simp; omega) = x at hx h1
    dsimp only [tNext, tRet]
    have hE : ET (tOp (rIx K) (tLst (tCons (tOp (rI CPow fun i j => .int (i ^ j.toNat)) (tC (.int 10)) (tC (.int 9))) (tCons (tOp (rI CPow fun i j => .int (i ^ j.toNat)) (tC (.int 10)) (tC (.int 29))) tNil))) (tOp (rI0 fun i j => .int (i - j)) (tVar 1) (tC (.int 4)))) [some (.ref bq), some v1] F2 x :=
      et_ixL (xs := [((10 : Int) ^ ((9 : Int).toNat)), (10 : Int) ^ ((29 : Int).toNat)]) (i := k - 4) (et_lst (eas_cons (et_pow et_int et_int ⟨by decide, by decide, by decide⟩) (eas_cons (et_pow et_int et_int ⟨by decide, by decide, by decide⟩) eas_nil)) (by simp)) ((et_sub (i := (k : Int)) (j := 4) (et_var rfl ik) et_int).nat (by omega)) hx
    refine hE H2 S2.fh _ fun v2 F3 H3 g3 i2 => ?_
    have S3 := S2.step g3
    refine call_b (args := ((3 : Int), ())) S3 rfl (ea1 et_int) (okM (by decide) (by decide)) fun v5 F5 H5 c5 ⟨k5, i5, hk5⟩ => ?_
    exact ⟨x, k5, Rep.mono c5.ff i2, i5, q _ F5 H5 (S3.call c5) ⟨x + k5, rfl, by omega⟩⟩

end
end LT
/-! ## W13 -/
set_option Elab.async false
set_option linter.all false
set_option maxRecDepth 100000
set_option maxHeartbeats 4000000
namespace LT
open PySem PySem.Spec PyProof.Rows L2
section
variable {P : Program} {w : World} {K : PySem.W.Frag} {mg : Str → Option Value} {base : Heap}
/-! ### the drawn book, boards, plans -/
section
variable {σ : St} {b : Addr} {F H F0 H0 : Hp} {te : TE} {D : Ends}
theorem lc_bag {α β : Type} [Rep α] [Rep β] {wi : TI} {j : Nat} {vs : List Nat} {xs : List α} {Pz : β → Prop} {Q : VK} (S : BS b F H F H) (hi : EIt wi σ F xs) (hw : ∀ v, wipe ((wipe σ vs).set j (some v)) vs = wipe σ vs)
    (he : ∀ x, x ∈ xs → ∀ F1 H1 v, BS b F H F1 H1 → Is F1 v x → ∀ Q : VK, (∀ y F2 H2 z, BS b F1 H1 F2 H2 → Is F2 y z → Pz z → Q y H2) → te ((wipe σ vs).set j (some v)) H1 Q) (hz : xs.length ≤ 1000)
    (k : ∀ v F2 H2 (zs : List β), BS b F H F2 H2 → Is F2 v zs → zs.length = xs.length → (∀ z ∈ zs, Pz z) → Q v H2) : tLc wi (gName j) tYes te vs σ H Q :=
  hi H S.fh _ fun J F1 H1 g1 w D hD => by
    have S1 := S.step g1
    have hD1 : F1 D = none := ex_none g1.fh hD
    have h0 : dropA H b D = none := dropA_none (ex_none g1.hh hD)
    have hDb : D ≠ b := fun z => by
      obtain ⟨o, ho⟩ := S1.bag.at_
      rw [← z, hD] at ho
      cases ho
    refine ⟨fun i m H' => m = xs.length - i ∧ i ≤ xs.length ∧ ∃ Fi acc zs, Ex F1 Fi ∧ BS b F H Fi H' ∧ Fi D = none ∧ H' D = some (.lst acc) ∧ All2 (Rep.is Fi) acc zs ∧ zs.length = i ∧ ∀ z ∈ zs, Pz z,
      ⟨xs.length, rfl, Nat.zero_le _, F1, [], [], Ex.refl _, S1.mut hD1 h0 hDb, hD1, upd_same, .nil, rfl, fun z h => absurd h List.not_mem_nil⟩, ?_⟩
    rintro i m H2 ⟨rfl, hi, Fi, acc, zs, ei, Si, hDi, hHD, ha, hzl, hzp⟩
    by_cases hlt : i < xs.length
    · have hx : xs[i]? = some xs[i] := List.getElem?_eq_getElem hlt
      have hm : xs[i] ∈ xs := List.getElem_mem hlt
      have wi := w.mono ei
      refine .inr ⟨wi.go i H2 Si.fh hlt, fun H' => i + 1 ≤ xs.length ∧ ∃ Fi acc zs, Ex F1 Fi ∧ BS b F H Fi H' ∧ Fi D = none ∧ H' D = some (.lst acc) ∧ All2 (Rep.is Fi) acc zs ∧ zs.length = i + 1 ∧ ∀ z ∈ zs, Pz z, fun H' h => ⟨xs.length - (i + 1), by omega, rfl, h.1, h.2⟩, fun v H' hy => ?_⟩
      obtain ⟨F3, g3, iv⟩ := wi.yld i H2 v H' _ Si.fh hx hy
      have S3 := Si.step g3
      have hD3 : F3 D = none := g3.off hDi hHD
      have hH3 := g3.hh _ _ hHD
      refine ⟨hw v, tYes_if ?_⟩
      refine he _ hm F3 H' v S3 iv _ fun y F5 H5 z c5 iy hpz => ?_
      obtain ⟨hD5, hH5⟩ := c5.keep hD3 hH3 hDb
      have hal := ha.len
      refine ⟨acc, hH5, sz_lt (by omega), hlt, F5, _, zs ++ [z], ei.trans (g3.ff.trans c5.ff), (S3.call c5).mut hD5 h0 hDb, hD5, upd_same, (ha.mono fun _ _ q => Rep.mono (g3.ff.trans c5.ff) q).snoc iy, by rw [List.length_append, hzl]; rfl, fun u hu => ?_⟩
      rcases List.mem_append.mp hu with q | q
      · exact hzp u q
      · rw [List.mem_singleton.mp q]; exact hpz
    · have e2 : i = xs.length := by omega
      subst e2
      refine .inl ⟨w.stop _ H2 (ei.trans Si.fh) rfl, ?_⟩
      exact k (.ref D) _ H2 zs (Si.frz hDi h0 hHD hDb) ⟨D, acc, rfl, upd_same, ha.mono fun _ _ q => Rep.mono (ex_upd hDi) q⟩ hzl hzp
/-- a test of a draw: both ways are met -/
theorem tst_b {c : Int} {Q : Bool → Hp → Prop} (h : ∀ Q : VK, (∀ v F2 H2 (i : Int), BS b F H F2 H2 → Is F2 v i → Q v H2) → te σ H Q) (k : ∀ bb F2 H2, BS b F H F2 H2 → Q bb H2) : tTest (tOp rEq te (tC (.int c))) σ H Q :=
  h _ fun v F2 H2 i c2 iv => ⟨by rw [show v = .int i from iv]; rfl, _, rfl, k _ F2 H2 c2⟩
theorem st_ifT {c : Int} {u w : TS} (h : ∀ Q : VK, (∀ v F2 H2 (i : Int), BS b F H F2 H2 → Is F2 v i → Q v H2) → te σ H Q) (k1 : ∀ F2 H2, BS b F H F2 H2 → u D σ H2) (k2 : ∀ F2 H2, BS b F H F2 H2 → w D σ H2) : tIfS (tTest (tOp rEq te (tC (.int c)))) u w D σ H :=
  tst_b h fun bb F2 H2 c2 => by
    cases bb with
    | true => exact k1 F2 H2 c2
    | false => exact k2 F2 H2 c2
theorem ev_ifT {c : Int} {ta tb : TE} {Q : VK} (h : ∀ Q : VK, (∀ v F2 H2 (i : Int), BS b F H F2 H2 → Is F2 v i → Q v H2) → te σ H Q) (k1 : ∀ F2 H2, BS b F H F2 H2 → ta σ H2 Q) (k2 : ∀ F2 H2, BS b F H F2 H2 → tb σ H2 Q) : tIf (tTest (tOp rEq te (tC (.int c)))) ta tb σ H Q :=
  tst_b h fun bb F2 H2 c2 => by
    cases bb with
    | true => exact k1 F2 H2 c2
    | false => exact k2 F2 H2 c2
/-- xs[-1:] -/
def lastL {α : Type} (xs : List α) : List α := xs.drop (xs.length - 1)
theorem et_slLast {α : Type} [Rep α] {xs : List α} (h : ET te σ F xs) : ET (tSl (rSlL K) te (tPart (tUn (rU fun i => .int (-i)) (tC (.int 1)))) tNoPart) σ F (lastL xs) := fun H e Q k =>
  h H e _ fun v F1 H1 g1 i1 => ⟨1, rfl, _, rfl, by
    obtain ⟨a, vs, hv, ha, hs⟩ := i1
    refine ⟨a, vs, hv, SqL.of (g1.fh _ _ ha), fun p hp => ?_⟩
    have hl := hs.len
    have e0 : cutV vs (some (-1)) none = vs.drop (xs.length - 1) := by
      have h1 : HT.sIx vs.length 0 (some (-1)) = xs.length - 1 := by
        unfold HT.sIx
        show (if (-1 : Int) < 0 then _ else _) = _
        rw [if_pos (by decide)]
        omega
      unfold cutV
      rw [h1, HT.sIx_none]
      exact List.take_of_length_le (by rw [List.length_drop]; omega)
    have e1 : cutV vs (some (-(1 : Int))) none = vs.drop (xs.length - 1) := e0
    rw [e1]
    exact k _ _ _ (g1.trans (.new g1.fh hp)) ⟨p, _, rfl, upd_same, (hs.drop _).mono fun _ _ z => Rep.mono (ex_upd (ex_none g1.fh hp)) z⟩⟩
theorem lastL_nil {α : Type} : lastL ([] : List α) = [] := rfl
theorem lastL_len {α : Type} (xs : List α) : (lastL xs).length ≤ 1 := by unfold lastL; rw [List.length_drop]; omega
theorem lastL_get {α : Type} {xs : List α} {x : α} {i : Nat} (h : xs[i]? = some x) (hl : xs.length = i + 1) : lastL xs = [x] := by
  unfold lastL
  have hi : i < xs.length := by omega
  rw [hl, Nat.add_sub_cancel, ← List.getElem_cons_drop hi, List.drop_eq_nil_of_le (by omega)]
  rw [List.getElem?_eq_getElem hi] at h
  rw [Option.some.inj h]
end
abbrev Dr := Int × List (Int × Int)
structure OkDr (d : Dr) : Prop where
  first : 0 ≤ d.1
  ch : OkCh d.2
  few : d.2.length ≤ 7
abbrev N_law_book : List Str := ["_law_bag_here", "_law_most", "_law_moment", "_law_menu", "_law_k", "_law_first", "_law_changes", "_law_price_here"]
theorem sc_law_book : FnScope N_law_book ["_law_bag_here", "_law_most"] (defScope s_law_book) := ⟨rfl, rfl, rfl, by decide +kernel, rfl, by decide +kernel, by decide +kernel⟩
theorem ok_law_book (T : Top K mg) : Cal P w K mg base 3 "_law_book" (spB (A := Nat × Unit) (fun (m, _) => m ≤ 7) fun _ F2 v => ∃ d : Dr, Is F2 v d ∧ OkDr d) := by
  obtain ⟨fd, Fd, b⟩ := T.f_law_book
  refine cal_ofB Fd T.g_law_book b sc_law_book rfl fun cdv Ar outer s H vs Q E hr F0 bq args S0 ha hp q => ?_
  have hu := hu_of hr
  refine ⟨_, (pss_cons (ps_par (i := 2) (j := 3) (by rfl) sc_law_book.nd rfl rfl (by decide) rfl rfl (pa_cons (pe_op op_sub (pe_cal (ok_law_take T) hr (by decide) rfl (pa_cons (pv 0) (pa_cons pe_int pa_nil))) pe_int) (pa_cons (pe_lc (own := [("_law_k", 4)]) rfl sc_law_book.nd (pi_range1 (by rfl) T.m_range (pa_cons pe_int pa_nil)) (blkOk_by (N := N_law_book) (sc := defScope s_law_book) (own := [("_law_k", 4)]) (by decide +kernel)) (fun _ _ _ _ _ => (pg_name (i := 4) sc_law_book.nd rfl (by first | exact Or.inl rfl | exact Or.inr rfl))) (fun _ _ _ _ _ => pts_nil) (fun _ _ _ _ _ => (pe_cal (ok_law_price T) hr (by decide) rfl (pa_cons (pv 0) pa_nil)))) pa_nil)) (by rfl))
    (pss_cons (ps_if (pt_cmpR op_eq (pe_cal (ok_law_take T) hr (by decide) rfl (pa_cons (pv 0) (pa_cons pe_int pa_nil))) pe_int (nomark _)) (pss_one (ps_set (i := 2) sc_law_book.nd rfl (by first | exact Or.inl rfl | exact Or.inr rfl) (pe_op op_sub (pv 2) (pe_op op_pow pe_int pe_int)))) pss_nil)
    (pss_cons (ps_par (i := 5) (j := 6) (by rfl) sc_law_book.nd rfl rfl (by decide) rfl rfl (pa_cons (pe_cal (ok_law_oneI T) hr (by decide) rfl (pa_cons (pv 0) (pa_cons (pv 3) pa_nil))) (pa_cons (pe_lst pa_nil) pa_nil)) (by rfl))
    (pss_cons (ps_for PassesOwn.never rfl (pi_range1 (by rfl) T.m_range (pa_cons (pe_cal (ok_law_take T) hr (by decide) rfl (pa_cons (pv 0) (pa_cons (pe_op op_add (pv 1) pe_int) pa_nil))) pa_nil)) (pg_name (i := 4) sc_law_book.nd rfl (by first | exact Or.inl rfl | exact Or.inr rfl)) (pss_cons (ps_set (i := 7) sc_law_book.nd rfl (by first | exact Or.inl rfl | exact Or.inr rfl) (pe_ifExp (pt_cmpR op_eq (pe_cal (ok_law_take T) hr (by decide) rfl (pa_cons (pv 0) (pa_cons pe_int pa_nil))) pe_int (nomark _)) (pe_cal (ok_law_price T) hr (by decide) rfl (pa_cons (pv 0) pa_nil)) (pe_cal (ok_law_oneI T) hr (by decide) rfl (pa_cons (pv 0) (pa_cons (pv 3) pa_nil)))))
    (pss_cons (ps_expr (pe_bm PySem.F.plainAttrs_list PySem.F.slot_list_append PySem.F.type_list_append mt_append (pv 6) (pa_cons (pe_tup (pa_cons (pv 2) (pa_cons (pv 7) pa_nil))) pa_nil)))
    (pss_one (ps_set (i := 2) sc_law_book.nd rfl (by first | exact Or.inl rfl | exact Or.inr rfl) (pe_op op_add (pv 2) (pe_cal (ok_law_gap_of T) hr (by decide) rfl (pa_cons (pv 0) pa_nil))))))))
    (pss_one (ps_ret (pe_tup (pa_cons (pv 5) (pa_cons (pv 6) pa_nil))))))))), ?_⟩
  obtain ⟨v1, ws1, rfl, i1, rfl⟩ := ha
  obtain ⟨m, u_⟩ := args
  have i1 : Is F0 v1 m := i1
  have hm : m ≤ 7 := hp
  have q : ∀ v F2 H2, BS bq F0 H F2 H2 → (∃ d : Dr, Is F2 v d ∧ OkDr d) → Q v H2 := q
  dsimp only [tSeq, tPar, tCons, tNil, tOp, tC]
  refine call_b (args := ((60 : Int), ())) S0 rfl (ea1 et_int) (okM (by decide) (by decide)) fun w2 F1 H1 S1 ⟨k0, ik0, _⟩ => ?_
  refine ⟨k0, 30, ik0, rfl, ?_⟩
  have i1 := Rep.mono S1.ff i1
  refine lc_bag (b := bq) (Pz := fun z : Int => 0 ≤ z) (BS.start S1.fh S1.off S1.bag) (ei_rngN (n := 3) (ea1 (et_nat (i := 3) (n := 3))) (by decide)) (fun _ => rfl) (fun x hx F2 H2 v c2 iv Q q => call_b (BS.start c2.fh c2.off c2.bag) rfl ea_nil trivial fun y F3 H3 c3 ⟨g, ig, hg⟩ => q y F3 H3 g c3 ig hg) (by simp) fun v3 F2 H2 menu c2 i3 hml hmp => ?_
  have S2 := S1.call c2
  have i1 := Rep.mono c2.ff i1
  rw [List.length_range] at hml
  refine ⟨.int ((k0 : Int) - 30), v3, rfl, ?_⟩
  have im : Is F2 (.int ((k0 : Int) - 30)) ((k0 : Int) - 30) := rfl
  generalize (V.int ((k0 : Int) - 30)) = v2 at im ⊢
  generalize (k0 : Int) - 30 = mo at im
  refine join_nx (P := fun σ' H' => ∃ v2 mo F3, BS bq F0 H F3 H' ∧ Ex F2 F3 ∧ Is F3 v2 (mo : Int) ∧ σ' = [some (.ref bq), some v1, some v2, some v3, none, none, none, none]) ?tail ?head
  case head =>
    intro N hN
    refine st_ifT (b := bq) (fun Q q => call_b (args := ((7 : Int), ())) (BS.start S2.fh S2.off S2.bag) rfl (ea1 et_int) (okM (by decide) (by decide)) fun v F3 H3 c3 ⟨k, ik, _⟩ => q v F3 H3 k c3 ik) (fun F3 H3 c3 => ?_) fun F3 H3 c3 => hN _ _ ⟨v2, mo, F3, S2.call c3, c3.ff, Rep.mono c3.ff im, rfl⟩
    refine et_sub (i := mo) (j := (10 : Int) ^ ((29 : Int).toNat)) (et_var rfl (Rep.mono c3.ff im)) (et_pow et_int et_int ⟨by decide, by decide, by decide⟩) H3 c3.fh _ fun v F4 H4 g4 i4 => ?_
    exact hN _ _ ⟨v, _, F4, (S2.call c3).step g4, c3.ff.trans g4.ff, i4, rfl⟩
  rintro σ' H3 ⟨v2, mo, F3, S3, e3, im, rfl⟩
  have i1 := Rep.mono e3 i1
  have i3 := Rep.mono e3 i3
  dsimp only [tSeq, tPar, tCons, tNil]
  refine call_b (args := (menu, ())) S3 rfl (ea1 (et_var rfl i3)) ⟨(fun z => by have z : menu = [] := z; rw [z] at hml; cases hml), by show menu.length ≤ 100; omega⟩ fun v5 F4 H4 c4 ⟨fi, hfi, ifi⟩ => ?_
  have hfi0 := hmp fi hfi
  have S4 := S3.call c4
  have i1 := Rep.mono c4.ff i1
  have i3 := Rep.mono c4.ff i3
  have im := Rep.mono c4.ff im
  refine mk_lst (α := Int × Int) (xs := []) eas_nil (by simp) S4.fh fun l vs F5 H5 g5 hn5 h04 hl5 ha5 => ?_
  have S5 := S4.step g5
  have h0 : dropA H bq l = none := ex_none S4.g.hh h04
  have hlb : l ≠ bq := fun z => by
    obtain ⟨o, ho⟩ := S4.bag.at_
    rw [← z, h04] at ho
    cases ho
  have i1 := Rep.mono g5.ff i1
  have i3 := Rep.mono g5.ff i3
  have im := Rep.mono g5.ff im
  have ifi := Rep.mono g5.ff ifi
  refine ⟨v5, .ref l, rfl, ?_⟩
  refine for_rng_b ?_
  refine call_b (args := (((m + 1 : Nat) : Int), ())) S5 rfl (ea1 (et_addN (et_var rfl i1) (et_nat (i := 1) (n := 1))).int) (okM (by omega) (by omega)) fun vn F6 H6 c6 ⟨n, hn6, hnm⟩ => ?_
  have hnm : (n : Int) < ((m + 1 : Nat) : Int) := hnm
  have S6 := S5.call c6
  obtain ⟨hn6l, hl6⟩ := c6.keep hn5 hl5 hlb
  have i3 := Rep.mono c6.ff i3
  have im := Rep.mono c6.ff im
  have ifi := Rep.mono c6.ff ifi
  refine st_loop (xs := List.range n) (fun i Fi σ' H' => BS bq F0 H Fi H' ∧ Fi l = none ∧ ∃ vs cs mo v2 t4 t7, H' l = some (.lst vs) ∧ All2 (Rep.is Fi) vs (cs : List (Int × Int)) ∧ cs.length = i ∧ (∀ c ∈ cs, 0 ≤ c.2 ∧ c.1 < mo) ∧ (∀ (j : Nat) c d, cs[j]? = some c → cs[j + 1]? = some d → c.1 < d.1) ∧ Is Fi v2 (mo : Int) ∧
      σ' = [some (.ref bq), some v1, some v2, some v3, t4, some v5, some (.ref l), t7])
    (ei_rngN (ea1 (et_c hn6)) (by omega)) S6.fh (fun F7 H7 g7 => ⟨S6.step g7, g7.off hn6l hl6, vs, [], mo, v2, none, none, g7.hh _ _ hl6, (ha5.mono fun _ _ z => Rep.mono (c6.ff.trans g7.ff) z), rfl, fun c h => absurd h List.not_mem_nil, fun j c d h => by simp at h, Rep.mono g7.ff im, rfl⟩) ?_ ?_
  · rintro N i x Fi σ' H' v F7 H7 hx e7 ⟨Si, hni, vs, cs, mo, v2, t4, t7, hli, hai, hcl, hcp, hcu, im, rfl⟩ g7 iv k
    have S7 := Si.step g7
    have hn7 := g7.off hni hli
    have hl7 := g7.hh _ _ hli
    have hi := (List.getElem?_eq_some_iff.mp hx).1
    rw [List.length_range] at hi
    have i3 := Rep.mono (e7.trans g7.ff) i3
    have im := Rep.mono g7.ff im
    dsimp only [gName, tSeq, tAsg]
    have fin : ∀ (vp : V) (p : Int) (F8 H8 : Hp), BS bq F7 H7 F8 H8 → Is F8 vp p → 0 ≤ p → ∀ D : Ends, D.nx = N → (tSeq (tDrop (tBM K "list" rAppend (tVar 6) (tCons (tTup (tCons (tVar 2) (tCons (tVar 7) tNil))) tNil))) (tAsg (tOp (rI0 fun i j => .int (i + j)) (tVar 2) (tCall (spB (A := Unit) (fun _ => True) fun _ F2 v => ∃ g : Int, Is F2 v g ∧ 1 ≤ g ∧ g < 1000000000000000000000000000000) [] E0 (tCons (tVar 0) tNil))) (gName 2))) D [some (.ref bq), some v1, some v2, some v3, some v, some v5, some (.ref l), some vp] H8 := by
      intro vp p F8 H8 c8 ip hp0 D hD
      have S8 := S7.call c8
      obtain ⟨hn8, hl8⟩ := c8.keep hn7 hl7 hlb
      have im := Rep.mono c8.ff im
      have hvl := hai.len
      dsimp only [tSeq]
      refine st_app (x := (mo, p)) (raw_var rfl) (et_pair (et_var rfl im) (et_var rfl ip)) S8.fh hl8 (by omega) fun y F9 H9 g9 iy => ?_
      have S9 := (S8.step g9).mut (o := .lst (vs ++ [y])) (g9.off hn8 hl8) h0 hlb
      have im := Rep.mono g9.ff im
      dsimp only [tAsg, tOp]
      refine et_var (α := Int) (i := 2) rfl im _ S9.fh _ fun u F10 H10 g10 iu => ?_
      have S10 := S9.step g10
      refine call_b (args := ()) S10 rfl ea_nil trivial fun u2 F11 H11 c11 ⟨g, ig, hg1, hg2⟩ => ?_
      have S11 := S10.call c11
      have hn9 : F9 l = none := g9.off hn8 hl8
      have hn10 := g10.off hn9 upd_same
      have hl10 := g10.hh _ _ (upd_same (H := H9) (a := l))
      obtain ⟨hn11, hl11⟩ := c11.keep hn10 hl10 hlb
      refine ⟨mo, g, Rep.mono c11.ff iu, ig, ?_⟩
      dsimp only [gName]
      rw [hD]
      have e11 : Ex F9 F11 := g10.ff.trans c11.ff
      refine k F11 _ _ (g7.ff.trans (c8.ff.trans (g9.ff.trans e11))) S11.fh ⟨S11, hn11, _, cs ++ [(mo, p)], mo + g, _, _, _, hl11, (hai.mono fun _ _ z => Rep.mono (g7.ff.trans (c8.ff.trans (g9.ff.trans e11))) z).snoc (Rep.mono e11 iy), by rw [List.length_append, hcl]; rfl, fun c hc => ?_, fun j c d h1 h2 => ?_, rfl, rfl⟩
      · rcases List.mem_append.mp hc with z | z
        · have := hcp c z
          omega
        · rw [List.mem_singleton.mp z]
          show 0 ≤ p ∧ mo < mo + g
          omega
      · by_cases hj : j + 1 < cs.length
        · rw [List.getElem?_append_left (by omega)] at h1
          rw [List.getElem?_append_left hj] at h2
          exact hcu j c d h1 h2
        · have hj2 := (List.getElem?_eq_some_iff.mp h2).1
          rw [List.length_append, List.length_singleton] at hj2
          rw [List.getElem?_append_left (by omega)] at h1
          rw [List.getElem?_append_right (by omega), show j + 1 - cs.length = 0 by omega] at h2
          cases h2
          exact (hcp c (List.mem_of_getElem? h1)).2
    refine ev_ifT (b := bq) (fun Q q => call_b (args := ((3 : Int), ())) (BS.start S7.fh S7.off S7.bag) rfl (ea1 et_int) (okM (by decide) (by decide)) fun v F8 H8 c8 ⟨k, ik, _⟩ => q v F8 H8 k c8 ik) (fun F8 H8 c8 => ?_) fun F8 H8 c8 => ?_
    · refine call_b (args := ()) (BS.start c8.fh c8.off c8.bag) rfl ea_nil trivial fun vp F9 H9 c9 ⟨p, ip, hp0⟩ => ?_
      exact fin vp p F9 H9 (c8.call c9) ip hp0 _ rfl
    · refine call_b (args := (menu, ())) (BS.start c8.fh c8.off c8.bag) rfl (ea1 (et_var rfl (Rep.mono c8.ff i3))) ⟨(fun z => by have z : menu = [] := z; rw [z] at hml; cases hml), by show menu.length ≤ 100; omega⟩ fun vp F9 H9 c9 ⟨p, hp0, ip⟩ => ?_
      exact fin vp p F9 H9 (c8.call c9) ip (hmp p hp0) _ rfl
  rintro F7 σ' H7 e7 e7' ⟨S7, hn7, vs, cs, mo, v2, t4, t7, hl7, ha7, hcl, hcp, hcu, im, rfl⟩
  rw [List.length_range] at hcl
  have S8 := S7.frz hn7 h0 hl7 hlb
  have e8 : Ex F7 (upd F7 l (.lst vs)) := ex_upd hn7
  have ich : Is (upd F7 l (.lst vs)) (.ref l) cs := ⟨l, vs, rfl, upd_same, ha7.mono fun _ _ z => Rep.mono e8 z⟩
  dsimp only
  exact st_ret (et_pair (x := fi) (y := cs) (et_var rfl (Rep.mono (e7.trans e8) ifi)) (et_var rfl ich)) S8.fh fun v F9 H9 g9 iv => q v F9 H9 (S8.step g9) ⟨(fi, cs), iv, hfi0, ⟨by show cs.length ≤ 1000; omega, fun c hc => (hcp c hc).1, hcu⟩, by show cs.length ≤ 7; omega⟩
theorem st_ifx {σ : St} {F H : Hp} {bb : Bool} {tt : TT} {ta tb : TE} {Q : VK} (h : EB tt σ F bb) (hF : Ex F H) (k1 : bb = true → ∀ F2 H2, Grow F H F2 H2 → ta σ H2 Q) (k2 : bb = false → ∀ F2 H2, Grow F H F2 H2 → tb σ H2 Q) : tIf tt ta tb σ H Q := h H hF _ fun F1 H1 g1 => by
  cases bb with
  | true => exact k1 rfl F1 H1 g1
  | false => exact k2 rfl F1 H1 g1

end
end LT
/-! ## W14 -/
set_option Elab.async false
set_option linter.all false
set_option maxRecDepth 100000
set_option maxHeartbeats 4000000
namespace LT
open PySem PySem.Spec PyProof.Rows L2
section
variable {P : Program} {w : World} {K : PySem.W.Frag} {mg : Str → Option Value} {base : Heap}
/-! ### boards, plans, courses -/
structure OkBd (bd : Pr) : Prop where
  lo : 0 ≤ bd.1
  le : bd.1 ≤ bd.2
  wid : bd.2 - bd.1 < 1000000000000000000000000000000
abbrev N_law_board : List Str := ["_law_bag_here", "_law_way", "_law_least"]
theorem sc_law_board : FnScope N_law_board ["_law_bag_here"] (defScope s_law_board) := ⟨rfl, rfl, rfl, by decide +kernel, rfl, by decide +kernel, by decide +kernel⟩
theorem ok_law_board (T : Top K mg) : Cal P w K mg base 3 "_law_board" (spB (A := Unit) (fun _ => True) fun _ F2 v => ∃ bd : Pr, Is F2 v bd ∧ OkBd bd) := by
  obtain ⟨fd, Fd, b⟩ := T.f_law_board
  refine cal_ofB Fd T.g_law_board b sc_law_board rfl fun cdv Ar outer s H vs Q E hr F0 bq args S0 ha hp q => ?_
  have hu := hu_of hr
  refine ⟨_, (pss_cons (ps_set (i := 1) sc_law_board.nd rfl (by first | exact Or.inl rfl | exact Or.inr rfl) (pe_cal (ok_law_take T) hr (by decide) rfl (pa_cons (pv 0) (pa_cons pe_int pa_nil))))
    (pss_cons (ps_if (pt_cmpR op_eq (pv 1) pe_int (nomark _)) (pss_one (ps_ret (pe_tup (pa_cons pe_int (pa_cons pe_int pa_nil))))) pss_nil)
    (pss_cons (ps_set (i := 2) sc_law_board.nd rfl (by first | exact Or.inl rfl | exact Or.inr rfl) (pe_cal (ok_law_take T) hr (by decide) rfl (pa_cons (pv 0) (pa_cons pe_int pa_nil))))
    (pss_cons (ps_if (pt_cmpR op_lt (pv 1) pe_int (nomark _)) (pss_one (ps_ret (pe_tup (pa_cons (pv 2) (pa_cons (pe_op op_add (pv 2) (pe_cal (ok_law_take T) hr (by decide) rfl (pa_cons (pv 0) (pa_cons (pe_ix ix_seq (pe_lst (pa_cons pe_int (pa_cons pe_int (pa_cons pe_int pa_nil)))) (pe_op op_sub (pv 1) pe_int) (fun _ _ => rfl)) pa_nil)))) pa_nil))))) pss_nil)
    (pss_cons (ps_set (i := 2) sc_law_board.nd rfl (by first | exact Or.inl rfl | exact Or.inr rfl) (pe_cal (ok_law_oneI T) hr (by decide) rfl (pa_cons (pv 0) (pa_cons (pe_lst (pa_cons (pv 2) (pa_cons (pv 2) (pa_cons (pe_cal (ok_law_gap_of T) hr (by decide) rfl (pa_cons (pv 0) pa_nil)) pa_nil)))) pa_nil))))
    (pss_one (ps_ret (pe_tup (pa_cons (pv 2) (pa_cons (pe_op op_add (pv 2) (pe_cal (ok_law_gap_of T) hr (by decide) rfl (pa_cons (pv 0) pa_nil))) pa_nil)))))))))), ?_⟩
  cases ha
  have q : ∀ v F2 H2, BS bq F0 H F2 H2 → (∃ bd : Pr, Is F2 v bd ∧ OkBd bd) → Q v H2 := q
  dsimp only [tSeq, tAsg]
  refine call_b (args := ((5 : Int), ())) S0 rfl (ea1 et_int) (okM (by decide) (by decide)) fun v1 F1 H1 S1 ⟨k, ik, hk⟩ => ?_
  have hk : (k : Int) < 5 := hk
  dsimp only [gName]
  refine st_if (b := decide ((k : Int) = 0)) (eb_test (et_eqI (i := (k : Int)) (et_var rfl ik) et_int)) S1.fh (fun h F2 H2 g2 => ?_) fun h F2 H2 g2 => ?_
  · refine st_ret (et_pair (x := (0 : Int)) (y := (0 : Int)) et_int et_int) g2.fh fun v F3 H3 g3 iv => q v F3 H3 ((S1.step g2).step g3) ⟨(0, 0), iv, by decide, by decide, by decide⟩
  have S2 := S1.step g2
  have ik := Rep.mono g2.ff ik
  dsimp only [tNext, tSeq, tAsg]
  refine call_b (args := ((4 : Int), ())) S2 rfl (ea1 et_int) (okM (by decide) (by decide)) fun v2 F3 H3 c3 ⟨le, il, hl⟩ => ?_
  have hl : (le : Int) < 4 := hl
  have S3 := S2.call c3
  have ik := Rep.mono c3.ff ik
  dsimp only [gName]
  refine st_if (b := decide ((k : Int) < 4)) (eb_test (et_lt (i := (k : Int)) (et_var rfl ik) et_int)) S3.fh (fun h4 F4 H4 g4 => ?_) fun h4 F4 H4 g4 => ?_
  · have S4 := S3.step g4
    have ik := Rep.mono g4.ff ik
    have il := Rep.mono g4.ff il
    have h1 : ¬ (k : Int) = 0 := of_decide_eq_false h
    have h4 := of_decide_eq_true h4
    have hk3 : k - 1 < 3 := by omega
    have hx : ([1, 3, 12] : List Int)[k - 1]? = some (([1, 3, 12] : List Int)[k - 1]'hk3) := List.getElem?_eq_getElem _
    have hm : ∀ x ∈ ([1, 3, 12] : List Int), 0 < x ∧ x < 100 := by decide
    obtain ⟨hx1, hx2⟩ := hm _ (List.getElem_mem hk3)
    generalize ([1, 3, 12] : List Int)[k - 1]'hk3 = x at hx hx1 hx2
    dsimp only [tRet, tTup, tCons, tNil, tOp]
    refine et_var (α := Nat) (i := 2) rfl il H4 S4.fh _ fun w1 F5 H5 g5 j1 => ?_
    have S5 := S4.step g5
    refine et_var (α := Nat) (i := 2) rfl (Rep.mono g5.ff il) H5 S5.fh _ fun w2 F6 H6 g6 j2 => ?_
    have S6 := S5.step g6
    refine call_b (args := (x, ())) S6 rfl (ea1 (et_ixL (xs := [1, 3, 12]) (i := k - 1) (et_lst (eas_cons et_int (eas_cons et_int (eas_cons et_int eas_nil))) (by decide)) ((et_sub (i := (k : Int)) (j := 1) (et_var rfl (Rep.mono (g5.ff.trans g6.ff) ik)) et_int).nat (by omega)) hx)) (okM hx1 (by omega)) fun v5 F7 H7 c7 ⟨k5, i5, hk5⟩ => ?_
    have hk5 : (k5 : Int) < x := hk5
    have S7 := S6.call c7
    refine ⟨le, k5, Rep.mono c7.ff j2, i5, (by decide : 2 ≤ sizeLine), fun p hp => ?_⟩
    exact q _ _ _ (S7.step (.new (o := .tup [w1, .int ((le : Int) + k5)]) S7.fh hp)) ⟨((le : Int), (le : Int) + k5), ⟨p, _, _, rfl, upd_same, Rep.mono (g6.ff.trans (c7.ff.trans (ex_upd (ex_none S7.fh hp)))) j1, rfl⟩, by show (0 : Int) ≤ le; omega, by show (le : Int) ≤ le + k5; omega, by show (le : Int) + k5 - le < _; omega⟩
  · have S4 := S3.step g4
    have il := Rep.mono g4.ff il
    dsimp only [tNext, tSeq, tAsg, tCall, tCons, tNil, tLst]
    refine ⟨_, rfl, ?_⟩
    refine et_var (α := Nat) (i := 2) rfl il H4 S4.fh _ fun w1 F5 H5 g5 j1 => ?_
    have S5 := S4.step g5
    refine et_var (α := Nat) (i := 2) rfl (Rep.mono g5.ff il) H5 S5.fh _ fun w2 F6 H6 g6 j2 => ?_
    have S6 := S5.step g6
    have gp := call_b (i := 0) (t := tNil) (σ := [some (.ref bq), some v1, some v2]) (E := E0) (args := ()) (pre := fun _ => True) (post := fun _ F2 v => ∃ g : Int, Is F2 v g ∧ 1 ≤ g ∧ g < 1000000000000000000000000000000) (Q := fun v H7 => [w1, w2, v].length ≤ sizeLine ∧ ∀ p, H7 p = none → spB (A := List Int × Unit) (fun (xs, _) => xs ≠ [] ∧ xs.length ≤ 100) (fun (xs, _) F2 v => ∃ x, x ∈ xs ∧ Is F2 v x) [.ref bq, .ref p] (upd H7 p (.lst [w1, w2, v])) (fun x H1 => gName 2 x [some (.ref bq), some v1, some v2] H1 (tRet (tTup (tCons (tVar 2) (tCons (tOp (rI0 fun i j => .int (i + j)) (tVar 2) (tCall (spB (A := Unit) (fun _ => True) fun _ F2 v => ∃ g : Int, Is F2 v g ∧ 1 ≤ g ∧ g < 1000000000000000000000000000000) [] E0 (tCons (tVar 0) tNil))) tNil))) { nx := fun _ H' => Q .non H', rt := Q })) E0) S6 rfl ea_nil trivial
    refine gp fun w3 F7 H7 c7 ⟨g, ig, hg1, hg2⟩ => ?_
    have S7 := S6.call c7
    refine ⟨(by decide : 3 ≤ sizeLine), fun p hp => ?_⟩
    have gn : Grow F7 H7 _ _ := .new (o := .lst [w1, w2, w3]) S7.fh hp
    have S8 := S7.step gn
    have e8 := gn.ff
    have il8 : Is (upd F7 p (.lst [w1, w2, w3])) (.ref p) ([(le : Int), (le : Int), g] : List Int) := ⟨p, _, rfl, upd_same, .cons (Rep.mono (g6.ff.trans (c7.ff.trans e8)) j1) (.cons (Rep.mono (c7.ff.trans e8) j2) (.cons (Rep.mono e8 ig) .nil))⟩
    refine ⟨upd F7 p (.lst [w1, w2, w3]), bq, ([(le : Int), (le : Int), g], ()), [.ref p], rfl, BS.start S8.fh S8.off S8.bag, ⟨_, _, rfl, il8, rfl⟩, ⟨by simp, by show 3 ≤ 100; decide⟩, fun v F9 H9 c9 ⟨y, hy, iy⟩ => ?_⟩
    have S9 := S8.call c9
    have hy : y = (le : Int) ∨ y = g := by
      have hy : y ∈ [(le : Int), (le : Int), g] := hy
      simp at hy
      exact hy
    have hy0 : 0 ≤ y := by omega
    dsimp only [gName, tRet, tTup, tCons, tNil, tOp]
    refine et_var (α := Int) (i := 2) rfl iy H9 S9.fh _ fun u1 F10 H10 g10 k1 => ?_
    have S10 := S9.step g10
    refine et_var (α := Int) (i := 2) rfl (Rep.mono g10.ff iy) H10 S10.fh _ fun u2 F11 H11 g11 k2 => ?_
    have S11 := S10.step g11
    refine call_b (args := ()) S11 rfl ea_nil trivial fun u3 F12 H12 c12 ⟨g', ig', hg1', hg2'⟩ => ?_
    have S12 := S11.call c12
    refine ⟨y, g', Rep.mono c12.ff k2, ig', (by decide : 2 ≤ sizeLine), fun p2 hp2 => ?_⟩
    exact q _ _ _ (S12.step (.new (o := .tup [u1, .int (y + g')]) S12.fh hp2)) ⟨(y, y + g'), ⟨p2, _, _, rfl, upd_same, Rep.mono (g11.ff.trans (c12.ff.trans (ex_upd (ex_none S12.fh hp2)))) k1, rfl⟩, hy0, by show y ≤ y + g'; omega, by show y + g' - y < _; omega⟩
theorem mx_last {m x : Int} {fs : List Int} : mx m (lastL fs) = x → m ≤ x ∧ (∀ (i : Nat) y, fs.length = i + 1 → fs[i]? = some y → y ≤ x) := by
  rintro rfl
  refine ⟨le_mx0, fun i y hl hy => ?_⟩
  rw [lastL_get hy hl]
  exact le_mx (List.mem_singleton.mpr rfl)
theorem mx_last_le {m z : Int} {fs : List Int} (h : m ≤ z) (h2 : ∀ (i : Nat) y, fs.length = i + 1 → fs[i]? = some y → y ≤ z) : mx m (lastL fs) ≤ z := by
  refine mx_le h fun w hw => ?_
  cases e : fs.length with
  | zero =>
    have : fs = [] := List.eq_nil_of_length_eq_zero e
    rw [this] at hw
    exact absurd hw List.not_mem_nil
  | succ i =>
    have hi : fs[i]? = some (fs[i]'(by omega)) := List.getElem?_eq_getElem _
    rw [lastL_get hi e, List.mem_singleton] at hw
    rw [hw]
    exact h2 i _ e hi
theorem snoc_at {α : Type} {xs : List α} {x y : α} {i : Nat} (h : (xs ++ [x])[i]? = some y) : xs[i]? = some y ∨ (i = xs.length ∧ y = x) := by
  by_cases hi : i < xs.length
  · rw [List.getElem?_append_left hi] at h
    exact .inl h
  · have hj := (List.getElem?_eq_some_iff.mp h).1
    rw [List.length_append, List.length_singleton] at hj
    rw [List.getElem?_append_right (by omega), show i - xs.length = 0 by omega] at h
    cases h
    exact .inr ⟨by omega, rfl⟩
abbrev N_law_sent : List Str := ["_law_bag_here", "_law_changes", "_law_found", "_law_way", "_law_moment", "_law_price_here", "_law_late"]
theorem sc_law_sent : FnScope N_law_sent ["_law_bag_here", "_law_changes"] (defScope s_law_sent) := ⟨rfl, rfl, rfl, by decide +kernel, rfl, by decide +kernel, by decide +kernel⟩
theorem ok_law_sent (T : Top K mg) : Cal P w K mg base 2 "_law_sent" (spB (A := List (Int × Int) × Unit) (fun (cs, _) => cs.length ≤ 7) fun (cs, _) F2 v => ∃ s : List Int, Is F2 v s ∧ OkSent (cs.map (·.1)) s) := by
  obtain ⟨fd, Fd, b⟩ := T.f_law_sent
  refine cal_ofB Fd T.g_law_sent b sc_law_sent rfl fun cdv Ar outer s H vs Q E hr F0 bq args S0 ha hp q => ?_
  have hu := hu_of hr
  refine ⟨_, (pss_cons (ps_par (i := 2) (j := 3) (by rfl) sc_law_sent.nd rfl rfl (by decide) rfl rfl (pa_cons (pe_lst pa_nil) (pa_cons (pe_cal (ok_law_take T) hr (by decide) rfl (pa_cons (pv 0) (pa_cons pe_int pa_nil))) pa_nil)) (by rfl))
    (pss_cons (ps_for PassesOwn.never rfl (pi_list (pv 1)) (pg_tup rfl (pgs_cons (pg_name (i := 4) sc_law_sent.nd rfl (by first | exact Or.inl rfl | exact Or.inr rfl)) (pgs_cons (pg_name (i := 5) sc_law_sent.nd rfl (by first | exact Or.inl rfl | exact Or.inr rfl)) pgs_nil))) (pss_cons (ps_set (i := 6) sc_law_sent.nd rfl (by first | exact Or.inl rfl | exact Or.inr rfl) (pe_ifExp (pt_cmpR op_eq (pv 3) pe_int (nomark _)) pe_int (pe_op op_mul (pe_cal (ok_law_take T) hr (by decide) rfl (pa_cons (pv 0) (pa_cons pe_int pa_nil))) (pe_cal (ok_law_take T) hr (by decide) rfl (pa_cons (pv 0) (pa_cons pe_int pa_nil))))))
    (pss_one (ps_expr (pe_bm PySem.F.plainAttrs_list PySem.F.slot_list_append PySem.F.type_list_append mt_append (pv 2) (pa_cons (pe_callB (cr_max rfl) (by rfl) T.m_max (by decide +kernel) (pa_cons (pe_op op_cat (pe_lst (pa_cons (pe_op op_add (pv 4) (pv 6)) pa_nil)) (pe_slice sl_list (pv 2) (po_some (pe_un un_neg pe_int)) po_none)) pa_nil)) pa_nil))))))
    (pss_one (ps_ret (pv 2))))), ?_⟩
  obtain ⟨v1, ws1, rfl, i1, rfl⟩ := ha
  obtain ⟨cs, u_⟩ := args
  have i1 : Is F0 v1 cs := i1
  have hcl : cs.length ≤ 7 := hp
  have q : ∀ v F2 H2, BS bq F0 H F2 H2 → (∃ s : List Int, Is F2 v s ∧ OkSent (cs.map (·.1)) s) → Q v H2 := q
  dsimp only [tSeq, tPar, tCons, tNil]
  refine mk_lst (α := Int) (xs := []) eas_nil (by simp) S0.fh fun l vs F1 H1 g1 hn1 h00 hl1 ha1 => ?_
  have S1 := S0.step g1
  have h0 : dropA H bq l = none := dropA_none h00
  have hlb : l ≠ bq := fun z => by
    obtain ⟨o, ho⟩ := S0.bag.at_
    rw [← z, h00] at ho
    cases ho
  have i1 := Rep.mono g1.ff i1
  refine call_b (args := ((3 : Int), ())) S1 rfl (ea1 et_int) (okM (by decide) (by decide)) fun v3 F2 H2 c2 ⟨k, ik, hk⟩ => ?_
  have S2 := S1.call c2
  obtain ⟨hn2, hl2⟩ := c2.keep hn1 hl1 hlb
  have i1 := Rep.mono c2.ff i1
  refine ⟨.ref l, v3, rfl, ?_⟩
  refine st_loop (xs := cs) (fun i Fi σ' H' => BS bq F0 H Fi H' ∧ Fi l = none ∧ ∃ vs fs t4 t5 t6, H' l = some (.lst vs) ∧ All2 (Rep.is Fi) vs (fs : List Int) ∧ fs.length = i ∧ (∀ (j : Nat) c y, cs[j]? = some c → fs[j]? = some y → c.1 ≤ y) ∧ (∀ (j : Nat) y z, fs[j]? = some y → fs[j + 1]? = some z → y ≤ z) ∧
      σ' = [some (.ref bq), some v1, some (.ref l), some v3, t4, t5, t6])
    (ei_list (et_var rfl i1)) S2.fh (fun F3 H3 g3 => ⟨S2.step g3, g3.off hn2 hl2, vs, [], none, none, none, g3.hh _ _ hl2, ha1.mono fun _ _ z => Rep.mono (c2.ff.trans g3.ff) z, rfl, fun j c y h h2 => by simp at h2, fun j y z h => by simp at h, rfl⟩) ?_ ?_
  · rintro N i x Fi σ' H' v F3 H3 hx e3 ⟨Si, hni, vs, fs, t4, t5, t6, hli, hai, hfl, hown, hup, rfl⟩ g3 iv kk
    have S3 := Si.step g3
    have hn3 := g3.off hni hli
    have hl3 := g3.hh _ _ hli
    have hvl := hai.len
    have hi := (List.getElem?_eq_some_iff.mp hx).1
    have ik := Rep.mono (e3.trans g3.ff) ik
    refine gt_pair g3.fh iv fun u1 u2 j1 j2 => ?_
    dsimp only [tSeq]
    have fin : ∀ (la : Int) (vl : V) (F4 H4 : Hp), BS bq F3 H3 F4 H4 → Is F4 vl la → 0 ≤ la → ∀ D : Ends, D.nx = N → (tDrop (tBM K "list" rAppend (tVar 2) (tCons (tCB (rMax K) (tCons (tOp rCat (tLst (tCons (tOp (rI0 fun i j => .int (i + j)) (tVar 4) (tVar 6)) tNil)) (tSl (rSlL K) (tVar 2) (tPart (tUn (rU fun i => .int (-i)) (tC (.int 1)))) tNoPart)) tNil)) tNil))) D [some (.ref bq), some v1, some (.ref l), some v3, some u1, some u2, some vl] H4 := by
      intro la vl F4 H4 c4 il hla D hD
      have S4 := S3.call c4
      obtain ⟨hn4, hl4⟩ := c4.keep hn3 hl3 hlb
      have ha4 := hai.mono fun _ _ z => Rep.mono (g3.ff.trans c4.ff) z
      have eu : Ex F4 (upd F4 l (.lst vs)) := ex_upd hn4
      have hll := lastL_len fs
      refine st_appB (l := l) (vs := vs) (x := mx (x.1 + la) (lastL fs)) (raw_var rfl) (et_max (ET.to (et_cat (et_lst (eas_cons (et_add (et_var rfl (Rep.mono (c4.ff.trans eu) j1)) (et_var rfl (Rep.mono eu il))) eas_nil) (by simp)) (et_slLast (et_var rfl (is_lent hn4 ha4))) (by simp; omega)) rfl)) S4.fh hn4 hl4 (by omega) fun y F5 H5 g5 hn5 hl5 iy => ?_
      rw [hD]
      have S5 := (S4.step g5).mut (o := .lst (vs ++ [y])) hn5 h0 hlb
      obtain ⟨m1, m2⟩ := mx_last (m := x.1 + la) (fs := fs) rfl
      refine kk F5 _ _ (g3.ff.trans (c4.ff.trans g5.ff)) S5.fh ⟨S5, hn5, _, fs ++ [_], _, _, _, upd_same, (ha4.mono fun _ _ z => Rep.mono g5.ff z).snoc iy, by rw [List.length_append, hfl]; rfl, fun j c y h1 h2 => ?_, fun j y z h1 h2 => ?_, rfl⟩
      · rcases snoc_at h2 with h2 | ⟨rfl, rfl⟩
        · exact hown j c y h1 h2
        · rw [hfl, hx] at h1
          cases h1
          omega
      · rcases snoc_at h2 with h2 | ⟨hj, rfl⟩
        · have hj := (List.getElem?_eq_some_iff.mp h2).1
          rw [List.getElem?_append_left (by omega)] at h1
          exact hup j y z h1 h2
        · rw [List.getElem?_append_left (by omega)] at h1
          exact m2 j y (by omega) h1
    refine st_ifx (bb := decide ((k : Int) = 0)) (eb_test (et_eqI (i := (k : Int)) (et_var rfl ik) et_int)) S3.fh (fun _ F4 H4 g4 => ?_) fun _ F4 H4 g4 => ?_
    · have S4 := (BS.start S3.fh S3.off S3.bag).step g4
      exact fin 0 _ F4 H4 S4 rfl (Int.le_refl _) _ rfl
    · have S4 := (BS.start S3.fh S3.off S3.bag).step g4
      dsimp only [tOp]
      refine call_b (args := ((4 : Int), ())) S4 rfl (ea1 et_int) (okM (by decide) (by decide)) fun w1 F5 H5 c5 ⟨k5, i5, hk5⟩ => ?_
      have S5 := S4.call c5
      refine call_b (args := ((3 : Int), ())) S5 rfl (ea1 et_int) (okM (by decide) (by decide)) fun w2 F6 H6 c6 ⟨k6, i6, hk6⟩ => ?_
      have hk5 : (k5 : Int) < 4 := hk5
      refine ⟨k5, k6, Rep.mono c6.ff i5, i6, Or.inl ⟨by omega, by omega⟩, ?_⟩
      exact fin ((k5 : Int) * k6) _ F6 H6 (S5.call c6) rfl (Int.mul_nonneg (by omega) (by omega)) _ rfl
  rintro F3 σ' H3 e3 e3' ⟨S3, hn3, vs, fs, t4, t5, t6, hl3, ha3, hfl, hown, hup, rfl⟩
  refine ⟨.ref l, rfl, q _ _ _ (S3.frz hn3 h0 hl3 hlb) ⟨fs, ⟨l, vs, rfl, upd_same, ha3.mono fun _ _ z => Rep.mono (ex_upd hn3) z⟩, ?_⟩⟩
  exact ⟨by rw [hfl, List.length_map], fun j m t h1 h2 => by
    rw [List.getElem?_map] at h1
    cases e : cs[j]? with
    | none => rw [e] at h1; cases h1
    | some c => rw [e] at h1; cases h1; exact hown j c t e h2, hup⟩
abbrev N_law_plan : List Str := ["_law_bag_here", "_law_book_here"]
theorem sc_law_plan : FnScope N_law_plan ["_law_bag_here", "_law_book_here"] (defScope s_law_plan) := ⟨rfl, rfl, rfl, by decide +kernel, rfl, by decide +kernel, by decide +kernel⟩
theorem ok_law_plan (T : Top K mg) : Cal P w K mg base 3 "_law_plan" (spB (A := Dr × Unit) (fun (d, _) => d.2.length ≤ 7) fun (d, _) F2 v => ∃ pl : Pln, Is F2 v pl ∧ OkSent (d.2.map (·.1)) pl.1 ∧ OkSent (d.2.map (·.1)) pl.2) := by
  obtain ⟨fd, Fd, b⟩ := T.f_law_plan
  refine cal_ofB Fd T.g_law_plan b sc_law_plan rfl fun cdv Ar outer s H vs Q E hr F0 bq args S0 ha hp q => ?_
  have hu := hu_of hr
  refine ⟨_, (pss_one (ps_ret (pe_tup (pa_cons (pe_cal (ok_law_sent T) hr (by decide) rfl (pa_cons (pv 0) (pa_cons (pe_ix ix_seq (pv 1) pe_int (fun _ _ => rfl)) pa_nil))) (pa_cons (pe_cal (ok_law_sent T) hr (by decide) rfl (pa_cons (pv 0) (pa_cons (pe_ix ix_seq (pv 1) pe_int (fun _ _ => rfl)) pa_nil))) pa_nil))))), ?_⟩
  obtain ⟨v1, ws1, rfl, i1, rfl⟩ := ha
  obtain ⟨d, u_⟩ := args
  have i1 : Is F0 v1 d := i1
  have hd : d.2.length ≤ 7 := hp
  dsimp only [tRet, tTup, tCons, tNil]
  refine call_b (t := fun σ H Q => tOp (rIx K) (tVar 1) (tC (.int 1)) σ H fun x H1 => Q [x] H1) (args := (d.2, ())) S0 rfl (ea1 (et_snd (et_var rfl i1))) hd fun w1 F1 H1 S1 ⟨s1, k1, o1⟩ => ?_
  have i1 := Rep.mono S1.ff i1
  refine call_b (t := fun σ H Q => tOp (rIx K) (tVar 1) (tC (.int 1)) σ H fun x H1 => Q [x] H1) (args := (d.2, ())) S1 rfl (ea1 (et_snd (et_var rfl i1))) hd fun w2 F2 H2 c2 ⟨s2, k2, o2⟩ => ?_
  have S2 := S1.call c2
  refine ⟨(by decide : 2 ≤ sizeLine), fun p hp => ?_⟩
  have e3 : Ex F2 (upd F2 p (.tup [w1, w2])) := ex_upd (ex_none S2.fh hp)
  exact q _ _ _ (S2.step (.new (o := .tup [w1, w2]) S2.fh hp)) ⟨(s1, s2), ⟨p, _, _, rfl, upd_same, Rep.mono (c2.ff.trans e3) k1, Rep.mono e3 k2⟩, o1, o2⟩
abbrev N_law_course : List Str := ["_law_bag_here", "_law_sent_here", "_law_board_here", "_law_found", "_law_way", "_law_moment", "_law_late"]
theorem sc_law_course : FnScope N_law_course ["_law_bag_here", "_law_sent_here", "_law_board_here"] (defScope s_law_course) := ⟨rfl, rfl, rfl, by decide +kernel, rfl, by decide +kernel, by decide +kernel⟩
theorem ok_law_course (T : Top K mg) : Cal P w K mg base 2 "_law_course" (spB (A := List Int × Pr × Unit) (fun (s, bd, _) => s.length ≤ 7 ∧ OkBd bd ∧ ∀ (i : Nat) t u, s[i]? = some t → s[i + 1]? = some u → t ≤ u) fun (s, bd, _) F2 v => ∃ c : List Int, Is F2 v c ∧ OkCourse s bd c) := by
  obtain ⟨fd, Fd, b⟩ := T.f_law_course
  refine cal_ofB Fd T.g_law_course b sc_law_course rfl fun cdv Ar outer s H vs Q E hr F0 bq args S0 ha hp q => ?_
  have hu := hu_of hr
  refine ⟨_, (pss_cons (ps_par (i := 3) (j := 4) (by rfl) sc_law_course.nd rfl rfl (by decide) rfl rfl (pa_cons (pe_lst pa_nil) (pa_cons (pe_cal (ok_law_take T) hr (by decide) rfl (pa_cons (pv 0) (pa_cons pe_int pa_nil))) pa_nil)) (by rfl))
    (pss_cons (ps_for PassesOwn.never rfl (pi_list (pv 1)) (pg_name (i := 5) sc_law_course.nd rfl (by first | exact Or.inl rfl | exact Or.inr rfl)) (pss_cons (ps_set (i := 6) sc_law_course.nd rfl (by first | exact Or.inl rfl | exact Or.inr rfl) (pe_ix ix_seq (pe_lst (pa_cons (pe_ix ix_seq (pv 2) pe_int (fun _ _ => rfl)) (pa_cons (pe_ix ix_seq (pv 2) pe_int (fun _ _ => rfl)) (pa_cons (pe_op op_add (pe_ix ix_seq (pv 2) pe_int (fun _ _ => rfl)) (pe_cal (ok_law_take T) hr (by decide) rfl (pa_cons (pv 0) (pa_cons (pe_op op_add (pe_op op_sub (pe_ix ix_seq (pv 2) pe_int (fun _ _ => rfl)) (pe_ix ix_seq (pv 2) pe_int (fun _ _ => rfl))) pe_int) pa_nil)))) (pa_cons (pe_ix ix_seq (pv 2) pe_int (fun _ _ => rfl)) pa_nil))))) (pv 4) (fun _ _ => rfl)))
    (pss_one (ps_expr (pe_bm PySem.F.plainAttrs_list PySem.F.slot_list_append PySem.F.type_list_append mt_append (pv 3) (pa_cons (pe_callB (cr_max rfl) (by rfl) T.m_max (by decide +kernel) (pa_cons (pe_op op_cat (pe_lst (pa_cons (pe_op op_add (pv 5) (pv 6)) pa_nil)) (pe_slice sl_list (pv 3) (po_some (pe_un un_neg pe_int)) po_none)) pa_nil)) pa_nil))))))
    (pss_one (ps_ret (pv 3))))), ?_⟩
  obtain ⟨v1, ws1, rfl, i1, v2, ws2, rfl, i2, rfl⟩ := ha
  obtain ⟨s, bd, u_⟩ := args
  have i1 : Is F0 v1 s := i1
  have i2 : Is F0 v2 bd := i2
  obtain ⟨hsl, hbd, hsu⟩ : s.length ≤ 7 ∧ OkBd bd ∧ ∀ (i : Nat) t u, s[i]? = some t → s[i + 1]? = some u → t ≤ u := hp
  have q : ∀ v F2 H2, BS bq F0 H F2 H2 → (∃ c : List Int, Is F2 v c ∧ OkCourse s bd c) → Q v H2 := q
  have b1 := hbd.lo
  have b2 := hbd.le
  have b3 := hbd.wid
  dsimp only [tSeq, tPar, tCons, tNil]
  refine mk_lst (α := Int) (xs := []) eas_nil (by simp) S0.fh fun l vs F1 H1 g1 hn1 h00 hl1 ha1 => ?_
  have S1 := S0.step g1
  have h0 : dropA H bq l = none := dropA_none h00
  have hlb : l ≠ bq := fun z => by
    obtain ⟨o, ho⟩ := S0.bag.at_
    rw [← z, h00] at ho
    cases ho
  have i1 := Rep.mono g1.ff i1
  have i2 := Rep.mono g1.ff i2
  refine call_b (args := ((4 : Int), ())) S1 rfl (ea1 et_int) (okM (by decide) (by decide)) fun v4 F2 H2 c2 ⟨k, ik, hk⟩ => ?_
  have hk : (k : Int) < 4 := hk
  have S2 := S1.call c2
  obtain ⟨hn2, hl2⟩ := c2.keep hn1 hl1 hlb
  have i1 := Rep.mono c2.ff i1
  have i2 := Rep.mono c2.ff i2
  refine ⟨.ref l, v4, rfl, ?_⟩
  refine st_loop (xs := s) (fun i Fi σ' H' => BS bq F0 H Fi H' ∧ Fi l = none ∧ ∃ vs fs t5 t6, H' l = some (.lst vs) ∧ All2 (Rep.is Fi) vs (fs : List Int) ∧ fs.length = i ∧ (∀ (j : Nat) m y, s[j]? = some m → fs[j]? = some y → m + bd.1 ≤ y ∧ y ≤ m + bd.2) ∧ (∀ (j : Nat) y z, fs[j]? = some y → fs[j + 1]? = some z → y ≤ z) ∧
      σ' = [some (.ref bq), some v1, some v2, some (.ref l), some v4, t5, t6])
    (ei_list (et_var rfl i1)) S2.fh (fun F3 H3 g3 => ⟨S2.step g3, g3.off hn2 hl2, vs, [], none, none, g3.hh _ _ hl2, ha1.mono fun _ _ z => Rep.mono (c2.ff.trans g3.ff) z, rfl, fun j c y h h2 => by simp at h2, fun j y z h => by simp at h, rfl⟩) ?_ ?_
  · rintro N i x Fi σ' H' v F3 H3 hx e3 ⟨Si, hni, vs, fs, t5, t6, hli, hai, hfl, hown, hup, rfl⟩ g3 iv kk
    have S3 := Si.step g3
    have hn3 := g3.off hni hli
    have hl3 := g3.hh _ _ hli
    have hvl := hai.len
    have hi := (List.getElem?_eq_some_iff.mp hx).1
    have ik := Rep.mono (e3.trans g3.ff) ik
    have i2 := Rep.mono (e3.trans g3.ff) i2
    dsimp only [gName, tSeq, tAsg, tOp, tLst, tCons, tNil]
    refine et_fst (K := K) (ta := tVar 2) (x := bd) (et_var rfl i2) H3 S3.fh _ fun w1 F4 H4 g4 k1 => ?_
    have S4 := S3.step g4
    have i2 := Rep.mono g4.ff i2
    refine et_snd (K := K) (ta := tVar 2) (x := bd) (et_var rfl i2) H4 S4.fh _ fun w2 F5 H5 g5 k2 => ?_
    have S5 := S4.step g5
    have i2 := Rep.mono g5.ff i2
    refine et_fst (K := K) (ta := tVar 2) (x := bd) (et_var rfl i2) H5 S5.fh _ fun w3 F6 H6 g6 k3 => ?_
    have S6 := S5.step g6
    have i2 := Rep.mono g6.ff i2
    refine call_b (σ := [some (.ref bq), some v1, some v2, some (.ref l), some v4, some v, t6]) (t := tCons (tOp (rI0 fun i j => .int (i + j)) (tOp (rI0 fun i j => .int (i - j)) (tOp (rIx K) (tVar 2) (tC (.int 1))) (tOp (rIx K) (tVar 2) (tC (.int 0)))) (tC (.int 1))) tNil) (args := (bd.2 - bd.1 + 1, ())) S6 rfl (ea1 (et_add (et_sub (et_snd (et_var rfl i2)) (et_fst (et_var rfl i2))) et_int)) (okM (by omega) (by omega)) fun w4 F7 H7 c7 ⟨k7, k4, hk7⟩ => ?_
    have hk7 : (k7 : Int) < bd.2 - bd.1 + 1 := hk7
    have S7 := S6.call c7
    have i2 := Rep.mono c7.ff i2
    refine ⟨bd.1, k7, Rep.mono c7.ff k3, k4, ?_⟩
    refine et_fst (K := K) (ta := tVar 2) (x := bd) (et_var rfl i2) H7 S7.fh _ fun w5 F8 H8 g8 k5 => ?_
    have S8 := S7.step g8
    refine ⟨(by decide : 4 ≤ sizeLine), fun p hp => ?_⟩
    have gn : Grow F8 H8 _ _ := .new (o := .lst [w1, w2, .int (bd.1 + k7), w5]) S8.fh hp
    have S9 := S8.step gn
    have e48 : Ex F4 F8 := g5.ff.trans (g6.ff.trans (c7.ff.trans g8.ff))
    have il : Is (upd F8 p (.lst [w1, w2, .int (bd.1 + k7), w5])) (.ref p) ([bd.1, bd.2, bd.1 + k7, bd.1] : List Int) := ⟨p, _, rfl, upd_same, .cons (Rep.mono (e48.trans gn.ff) k1) (.cons (Rep.mono (g6.ff.trans (c7.ff.trans (g8.ff.trans gn.ff))) k2) (.cons rfl (.cons (Rep.mono gn.ff k5) .nil)))⟩
    have hk4 : k < 4 := by omega
    have hx4 : ([bd.1, bd.2, bd.1 + k7, bd.1] : List Int)[k]? = some (([bd.1, bd.2, bd.1 + k7, bd.1] : List Int)[k]'hk4) := List.getElem?_eq_getElem _
    have hm4 : ∀ y ∈ ([bd.1, bd.2, bd.1 + k7, bd.1] : List Int), bd.1 ≤ y ∧ y ≤ bd.2 := fun y hy => by
      simp only [List.mem_cons, List.not_mem_nil, or_false] at hy
      omega
    obtain ⟨la1, la2⟩ := hm4 _ (List.getElem_mem hk4)
    generalize ([bd.1, bd.2, bd.1 + k7, bd.1] : List Int)[k]'hk4 = la at hx4 la1 la2
    have e38 : Ex F3 (upd F8 p (.lst [w1, w2, .int (bd.1 + k7), w5])) := g4.ff.trans (e48.trans gn.ff)
    refine ⟨v4, rfl, ?_⟩
    refine ix_go S9.fh il (Rep.mono e38 ik) hx4 fun vl ivl => ?_
    have cS : BS bq F3 H3 (upd F8 p (.lst [w1, w2, .int (bd.1 + k7), w5])) (upd H8 p (.lst [w1, w2, .int (bd.1 + k7), w5])) := ((((((BS.start S3.fh S3.off S3.bag).step g4).step g5).step g6).call c7).step g8).step gn
    obtain ⟨hn9, hl9⟩ := cS.keep hn3 hl3 hlb
    generalize upd F8 p (.lst [w1, w2, .int (bd.1 + k7), w5]) = F9 at *
    generalize upd H8 p (.lst [w1, w2, .int (bd.1 + k7), w5]) = H9 at *
    have ha9 := hai.mono fun _ _ z => Rep.mono (g3.ff.trans e38) z
    have eu : Ex F9 (upd F9 l (.lst vs)) := ex_upd hn9
    have hll := lastL_len fs
    refine st_appB (l := l) (vs := vs) (x := mx (x + la) (lastL fs)) (raw_var rfl) (et_max (ET.to (et_cat (et_lst (eas_cons (et_add (et_var rfl (Rep.mono (e38.trans eu) iv)) (et_var rfl (Rep.mono eu ivl))) eas_nil) (by simp)) (et_slLast (et_var rfl (is_lent hn9 ha9))) (by simp; omega)) rfl)) S9.fh hn9 hl9 (by omega) fun y F10 H10 g10 hn10 hl10 iy => ?_
    have S10 := (S9.step g10).mut (o := .lst (vs ++ [y])) hn10 h0 hlb
    obtain ⟨m1, m2⟩ := mx_last (m := x + la) (fs := fs) rfl
    refine kk F10 _ _ (g3.ff.trans (e38.trans g10.ff)) S10.fh ⟨S10, hn10, _, fs ++ [_], _, _, upd_same, (ha9.mono fun _ _ z => Rep.mono g10.ff z).snoc iy, by rw [List.length_append, hfl]; rfl, fun j c y h1 h2 => ?_, fun j y z h1 h2 => ?_, rfl⟩
    · rcases snoc_at h2 with h2 | ⟨rfl, rfl⟩
      · exact hown j c y h1 h2
      · rw [hfl, hx] at h1
        cases h1
        refine ⟨by omega, mx_last_le (by omega) fun j y hj hy => ?_⟩
        have hj1 : j < s.length := by omega
        have hsj : s[j]? = some s[j] := List.getElem?_eq_getElem hj1
        have h5 := hown j _ y hsj hy
        have hij : i = j + 1 := by omega
        rw [hij] at hx
        have h6 := hsu j _ _ hsj hx
        omega
    · rcases snoc_at h2 with h2 | ⟨hj, rfl⟩
      · have hj := (List.getElem?_eq_some_iff.mp h2).1
        rw [List.getElem?_append_left (by omega)] at h1
        exact hup j y z h1 h2
      · rw [List.getElem?_append_left (by omega)] at h1
        exact m2 j y (by omega) h1
  rintro F3 σ' H3 e3 e3' ⟨S3, hn3, vs, fs, t5, t6, hl3, ha3, hfl, hown, hup, rfl⟩
  exact ⟨.ref l, rfl, q _ _ _ (S3.frz hn3 h0 hl3 hlb) ⟨fs, ⟨l, vs, rfl, upd_same, ha3.mono fun _ _ z => Rep.mono (ex_upd hn3) z⟩, hfl, hown, hup⟩⟩
abbrev N_law_made : List Str := ["_law_bag_here", "_law_book_here"]
theorem sc_law_made : FnScope N_law_made ["_law_bag_here", "_law_book_here"] (defScope s_law_made) := ⟨rfl, rfl, rfl, by decide +kernel, rfl, by decide +kernel, by decide +kernel⟩
theorem ok_law_made (T : Top K mg) : Cal P w K mg base 6 "_law_made" (spB (A := Dr × Unit) (fun (d, _) => OkDr d) fun (d, _) F2 v => Is F2 v (Bk.mk (C := cBook K) d.1 d.2)) := by
  obtain ⟨fd, Fd, b⟩ := T.f_law_made
  refine cal_ofB Fd T.g_law_made b sc_law_made rfl fun cdv Ar outer s H vs Q E hr F0 bq args S0 ha hp q => ?_
  have hu := hu_of hr
  refine ⟨_, (pss_one (ps_ret (pe_mak (ok_Book_init T) hr (by decide) rfl (pa_cons (pe_ix ix_seq (pv 1) pe_int (fun _ _ => rfl)) (pa_cons (pe_ifExp (pt_cmpR op_eq (pe_cal (ok_law_take T) hr (by decide) rfl (pa_cons (pv 0) (pa_cons pe_int pa_nil))) pe_int (nomark _)) (pe_callTy call_list_of (by rfl) T.m_list (by decide +kernel) (pa_cons (pe_ix ix_seq (pv 1) pe_int (fun _ _ => rfl)) pa_nil)) (pe_callTy call_tuple_of (by rfl) T.m_tuple (by decide +kernel) (pa_cons (pe_ix ix_seq (pv 1) pe_int (fun _ _ => rfl)) pa_nil))) pa_nil))))), ?_⟩
  obtain ⟨v1, ws1, rfl, i1, rfl⟩ := ha
  obtain ⟨d, u_⟩ := args
  have i1 : Is F0 v1 d := i1
  have hd : OkDr d := hp
  have q : ∀ v F2 H2, BS bq F0 H F2 H2 → Is F2 v (Bk.mk (C := cBook K) d.1 d.2) → Q v H2 := q
  have fin : ∀ (v1 v2 : V) (F2 H2 : Hp), BS bq F0 H F2 H2 → Is F2 v1 d.1 → Is F2 v2 (Sq.mk d.2) → tMake (cBook K) (spMk (A := Int × Sq (Int × Int) × Unit) (cBook K) (fun (f, ch, _) => 0 ≤ f ∧ OkCh ch.l) fun (f, ch, _) F2 fs => ∃ u w, fs = [(("its_changes" : Str), u), (("its_prices" : Str), w)] ∧ Is F2 u (Tup.mk ch.l) ∧ Is F2 w (Tup.mk (f :: ch.l.map (·.2)))) [] E0 (tCons (tC v1) (tCons (tC v2) tNil)) [] H2 Q := by
    intro v1 v2 F2 H2 S2 k1 k2
    refine et_make (γ := Bk (cBook K)) (args := (d.1, Sq.mk d.2, ())) (r := Bk.mk d.1 d.2) (ea2 (et_c k1) (et_c k2)) ⟨hd.first, hd.ch⟩ ?_ H2 S2.fh Q fun v F3 H3 g3 iv => q v F3 H3 (S2.step g3) iv
    rintro a dx fs F4 hn ⟨u, w, rfl, j1, j2⟩
    have e := ex_upd (o := .ins (cBook K) dx [(("its_changes" : Str), u), (("its_prices" : Str), w)]) hn
    exact ⟨a, dx, u, w, rfl, upd_same, Rep.mono e j1, Rep.mono e j2⟩
  dsimp only [tRet, tMake, tCons, tNil] at fin ⊢
  refine et_fst (K := K) (ta := tVar 1) (x := d) (et_var rfl i1) H S0.fh _ fun w1 F1 H1 g1 k1 => ?_
  have S1 := S0.step g1
  have i1 := Rep.mono g1.ff i1
  refine ev_ifT (b := bq) (fun Q q => call_b (args := ((2 : Int), ())) (BS.start S1.fh S1.off S1.bag) rfl (ea1 et_int) (okM (by decide) (by decide)) fun v F8 H8 c8 ⟨k, ik, _⟩ => q v F8 H8 k c8 ik) (fun F2 H2 c2 => ?_) fun F2 H2 c2 => ?_
  · refine et_list (et_snd (K := K) (ta := tVar 1) (x := d) (et_var rfl (Rep.mono c2.ff i1))) H2 c2.fh _ fun w2 F3 H3 g3 k3 => ?_
    exact fin w1 w2 F3 H3 ((S1.call c2).step g3) (Rep.mono (c2.ff.trans g3.ff) k1) (sq_list k3)
  · refine et_tupL (et_snd (K := K) (ta := tVar 1) (x := d) (et_var rfl (Rep.mono c2.ff i1))) H2 c2.fh _ fun w2 F3 H3 g3 k3 => ?_
    exact fin w1 w2 F3 H3 ((S1.call c2).step g3) (Rep.mono (c2.ff.trans g3.ff) k1) (sq_tup k3)

end
end LT
/-! ## W15 -/
set_option Elab.async false
set_option linter.all false
set_option maxRecDepth 100000
set_option maxHeartbeats 4000000
namespace LT
open PySem PySem.Spec PyProof.Rows L2
section
variable {P : Program} {w : World} {K : PySem.W.Frag} {mg : Str → Option Value} {base : Heap}
/-! ### the law's own readings -/
def psD (d : Dr) : List Int := d.1 :: d.2.map (·.2)
def msD (d : Dr) : List Int := d.2.map (·.1)
theorem psD_len (d : Dr) : (psD d).length = d.2.length + 1 := by unfold psD; simp
abbrev N_law_prices : List Str := ["_law_book_here", "_law_moment", "_law_price_here"]
theorem sc_law_prices : FnScope N_law_prices ["_law_book_here"] (defScope s_law_prices) := ⟨rfl, rfl, rfl, by decide +kernel, rfl, by decide +kernel, by decide +kernel⟩
theorem ok_law_prices (T : Top K mg) : Cal P w K mg base 1 "_law_prices" (spP (A := Dr × Unit) (fun (d, _) => d.2.length ≤ 7) fun (d, _) => psD d) := by
  obtain ⟨fd, Fd, b⟩ := T.f_law_prices
  refine cal_of Fd T.g_law_prices b sc_law_prices rfl fun cdv Ar outer s H vs Q E hr F0 args e0 ha hp q => ?_
  have hu := hu_of hr
  refine ⟨_, (pss_one (ps_ret (pe_op op_cat (pe_lst (pa_cons (pe_ix ix_seq (pv 0) pe_int (fun _ _ => rfl)) pa_nil)) (pe_lc (own := [("_law_moment", 1), ("_law_price_here", 2)]) rfl sc_law_prices.nd (pi_list (pe_ix ix_seq (pv 0) pe_int (fun _ _ => rfl))) (blkOk_by (N := N_law_prices) (sc := defScope s_law_prices) (own := [("_law_moment", 1), ("_law_price_here", 2)]) (by decide +kernel)) (fun _ _ _ _ _ => (pg_tupK (K := K) (n := 2) (by rfl) (by rfl) (pgs_cons (pg_name (i := 1) sc_law_prices.nd rfl (by first | exact Or.inl rfl | exact Or.inr rfl)) (pgs_cons (pg_name (i := 2) sc_law_prices.nd rfl (by first | exact Or.inl rfl | exact Or.inr rfl)) pgs_nil)))) (fun _ _ _ _ _ => pts_nil) (fun _ _ _ _ _ => (pv 2)))))), ?_⟩
  obtain ⟨v1, ws1, rfl, i1, rfl⟩ := ha
  obtain ⟨d, u_⟩ := args
  have i1 : Is F0 v1 d := i1
  have hd : d.2.length ≤ 7 := hp
  exact st_ret (ET.to (et_cat (et_lst (eas_cons (et_fst (et_var rfl i1)) eas_nil) (by simp)) (et_lcP (xs := d.2) (p := fun _ => true) (f := (·.2)) (ei_list (et_snd (et_var rfl i1))) (fun _ _ => rfl) (fun x hx F1 v u e i j => eb_yes) (fun x hx F1 v u e i j _ => et_var rfl j) (by omega)) (by rw [filter_yes]; simp; omega)) (by rw [filter_yes]; rfl)) e0 q
abbrev N_law_moments : List Str := ["_law_book_here", "_law_moment", "_law_price_here"]
theorem sc_law_moments : FnScope N_law_moments ["_law_book_here"] (defScope s_law_moments) := ⟨rfl, rfl, rfl, by decide +kernel, rfl, by decide +kernel, by decide +kernel⟩
theorem ok_law_moments (T : Top K mg) : Cal P w K mg base 1 "_law_moments" (spP (A := Dr × Unit) (fun (d, _) => d.2.length ≤ 7) fun (d, _) => msD d) := by
  obtain ⟨fd, Fd, b⟩ := T.f_law_moments
  refine cal_of Fd T.g_law_moments b sc_law_moments rfl fun cdv Ar outer s H vs Q E hr F0 args e0 ha hp q => ?_
  have hu := hu_of hr
  refine ⟨_, (pss_one (ps_ret (pe_lc (own := [("_law_moment", 1), ("_law_price_here", 2)]) rfl sc_law_moments.nd (pi_list (pe_ix ix_seq (pv 0) pe_int (fun _ _ => rfl))) (blkOk_by (N := N_law_moments) (sc := defScope s_law_moments) (own := [("_law_moment", 1), ("_law_price_here", 2)]) (by decide +kernel)) (fun _ _ _ _ _ => (pg_tupK (K := K) (n := 2) (by rfl) (by rfl) (pgs_cons (pg_name (i := 1) sc_law_moments.nd rfl (by first | exact Or.inl rfl | exact Or.inr rfl)) (pgs_cons (pg_name (i := 2) sc_law_moments.nd rfl (by first | exact Or.inl rfl | exact Or.inr rfl)) pgs_nil)))) (fun _ _ _ _ _ => pts_nil) (fun _ _ _ _ _ => (pv 1))))), ?_⟩
  obtain ⟨v1, ws1, rfl, i1, rfl⟩ := ha
  obtain ⟨d, u_⟩ := args
  have i1 : Is F0 v1 d := i1
  have hd : d.2.length ≤ 7 := hp
  exact st_ret (ET.to (et_lcP (xs := d.2) (p := fun _ => true) (f := (·.1)) (ei_list (et_snd (et_var rfl i1))) (fun _ _ => rfl) (fun x hx F1 v u e i j => eb_yes) (fun x hx F1 v u e i j _ => et_var rfl i) (by omega)) (by rw [filter_yes]; rfl)) e0 q
abbrev N_law_bad : List Str := ["_law_book_here", "_law_prices_here", "_law_found", "_law_one_here", "_law_other"]
theorem sc_law_bad : FnScope N_law_bad ["_law_book_here"] (defScope s_law_bad) := ⟨rfl, rfl, rfl, by decide +kernel, rfl, by decide +kernel, by decide +kernel⟩
theorem ok_law_bad (T : Top K mg) : Cal P w K mg base 2 "_law_bad" (spP (A := Dr × Unit) (fun (d, _) => d.2.length ≤ 7) fun (d, _) => bad (psD d)) := by
  obtain ⟨fd, Fd, b⟩ := T.f_law_bad
  refine cal_of Fd T.g_law_bad b sc_law_bad rfl fun cdv Ar outer s H vs Q E hr F0 args e0 ha hp q => ?_
  have hu := hu_of hr
  refine ⟨_, (pss_cons (ps_asg (pe_tup (pa_cons (pe_cal (ok_law_prices T) hr (by decide) rfl (pa_cons (pv 0) pa_nil)) (pa_cons (pe_lst pa_nil) pa_nil))) (pg_tup rfl (pgs_cons (pg_name (i := 1) sc_law_bad.nd rfl (by first | exact Or.inl rfl | exact Or.inr rfl)) (pgs_cons (pg_name (i := 2) sc_law_bad.nd rfl (by first | exact Or.inl rfl | exact Or.inr rfl)) pgs_nil))))
    (pss_cons (ps_for PassesOwn.never rfl (pi_range1 (by rfl) T.m_range (pa_cons (pe_callB call_len_seq (by rfl) T.m_len (by decide +kernel) (pa_cons (pv 1) pa_nil)) pa_nil)) (pg_name (i := 3) sc_law_bad.nd rfl (by first | exact Or.inl rfl | exact Or.inr rfl)) (pss_one (ps_set (i := 2) sc_law_bad.nd rfl (by first | exact Or.inl rfl | exact Or.inr rfl) (pe_op op_cat (pv 2) (pe_lc (own := [("_law_other", 4)]) rfl sc_law_bad.nd (pi_range1 (by rfl) T.m_range (pa_cons (pe_callB call_len_seq (by rfl) T.m_len (by decide +kernel) (pa_cons (pv 1) pa_nil)) pa_nil)) (blkOk_by (N := N_law_bad) (sc := defScope s_law_bad) (own := [("_law_other", 4)]) (by decide +kernel)) (fun _ _ _ _ _ => (pg_name (i := 4) sc_law_bad.nd rfl (by first | exact Or.inl rfl | exact Or.inr rfl))) (fun _ _ _ _ _ => (pts_one (pt_cmpR op_gt (pe_ix (ix_seqK (K := K) (by rfl)) (pv 1) (pv 4) (fun _ _ => rfl)) (pe_ix (ix_seqK (K := K) (by rfl)) (pv 1) (pv 3) (fun _ _ => rfl)) (nomark _)))) (fun _ _ _ _ _ => (pe_tup (pa_cons (pv 3) (pa_cons (pv 4) pa_nil)))))))))
    (pss_one (ps_ret (pv 2))))), ?_⟩
  obtain ⟨v1, ws1, rfl, i1, rfl⟩ := ha
  obtain ⟨d, u_⟩ := args
  have i1 : Is F0 v1 d := i1
  have hd : d.2.length ≤ 7 := hp
  have hpl := psD_len d
  have q : ∀ v F2 H2, Grow F0 H F2 H2 → Is F2 v (bad (psD d)) → Q v H2 := q
  have hbl := bad_len (ps := psD d) (by omega)
  dsimp only [tSeq, tAsg, tTup, tCons, tNil]
  refine et_call (args := (d, ())) (ea1 (et_var rfl i1)) hd H e0 _ fun w1 F1 H1 g1 k1 => ?_
  have k1 : Is F1 w1 (psD d) := k1
  refine et_lst (α := Nat × Nat) (xs := []) eas_nil (by simp) H1 g1.fh _ fun w2 F2 H2 g2 k2 => ?_
  refine ⟨(by decide : 2 ≤ sizeLine), fun tp htp => ?_⟩
  have g3 := (g1.trans g2).trans (.new (o := .tup [w1, w2]) g2.fh htp)
  have e3 : Ex F2 (upd F2 tp (.tup [w1, w2])) := ex_upd (ex_none g2.fh htp)
  refine ⟨tp, [w1, w2], rfl, SqT.of upd_same, rfl, w1, [w2], rfl, w2, [], rfl, rfl, ?_⟩
  have k1 := Rep.mono (g2.ff.trans e3) k1
  have k2 := Rep.mono e3 k2
  generalize upd F2 tp (.tup [w1, w2]) = F3 at *
  generalize upd H2 tp (.tup [w1, w2]) = H3 at *
  refine st_loop (xs := List.range (psD d).length) (fun i Fi σ' H' => Grow F0 H Fi H' ∧ ∃ v2 t3, Is Fi v2 (((List.range (psD d).length).take i).flatMap fun i => ((List.range (psD d).length).filter fun j => decide ((psD d).getD i 0 < (psD d).getD j 0)).map fun j => (i, j)) ∧ σ' = [some v1, some w1, some v2, t3, none])
    (ei_rngN (ea1 (et_len (et_var rfl k1))) (by omega)) g3.fh (fun F4 H4 g4 => ⟨g3.trans g4, w2, none, Rep.mono g4.ff k2, rfl⟩) ?_ ?_
  · rintro N i x Fi σ' H' v F4 H4 hx e4 ⟨gi, v2, t3, k2, rfl⟩ g4 iv k
    have hxl := List.mem_range.mp (List.mem_of_getElem? hx)
    have k1 := Rep.mono (e4.trans g4.ff) k1
    have k2 := Rep.mono g4.ff k2
    have hle := flatMap_take_le (G := fun i => ((List.range (psD d).length).filter fun j => decide ((psD d).getD i 0 < (psD d).getD j 0)).map fun j => (i, j)) hx
    dsimp only [gName]
    refine st_set (et_cat (et_var rfl k2) (et_lcN (xs := List.range (psD d).length) (p := fun j => decide ((psD d).getD x 0 < (psD d).getD j 0)) (f := fun j => (x, j)) (ei_rngN (ea1 (et_len (et_var rfl k1))) (by omega)) (fun _ => rfl)
      (fun y hy F5 v e i => eb_test (et_gt (et_ixL (et_var rfl (Rep.mono e k1)) (et_var rfl i) (getD_get (List.mem_range.mp hy))) (et_ixL (et_var rfl (Rep.mono e k1)) (et_var rfl (Rep.mono e iv)) (getD_get hxl)))) (fun y hy F5 v e i _ => et_pair (et_var rfl (Rep.mono e iv)) (et_var rfl i)) (by rw [List.length_range]; omega)) ?z) g4.fh fun v3 F5 H5 g5 k3 => ?_
    case z =>
      have : (List.flatMap (fun i => ((List.range (psD d).length).filter fun j => decide ((psD d).getD i 0 < (psD d).getD j 0)).map fun j => (i, j)) (List.range (psD d).length)).length ≤ 64 := hbl
      omega
    refine k F5 _ _ (g4.ff.trans g5.ff) g5.fh ⟨gi.trans (g4.trans g5), v3, _, ?_, rfl⟩
    rw [flatMap_succ hx]
    exact k3
  rintro F4 σ' H4 e4 e4' ⟨g4, v2, t3, k2, rfl⟩
  rw [List.take_of_length_le (Nat.le_refl _)] at k2
  exact ⟨v2, rfl, q _ _ _ g4 k2⟩
abbrev N_law_cells : List Str := ["_law_order", "_law_found", "_law_k"]
theorem sc_law_cells : FnScope N_law_cells ["_law_order"] (defScope s_law_cells) := ⟨rfl, rfl, rfl, by decide +kernel, rfl, by decide +kernel, by decide +kernel⟩
theorem ok_law_cells (T : Top K mg) : Cal P w K mg base 1 "_law_cells" (spP (A := Od × Unit) (fun (o, _) => o.l.length ≤ 100) fun (o, _) => cellsOf o.l) := by
  obtain ⟨fd, Fd, b⟩ := T.f_law_cells
  refine cal_of Fd T.g_law_cells b sc_law_cells rfl fun cdv Ar outer s H vs Q E hr F0 args e0 ha hp q => ?_
  have hu := hu_of hr
  refine ⟨_, (pss_cons (ps_set (i := 1) sc_law_cells.nd rfl (by first | exact Or.inl rfl | exact Or.inr rfl) (pe_lst (pa_cons (pe_tup (pa_cons pe_int (pa_cons pe_int pa_nil))) pa_nil)))
    (pss_cons (ps_for PassesOwn.never rfl (pi_range2 (by rfl) T.m_range (pa_cons pe_int (pa_cons (pe_op op_add (pe_callB call_len (by rfl) T.m_len (by decide +kernel) (pa_cons (pv 0) pa_nil)) pe_int) pa_nil))) (pg_name (i := 2) sc_law_cells.nd rfl (by first | exact Or.inl rfl | exact Or.inr rfl)) (pss_one (ps_expr (pe_bm PySem.F.plainAttrs_list PySem.F.slot_list_append PySem.F.type_list_append mt_append (pv 1) (pa_cons (pe_tup (pa_cons (pe_m1 PySem.F.slot_str_count PySem.F.type_str_count mt_count (pe_slice sl_str (pv 0) po_none (po_some (pv 2))) pe_str) (pa_cons (pe_m1 PySem.F.slot_str_count PySem.F.type_str_count mt_count (pe_slice sl_str (pv 0) po_none (po_some (pv 2))) pe_str) pa_nil))) pa_nil)))))
    (pss_one (ps_ret (pv 1))))), ?_⟩
  obtain ⟨v1, ws1, rfl, i1, rfl⟩ := ha
  obtain ⟨o, u_⟩ := args
  have i1 : Is F0 v1 o := i1
  have hl : o.l.length ≤ 100 := hp
  dsimp only [tSeq, tAsg]
  refine mk_lst (xs := [((0, 0) : Nat × Nat)]) (eas_cons (et_pair (et_nat (i := 0) (n := 0)) (et_nat (i := 0) (n := 0))) eas_nil) (by simp) e0 fun l vs F1 H1 g1 hn h0 hl1 ha1 => ?_
  have i1 := Rep.mono g1.ff i1
  dsimp only [gName]
  refine st_loop (xs := List.range' 1 (o.l.length + 1 - 1)) (fun i Fi σ' H' => Grow F0 H Fi H' ∧ Fi l = none ∧ ∃ vs t, H' l = some (.lst vs) ∧ All2 (Rep.is Fi) vs ((List.range (i + 1)).map (cellAt o.l)) ∧ σ' = [some v1, some (.ref l), t])
    (ei_rng2 (ea2 (et_nat (i := 1) (n := 1)) (et_addN (et_lenO (et_var rfl i1) (by omega)) (et_nat (i := 1) (n := 1)))) (by omega) (by omega)) g1.fh (fun F2 H2 g2 => ⟨g1.trans g2, g2.off hn hl1, vs, none, g2.hh _ _ hl1, ha1.mono fun _ _ z => Rep.mono g2.ff z, rfl⟩) ?_ ?_
  · rintro N i x Fi σ' H' v F2 H2 hx e3 ⟨gi, hni, vs, t, hli, hai, rfl⟩ g2 iv k
    have hi := (List.getElem?_eq_some_iff.mp hx).1
    rw [List.length_range'] at hi
    rw [List.getElem?_range' hi] at hx
    have hxi : x = i + 1 := by have := Option.some.inj hx; omega
    subst hxi
    have hn2 := g2.off hni hli
    have hl2 := g2.hh _ _ hli
    have hvl : vs.length = i + 1 := by rw [hai.len]; simp
    have i1 := Rep.mono (e3.trans g2.ff) i1
    refine st_app (l := l) (vs := vs) (x := cellAt o.l (i + 1)) (raw_var rfl) (et_pair (et_cntL (et_slO (et_var rfl i1) (et_var rfl iv) (by omega)) true fun _ => is_L) (et_cntL (et_slO (et_var rfl i1) (et_var rfl iv) (by omega)) false fun _ => is_T)) g2.fh hl2 (by omega) fun y F3 H3 g3 iy => ?_
    have hn3 := g3.off hn2 hl2
    have g4 := (gi.trans (g2.trans g3)).mut (o := .lst (vs ++ [y])) hn3 h0
    refine k F3 _ _ (g2.ff.trans g3.ff) g4.fh ⟨g4, hn3, _, _, upd_same, ?_, rfl⟩
    rw [List.range_succ, List.map_append]
    exact (hai.mono fun _ _ z => Rep.mono (g2.ff.trans g3.ff) z).snoc iy
  rintro F2 σ' H2 e3 e4 ⟨g, hn2, vs, t, hl2, ha2, rfl⟩
  rw [List.length_range', Nat.add_sub_cancel] at ha2
  exact ⟨.ref l, rfl, q _ _ _ (g.frz hn2 h0 hl2) ⟨l, vs, rfl, upd_same, ha2.mono fun _ _ z => Rep.mono (ex_upd hn2) z⟩⟩
def lfLaw (l : List Bool) (c : Nat × Nat) : Bool := decide (0 < ((cellsOf l).filter fun p => decide (p.2 < c.2) && decide (c.1 < p.1)).length)
abbrev N_law_label_first : List Str := ["_law_order", "_law_cell", "_law_one_here", "_law_other"]
theorem sc_law_label_first : FnScope N_law_label_first ["_law_order", "_law_cell"] (defScope s_law_label_first) := ⟨rfl, rfl, rfl, by decide +kernel, rfl, by decide +kernel, by decide +kernel⟩
theorem ok_law_label_first (T : Top K mg) : Cal P w K mg base 2 "_law_label_first" (spP (A := Od × (Nat × Nat) × Unit) (fun (o, _, _) => o.l.length ≤ 100) fun (o, c, _) => lfLaw o.l c) := by
  obtain ⟨fd, Fd, b⟩ := T.f_law_label_first
  refine cal_of Fd T.g_law_label_first b sc_law_label_first rfl fun cdv Ar outer s H vs Q E hr F0 args e0 ha hp q => ?_
  have hu := hu_of hr
  refine ⟨_, (pss_one (ps_ret (pe_cmpR op_gt (pe_callB call_len_seq (by rfl) T.m_len (by decide +kernel) (pa_cons (pe_lc (own := [("_law_one_here", 2), ("_law_other", 3)]) rfl sc_law_label_first.nd (pi_list (pe_cal (ok_law_cells T) hr (by decide) rfl (pa_cons (pv 0) pa_nil))) (blkOk_by (N := N_law_label_first) (sc := defScope s_law_label_first) (own := [("_law_one_here", 2), ("_law_other", 3)]) (by decide +kernel)) (fun _ _ _ _ _ => (pg_tupK (K := K) (n := 2) (by rfl) (by rfl) (pgs_cons (pg_name (i := 2) sc_law_label_first.nd rfl (by first | exact Or.inl rfl | exact Or.inr rfl)) (pgs_cons (pg_name (i := 3) sc_law_label_first.nd rfl (by first | exact Or.inl rfl | exact Or.inr rfl)) pgs_nil)))) (fun _ _ _ _ _ => (pts_one (PW.pt (pw_and (pt_cmpR op_lt (pv 3) (pe_ix (ix_seqK (K := K) (by rfl)) (pv 1) pe_int (fun _ _ => rfl)) (nomark _)) (pw_and1 (pt_cmpR op_gt (pv 2) (pe_ix (ix_seqK (K := K) (by rfl)) (pv 1) pe_int (fun _ _ => rfl)) (nomark _))))))) (fun _ _ _ _ _ => (pv 2))) pa_nil)) pe_int (nomark _)))), ?_⟩
  obtain ⟨v1, ws1, rfl, i1, v2, ws2, rfl, i2, rfl⟩ := ha
  obtain ⟨o, c, u_⟩ := args
  have i1 : Is F0 v1 o := i1
  have i2 : Is F0 v2 c := i2
  have hl : o.l.length ≤ 100 := hp
  have hcl := cellsOf_len o.l
  refine st_ret (ET.to (et_gtN (et_len (et_lcP (xs := cellsOf o.l) (p := fun p => decide (p.2 < c.2) && decide (c.1 < p.1)) (f := (·.1)) (ei_list (et_call (args := (o, ())) (ea1 (et_var rfl i1)) hl)) (fun _ _ => rfl)
    (fun x hx F1 v u e i j => eb_and (eb_test (et_ltN (et_var rfl j) (et_snd (et_var rfl (Rep.mono e i2))))) fun _ => eb_test (et_gtN (et_var rfl i) (et_fst (et_var rfl (Rep.mono e i2))))) (fun x hx F1 v u e i j _ => et_var rfl i) (by omega))) (et_nat (i := 0) (n := 0))) ?_) e0 q
  rw [List.length_map]
  rfl
theorem dp_nil {G H : Hp} {v : V} (e : Ex G H) (i : Is G v ([] : List Nat)) : Dp K H v (.list []) := by
  obtain ⟨a, vs, rfl, ha, hs⟩ := i
  have : vs = [] := List.eq_nil_of_length_eq_zero (by rw [hs.len]; rfl)
  subst this
  exact .lst (SqL.of (e _ _ ha)) .nil
abbrev N_law_not_later : List Str := ["_law_one_here", "_law_other", "_law_at"]
theorem sc_law_not_later : FnScope N_law_not_later ["_law_one_here", "_law_other"] (defScope s_law_not_later) := ⟨rfl, rfl, rfl, by decide +kernel, rfl, by decide +kernel, by decide +kernel⟩
theorem ok_law_not_later (T : Top K mg) : Cal P w K mg base 1 "_law_not_later" (spP (A := List Int × List Int × Unit) (fun (a, b, _) => a.length ≤ 100 ∧ a.length = b.length ∧ ∀ (i : Nat) x y, a[i]? = some x → b[i]? = some y → x ≤ y) fun _ => true) := by
  obtain ⟨fd, Fd, b⟩ := T.f_law_not_later
  refine cal_of Fd T.g_law_not_later b sc_law_not_later rfl fun cdv Ar outer s H vs Q E hr F0 args e0 ha hp q => ?_
  have hu := hu_of hr
  have hu64 : (cxOf CX0 P w K mg base N_law_not_later "_law_not_later" (defScope s_law_not_later) (He.ga K "_law_not_later") cdv Ar outer s H E).nox.A.units + 64 < PySem.cLine := by
    have := hr.un
    exact Nat.lt_of_le_of_lt (Nat.add_le_add_left (by omega) _) this
  refine ⟨_, (pss_one (ps_ret (pe_cmpR (op_eqD hu64) (pe_lc (own := [("_law_at", 2)]) rfl sc_law_not_later.nd (pi_range1 (by rfl) T.m_range (pa_cons (pe_callB call_len_seq (by rfl) T.m_len (by decide +kernel) (pa_cons (pv 0) pa_nil)) pa_nil)) (blkOk_by (N := N_law_not_later) (sc := defScope s_law_not_later) (own := [("_law_at", 2)]) (by decide +kernel)) (fun _ _ _ _ _ => (pg_name (i := 2) sc_law_not_later.nd rfl (by first | exact Or.inl rfl | exact Or.inr rfl))) (fun _ _ _ _ _ => (pts_one (pt_cmpR op_gt (pe_ix (ix_seqK (K := K) (by rfl)) (pv 0) (pv 2) (fun _ _ => rfl)) (pe_ix (ix_seqK (K := K) (by rfl)) (pv 1) (pv 2) (fun _ _ => rfl)) (nomark _)))) (fun _ _ _ _ _ => (pv 2))) (pe_lst pa_nil) (nomark _)))), ?_⟩
  obtain ⟨v1, ws1, rfl, i1, v2, ws2, rfl, i2, rfl⟩ := ha
  obtain ⟨x, y, u_⟩ := args
  have i1 : Is F0 v1 x := i1
  have i2 : Is F0 v2 y := i2
  obtain ⟨hl, hxy, hle⟩ : x.length ≤ 100 ∧ x.length = y.length ∧ ∀ (i : Nat) a b, x[i]? = some a → y[i]? = some b → a ≤ b := hp
  have hnil : (List.range x.length).filter (fun i => decide (y.getD i 0 < x.getD i 0)) = [] := by
    refine List.filter_eq_nil_iff.mpr fun i hi => ?_
    have hi := List.mem_range.mp hi
    have := hle i _ _ (getD_get (d := 0) hi) (getD_get (d := 0) (show i < y.length by omega))
    rw [decide_eq_true_eq]
    omega
  refine st_ret (et_op (x := ([] : List Nat)) (y := ([] : List Nat)) (ET.to (et_lcN (xs := List.range x.length) (p := fun i => decide (y.getD i 0 < x.getD i 0)) (f := fun i => i) (ei_rngN (ea1 (et_len (et_var rfl i1))) (by omega)) (fun _ => rfl)
    (fun i hi F1 v e k => eb_test (et_gt (et_ixL (et_var rfl (Rep.mono e i1)) (et_var rfl k) (getD_get (List.mem_range.mp hi))) (et_ixL (et_var rfl (Rep.mono e i2)) (et_var rfl k) (getD_get (show i < y.length by have := List.mem_range.mp hi; omega))))) (fun i hi F1 v e k _ => et_var rfl k) (by rw [List.length_range]; omega)) (by rw [hnil]; rfl)) (et_lst eas_nil (by simp))
    fun F1 H1 v w Q _ e1 hv hw k => ⟨.list [], .list [], dp_nil e1 hv, dp_nil e1 hw, by decide, by decide, k _ F1 H1 (.refl e1) rfl⟩) e0 q

end
end LT
/-! ## W16 -/
set_option Elab.async false
set_option linter.all false
set_option maxRecDepth 100000
set_option maxHeartbeats 4000000
namespace LT
open PySem PySem.Spec PyProof.Rows L2
section
variable {P : Program} {w : World} {K : PySem.W.Frag} {mg : Str → Option Value} {base : Heap}
/-! ### joined letters; leading cells -/
theorem joinL_nil : ∀ xs : List (List Nat), TL.joinL [] xs = xs.flatten
  | [] => rfl
  | [p] => by simp [TL.joinL]
  | p :: q :: r => by
    rw [TL.joinL, joinL_nil (q :: r)]
    simp
theorem od_join (os : List Od) : Txt.join ("" : Str) (os.map Od.str) = (Od.mk (os.flatMap (·.l))).str := by
  have e0 : ("" : Str) = SX.S [] := by decide
  have e1 : os.map Od.str = (os.map fun o => o.l.map code).map SX.S := by
    rw [List.map_map]
    rfl
  rw [e0, e1, SX.join_S, joinL_nil]
  unfold Od.str
  refine congrArg (fun x : List Nat => (⟨x.toArray⟩ : Str)) ?_
  rw [List.flatMap_def, List.map_flatten, List.map_map]
  rfl
theorem len_sum (os : List Od) : ((os.map Od.str).map (·.length)).sum = (os.flatMap (·.l)).length := by
  induction os with
  | nil => rfl
  | cons o r ih =>
    rw [List.map_cons, List.map_cons, List.sum_cons, ih, List.flatMap_cons, List.length_append, odlen]
theorem et_joinO {σ : St} {F : Hp} {te : TE} {os : List Od} (h : ET te σ F os) (hz : (os.flatMap (·.l)).length ≤ 100000) : ET (tM1 (fun x xs H Q => ∃ a p, ∃ ys : List Str, x = .str a ∧ xs = [.ref p] ∧ (SqL K H p (ys.map V.str) ∨ SqT K H p (ys.map V.str)) ∧
      (ys.map (·.length)).sum + ys.length * a.length ≤ 16777216 ∧ Q (.str (Txt.join a ys)) H) (tC (.str "")) te) σ F (Od.mk (os.flatMap (·.l))) := fun H e Q k =>
  ⟨⟨_, rfl⟩, h H e _ fun v F1 H1 g1 ⟨a, vs, hv, ha, hs⟩ => ⟨"", a, os.map Od.str, rfl, by rw [hv], .inl (by
    have : vs = (os.map Od.str).map V.str := by
      have h2 : All2 (fun (a : V) (b : Od) => a = V.str b.str) vs os := hs
      rw [List.map_map]
      exact h2.eq_map
    rw [← this]
    exact SqL.of (g1.fh _ _ ha)), by
    rw [len_sum]
    have e0 : ("" : Str).length = 0 := by decide
    rw [e0]
    omega, by
    rw [od_join]
    exact k _ F1 H1 g1 rfl⟩⟩
theorem is_od {G : Hp} {v : V} {c : Ltr} (h : Is G v c) : Is G v (Od.mk [c.b]) := h
theorem all2_od {G : Hp} {vs : List V} {cs : List Ltr} (h : All2 (Rep.is G) vs cs) : All2 (Rep.is G) vs (cs.map fun c => Od.mk [c.b]) := (h.mono fun _ _ z => is_od z).map_r
theorem flat_one (cs : List Ltr) : (cs.map fun c => Od.mk [c.b]).flatMap (·.l) = cs.map (·.b) := by
  induction cs with
  | nil => rfl
  | cons c r ih =>
    rw [List.map_cons, List.flatMap_cons, ih]
    rfl
theorem et_joinC {σ : St} {F : Hp} {te : TE} {cs : List Ltr} (h : ET te σ F cs) (hz : cs.length ≤ 1000) : ET (tM1 (fun x xs H Q => ∃ a p, ∃ ys : List Str, x = .str a ∧ xs = [.ref p] ∧ (SqL K H p (ys.map V.str) ∨ SqT K H p (ys.map V.str)) ∧
      (ys.map (·.length)).sum + ys.length * a.length ≤ 16777216 ∧ Q (.str (Txt.join a ys)) H) (tC (.str "")) te) σ F (Od.mk (cs.map (·.b))) := by
  have h2 : ET te σ F (cs.map fun c => Od.mk [c.b]) := ER.imp h fun G v _ ⟨a, vs, hv, ha, hs⟩ => ⟨a, vs, hv, ha, all2_od hs⟩
  have h3 := et_joinO (K := K) h2 (by rw [flat_one, List.length_map]; omega)
  rw [flat_one] at h3
  exact h3
def plainL (ps : List Int) : List Bool := (List.range (ps.length - 1)).flatMap fun k => if decide (ps.getD k 0 < ps.getD (k + 1) 0) = true then [true, false] else [false, true]
theorem is_TL {G : Hp} : Is G (.str "TL") (Od.mk [false, true]) := by
  show V.str "TL" = V.str (Od.mk [false, true]).str
  exact congrArg V.str (by decide)
theorem is_LT' {G : Hp} : Is G (.str "LT") (Od.mk [true, false]) := by
  show V.str "LT" = V.str (Od.mk [true, false]).str
  exact congrArg V.str (by decide)
theorem plainL_len (ps : List Int) : (plainL ps).length = 2 * (ps.length - 1) := by
  unfold plainL
  generalize ps.length - 1 = n
  induction n with
  | zero => rfl
  | succ n ih =>
    rw [List.range_succ, List.flatMap_append, List.length_append, ih]
    simp only [List.flatMap_cons, List.flatMap_nil, List.append_nil]
    split <;> simp <;> omega
abbrev N_law_plain : List Str := ["_law_book_here", "_law_prices_here", "_law_k"]
theorem sc_law_plain : FnScope N_law_plain ["_law_book_here"] (defScope s_law_plain) := ⟨rfl, rfl, rfl, by decide +kernel, rfl, by decide +kernel, by decide +kernel⟩
theorem ok_law_plain (T : Top K mg) : Cal P w K mg base 2 "_law_plain" (spP (A := Dr × Unit) (fun (d, _) => d.2.length ≤ 7) fun (d, _) => Od.mk (plainL (psD d))) := by
  obtain ⟨fd, Fd, b⟩ := T.f_law_plain
  refine cal_of Fd T.g_law_plain b sc_law_plain rfl fun cdv Ar outer s H vs Q E hr F0 args e0 ha hp q => ?_
  have hu := hu_of hr
  refine ⟨_, (pss_cons (ps_set (i := 1) sc_law_plain.nd rfl (by first | exact Or.inl rfl | exact Or.inr rfl) (pe_cal (ok_law_prices T) hr (by decide) rfl (pa_cons (pv 0) pa_nil)))
    (pss_one (ps_ret (pe_join pe_str (pe_lc (own := [("_law_k", 2)]) rfl sc_law_plain.nd (pi_range1 (by rfl) T.m_range (pa_cons (pe_op op_sub (pe_callB call_len_seq (by rfl) T.m_len (by decide +kernel) (pa_cons (pv 1) pa_nil)) pe_int) pa_nil)) (blkOk_by (N := N_law_plain) (sc := defScope s_law_plain) (own := [("_law_k", 2)]) (by decide +kernel)) (fun _ _ _ _ _ => (pg_name (i := 2) sc_law_plain.nd rfl (by first | exact Or.inl rfl | exact Or.inr rfl))) (fun _ _ _ _ _ => pts_nil) (fun _ _ _ _ _ => (pe_ifExp (pt_cmpR op_gt (pe_ix (ix_seqK (K := K) (by rfl)) (pv 1) (pe_op op_add (pv 2) pe_int) (fun _ _ => rfl)) (pe_ix (ix_seqK (K := K) (by rfl)) (pv 1) (pv 2) (fun _ _ => rfl)) (nomark _)) pe_str pe_str))))))), ?_⟩
  obtain ⟨v1, ws1, rfl, i1, rfl⟩ := ha
  obtain ⟨d, u_⟩ := args
  have i1 : Is F0 v1 d := i1
  have hd : d.2.length ≤ 7 := hp
  have hpl := psD_len d
  have q : ∀ v F2 H2, Grow F0 H F2 H2 → Is F2 v (Od.mk (plainL (psD d))) → Q v H2 := q
  have hlen := plainL_len (psD d)
  dsimp only [tSeq]
  refine st_set (et_call (args := (d, ())) (ea1 (et_var rfl i1)) hd) e0 fun w1 F1 H1 g1 k1 => ?_
  have k1 : Is F1 w1 (psD d) := k1
  dsimp only
  have e1 : (((List.range ((psD d).length - 1)).filter fun _ => true).map fun k => if decide ((psD d).getD k 0 < (psD d).getD (k + 1) 0) = true then Od.mk [true, false] else Od.mk [false, true]).flatMap (·.l) = plainL (psD d) := by
    rw [filter_yes]
    unfold plainL
    rw [List.flatMap_map]
    refine congrArg (fun f => List.flatMap f _) (funext fun k => ?_)
    split <;> rfl
  refine st_ret (ET.to (et_joinO (et_lcN (xs := List.range ((psD d).length - 1)) (p := fun _ => true) (f := fun k => if decide ((psD d).getD k 0 < (psD d).getD (k + 1) 0) = true then Od.mk [true, false] else Od.mk [false, true]) (ei_rngN (ea1 (et_subN (et_len (et_var rfl k1)) (et_nat (i := 1) (n := 1)) (by omega))) (by omega)) (fun _ => rfl) (fun x hx F1 v e i => eb_yes)
    (fun x hx F1 v e i _ => by
      have hx := List.mem_range.mp hx
      exact et_if2 (eb_test (et_gt (et_ixL (et_var rfl (Rep.mono e k1)) (et_addN (et_var rfl i) (et_nat (i := 1) (n := 1))) (getD_get (show x + 1 < (psD d).length by omega))) (et_ixL (et_var rfl (Rep.mono e k1)) (et_var rfl i) (getD_get (show x < (psD d).length by omega))))) (fun _ => et_c is_LT') fun _ => et_c is_TL) (by rw [List.length_range]; omega)) (by rw [e1, hlen]; omega)) (by rw [e1])) g1.fh fun v F2 H2 g2 i => q v F2 H2 (g1.trans g2) i
def evts (a b : List Int) (wt : Int) (tf : Bool) : List Evt := a.map (fun m => T3.mk (m + wt) ((if tf = true then 1 else 0 : Nat) : Int) (Ltr.mk true)) ++ b.map fun m => T3.mk m (1 - ((if tf = true then 1 else 0 : Nat) : Int)) (Ltr.mk false)
def ordOf (a b : List Int) (wt : Int) (tf : Bool) : List Bool := (srt (evts a b wt tf)).map (·.c.b)
abbrev N_law_order_of : List Str := ["_law_first", "_law_then", "_law_wait", "_law_is_till_first", "_law_events", "_law_moment", "_law_rank", "_law_letter"]
theorem sc_law_order_of : FnScope N_law_order_of ["_law_first", "_law_then", "_law_wait", "_law_is_till_first"] (defScope s_law_order_of) := ⟨rfl, rfl, rfl, by decide +kernel, rfl, by decide +kernel, by decide +kernel⟩
theorem ok_law_order_of (T : Top K mg) : Cal P w K mg base 1 "_law_order_of" (spP (A := List Int × List Int × Int × Bool × Unit) (fun (a, b, _, _, _) => a.length ≤ 100 ∧ b.length ≤ 100) fun (a, b, wt, tf, _) => Od.mk (ordOf a b wt tf)) := by
  obtain ⟨fd, Fd, b⟩ := T.f_law_order_of
  refine cal_of Fd T.g_law_order_of b sc_law_order_of rfl fun cdv Ar outer s H vs Q E hr F0 args e0 ha hp q => ?_
  have hu := hu_of hr
  have hu64 : (cxOf CX0 P w K mg base N_law_order_of "_law_order_of" (defScope s_law_order_of) (He.ga K "_law_order_of") cdv Ar outer s H E).nox.A.units + 64 < PySem.cLine := by
    have := hr.un
    exact Nat.lt_of_le_of_lt (Nat.add_le_add_left (by omega) _) this
  refine ⟨_, (pss_cons (ps_setLc (i := 4) (own := [("_law_moment", 5)]) rfl sc_law_order_of.nd rfl rfl (sw_true rfl rfl rfl (by decide +kernel)) (pi_list (pv 0)) (blkOk_by (N := N_law_order_of) (sc := defScope s_law_order_of) (own := [("_law_moment", 5)]) (by decide +kernel)) (fun _ _ _ _ _ => (pg_name (i := 5) sc_law_order_of.nd rfl (by first | exact Or.inl rfl | exact Or.inr rfl))) (fun _ _ _ _ _ => pts_nil) (fun _ _ _ _ _ => (pe_tup (pa_cons (pe_op op_add (pv 5) (pv 2)) (pa_cons (pe_callTy call_int1 (by rfl) T.m_int (by decide +kernel) (pa_cons (pv 3) pa_nil)) (pa_cons pe_str pa_nil))))))
    (pss_cons (ps_set (i := 4) sc_law_order_of.nd rfl (by first | exact Or.inl rfl | exact Or.inr rfl) (pe_op op_cat (pv 4) (pe_lc (own := [("_law_moment", 5)]) rfl sc_law_order_of.nd (pi_list (pv 1)) (blkOk_by (N := N_law_order_of) (sc := defScope s_law_order_of) (own := [("_law_moment", 5)]) (by decide +kernel)) (fun _ _ _ _ _ => (pg_name (i := 5) sc_law_order_of.nd rfl (by first | exact Or.inl rfl | exact Or.inr rfl))) (fun _ _ _ _ _ => pts_nil) (fun _ _ _ _ _ => (pe_tup (pa_cons (pv 5) (pa_cons (pe_op op_sub pe_int (pe_callTy call_int1 (by rfl) T.m_int (by decide +kernel) (pa_cons (pv 3) pa_nil))) (pa_cons pe_str pa_nil))))))))
    (pss_one (ps_ret (pe_join pe_str (pe_lc (own := [("_law_moment", 5), ("_law_rank", 6), ("_law_letter", 7)]) rfl sc_law_order_of.nd (pi_list (pe_callB (cr_sortT hu64) (by rfl) T.m_sorted (by decide +kernel) (pa_cons (pv 4) pa_nil))) (blkOk_by (N := N_law_order_of) (sc := defScope s_law_order_of) (own := [("_law_moment", 5), ("_law_rank", 6), ("_law_letter", 7)]) (by decide +kernel)) (fun _ _ _ _ _ => (pg_tupK (K := K) (n := 3) (by rfl) (by rfl) (pgs_cons (pg_name (i := 5) sc_law_order_of.nd rfl (by first | exact Or.inl rfl | exact Or.inr rfl)) (pgs_cons (pg_name (i := 6) sc_law_order_of.nd rfl (by first | exact Or.inl rfl | exact Or.inr rfl)) (pgs_cons (pg_name (i := 7) sc_law_order_of.nd rfl (by first | exact Or.inl rfl | exact Or.inr rfl)) pgs_nil))))) (fun _ _ _ _ _ => pts_nil) (fun _ _ _ _ _ => (pv 7)))))))), ?_⟩
  obtain ⟨v1, ws1, rfl, i1, v2, ws2, rfl, i2, v3, ws3, rfl, i3, v4, ws4, rfl, i4, rfl⟩ := ha
  obtain ⟨a, c, wt, tf, u_⟩ := args
  have i1 : Is F0 v1 a := i1
  have i2 : Is F0 v2 c := i2
  have i3 : Is F0 v3 wt := i3
  have i4 : Is F0 v4 tf := i4
  obtain ⟨hal, hbl⟩ : a.length ≤ 100 ∧ c.length ≤ 100 := hp
  have q : ∀ v F2 H2, Grow F0 H F2 H2 → Is F2 v (Od.mk (ordOf a c wt tf)) → Q v H2 := q
  dsimp only [tSeq]
  refine st_set (R := fun G v => Is G v (a.map fun m => T3.mk (m + wt) ((if tf = true then 1 else 0 : Nat) : Int) (Ltr.mk true))) ?x e0 fun w1 F1 H1 g1 k1 => ?_
  case x =>
    exact ET.to (et_lcN (xs := a) (p := fun _ => true) (f := fun m => T3.mk (m + wt) ((if tf = true then 1 else 0 : Nat) : Int) (Ltr.mk true)) (ei_list (et_var rfl i1)) (fun _ => rfl) (fun x hx F1 v e i => eb_yes) (fun x hx F1 v e i _ => et_trip (et_add (et_var rfl i) (et_var rfl (Rep.mono e i3))) (et_intB (et_var rfl (Rep.mono e i4))).int et_L) (by omega)) (by rw [filter_yes])
  have i2 := Rep.mono g1.ff i2
  have i4 := Rep.mono g1.ff i4
  dsimp only
  refine st_set (R := fun G v => Is G v (evts a c wt tf)) ?x g1.fh fun w2 F2 H2 g2 k2 => ?_
  case x =>
    exact ET.to (et_cat (et_var rfl k1) (et_lcN (xs := c) (p := fun _ => true) (f := fun m => T3.mk m (1 - ((if tf = true then 1 else 0 : Nat) : Int)) (Ltr.mk false)) (ei_list (et_var rfl i2)) (fun _ => rfl) (fun x hx F1 v e i => eb_yes) (fun x hx F1 v e i _ => et_trip (et_var rfl i) (et_sub et_int (et_intB (et_var rfl (Rep.mono e i4))).int) et_T) (by omega)) (by rw [filter_yes, List.length_map, List.length_map]; omega)) (by rw [filter_yes]; rfl)
  dsimp only
  have hel : (evts a c wt tf).length ≤ 200 := by unfold evts; rw [List.length_append, List.length_map, List.length_map]; omega
  have hsl : (srt (evts a c wt tf)).length ≤ 200 := by rw [(srt_perm _).length_eq]; exact hel
  refine st_ret (ET.to (et_joinC (et_lcT (xs := srt (evts a c wt tf)) (p := fun _ => true) (f := fun t => t.c) (ei_list (et_sorted (et_var rfl k2) (by omega))) (fun _ _ _ => rfl) (fun x hx F1 v u z e i j k => eb_yes) (fun x hx F1 v u z e i j k _ => et_var rfl k) (by omega)) (by rw [List.length_map, filter_yes_len]; omega)) ?_) g2.fh fun v F3 H3 g3 i => q v F3 H3 (g1.trans (g2.trans g3)) i
  rw [filter_yes, List.map_map]
  rfl
def leadF (n : Nat) (bd : List (Nat × Nat)) (c : Nat × Nat) : Bool :=
  if c.1 ≤ n ∧ c.2 ≤ n then (decide (c = (n, n)) || (leadF n bd (c.1 + 1, c.2) || leadF n bd (c.1, c.2 + 1))) && !decide (c ∈ bd) else false
termination_by 2 * n + 2 - c.1 - c.2
decreasing_by all_goals (simp_wf; omega)
structure IsLead (n : Nat) (bd : List (Nat × Nat)) (f : Nat × Nat → Bool) : Prop where
  out : ∀ c : Nat × Nat, ¬ (c.1 ≤ n ∧ c.2 ≤ n) → f c = false
  step : ∀ c : Nat × Nat, c.1 ≤ n → c.2 ≤ n → f c = ((decide (c = (n, n)) || (f (c.1 + 1, c.2) || f (c.1, c.2 + 1))) && !decide (c ∈ bd))
theorem leadF_is (n : Nat) (bd : List (Nat × Nat)) : IsLead n bd (leadF n bd) where
  out c h := by rw [leadF, if_neg h]
  step c h1 h2 := by rw [leadF, if_pos ⟨h1, h2⟩]
def partB (n : Nat) (w : Nat × Nat → Bool) (i j : Nat) (c : Nat × Nat) : Bool := if c.1 ≤ n ∧ c.2 ≤ n ∧ (n < c.1 + i ∨ (c.1 + i = n ∧ n < c.2 + j)) then w c else false
section
variable {n : Nat} {w : Nat × Nat → Bool} {bd : List (Nat × Nat)} {i j : Nat}
theorem partB_zero : partB n w 0 0 = fun _ => false := by
  funext c
  unfold partB
  exact if_neg (by omega)
theorem partB_row : partB n w i (n + 1) = partB n w (i + 1) 0 := by
  funext c
  unfold partB
  by_cases h : c.1 ≤ n ∧ c.2 ≤ n ∧ (n < c.1 + i ∨ (c.1 + i = n ∧ n < c.2 + (n + 1)))
  · rw [if_pos h, if_pos (by omega)]
  · rw [if_neg h, if_neg (by omega)]
theorem partB_end (W : IsLead n bd w) : partB n w (n + 1) 0 = w := by
  funext c
  unfold partB
  by_cases h : c.1 ≤ n ∧ c.2 ≤ n
  · rw [if_pos (by omega)]
  · rw [if_neg (by omega), W.out c h]
theorem partB_next (hi : i ≤ n) (hj : j ≤ n) (d : Nat × Nat) : partB n w i (j + 1) d = if d = (n - i, n - j) then w (n - i, n - j) else partB n w i j d := by
  unfold partB
  by_cases h : d = (n - i, n - j)
  · rw [if_pos h, h, if_pos (by show n - i ≤ n ∧ n - j ≤ n ∧ (n < n - i + i ∨ (n - i + i = n ∧ n < n - j + (j + 1))); omega)]
  · rw [if_neg h]
    have h2 : ¬ (d.1 = n - i ∧ d.2 = n - j) := fun z => h (Prod.ext z.1 z.2)
    by_cases h3 : d.1 ≤ n ∧ d.2 ≤ n ∧ (n < d.1 + i ∨ (d.1 + i = n ∧ n < d.2 + j))
    · rw [if_pos h3, if_pos (by omega)]
    · rw [if_neg h3, if_neg (by omega)]
theorem partB_at : partB n w i j (n - i, n - j) = false ∨ n < j ∨ n < i := by
  by_cases h : n < j ∨ n < i
  · exact .inr h
  · refine .inl (if_neg ?_)
    show ¬ (n - i ≤ n ∧ n - j ≤ n ∧ (n < n - i + i ∨ (n - i + i = n ∧ n < n - j + j)))
    omega
theorem partB_down (W : IsLead n bd w) (hi : i ≤ n) : partB n w i j (n - i + 1, n - j) = w (n - i + 1, n - j) := by
  unfold partB
  by_cases h : n - i + 1 ≤ n
  · exact if_pos (by show n - i + 1 ≤ n ∧ n - j ≤ n ∧ (n < n - i + 1 + i ∨ _); omega)
  · rw [if_neg (by show ¬ (n - i + 1 ≤ n ∧ _); omega), W.out _ (by show ¬ (n - i + 1 ≤ n ∧ _); omega)]
theorem partB_right (W : IsLead n bd w) (hi : i ≤ n) (hj : j ≤ n) : partB n w i j (n - i, n - j + 1) = w (n - i, n - j + 1) := by
  unfold partB
  by_cases h : n - j + 1 ≤ n
  · exact if_pos (by show n - i ≤ n ∧ n - j + 1 ≤ n ∧ (n < n - i + i ∨ (n - i + i = n ∧ n < n - j + 1 + j)); omega)
  · rw [if_neg (by show ¬ (n - i ≤ n ∧ n - j + 1 ≤ n ∧ _); omega), W.out _ (by show ¬ (n - i ≤ n ∧ n - j + 1 ≤ n); omega)]
end
abbrev N_law_leading : List Str := ["_law_many", "_law_bad_here", "_law_found", "_law_one_here", "_law_other", "_law_on"]
theorem sc_law_leading : FnScope N_law_leading ["_law_many", "_law_bad_here"] (defScope s_law_leading) := ⟨rfl, rfl, rfl, by decide +kernel, rfl, by decide +kernel, by decide +kernel⟩
theorem ok_law_leading (T : Top K mg) : Cal P w K mg base 1 "_law_leading" (spP (A := Nat × List (Nat × Nat) × Unit) (fun (n, _, _) => n ≤ 7) fun (n, bd, _) => Bd.mk (leadF n bd)) := by
  obtain ⟨fd, Fd, b⟩ := T.f_law_leading
  refine cal_of Fd T.g_law_leading b sc_law_leading rfl fun cdv Ar outer s H vs Q E hr F0 args e0 ha hp q => ?_
  have hu := hu_of hr
  have hu64 : (cxOf CX0 P w K mg base N_law_leading "_law_leading" (defScope s_law_leading) (He.ga K "_law_leading") cdv Ar outer s H E).nox.A.units + 64 < PySem.cLine := by
    have := hr.un
    exact Nat.lt_of_le_of_lt (Nat.add_le_add_left (by omega) _) this
  have hu65 : (cxOf CX0 P w K mg base N_law_leading "_law_leading" (defScope s_law_leading) (He.ga K "_law_leading") cdv Ar outer s H E).nox.A.units + 65 < PySem.cLine := by
    have := hr.un
    exact Nat.lt_of_le_of_lt (Nat.add_le_add_left (by omega) _) this
  refine ⟨_, (pss_cons (ps_set (i := 2) sc_law_leading.nd rfl (by first | exact Or.inl rfl | exact Or.inr rfl) pe_dnewT)
    (pss_cons (ps_for PassesOwn.never rfl (pi_range3 (by rfl) T.m_range (pa_cons (pv 0) (pa_cons (pe_un un_neg pe_int) (pa_cons (pe_un un_neg pe_int) pa_nil)))) (pg_name (i := 3) sc_law_leading.nd rfl (by first | exact Or.inl rfl | exact Or.inr rfl)) (pss_one (ps_for PassesOwn.never rfl (pi_range3 (by rfl) T.m_range (pa_cons (pv 0) (pa_cons (pe_un un_neg pe_int) (pa_cons (pe_un un_neg pe_int) pa_nil)))) (pg_name (i := 4) sc_law_leading.nd rfl (by first | exact Or.inl rfl | exact Or.inr rfl)) (pss_cons (ps_set (i := 5) sc_law_leading.nd rfl (by first | exact Or.inl rfl | exact Or.inr rfl) (pe_or (pe_cmpR (op_eqD hu64) (pe_tup (pa_cons (pv 3) (pa_cons (pv 4) pa_nil))) (pe_tup (pa_cons (pv 0) (pa_cons (pv 0) pa_nil))) (nomark _)) (pe_or (pe_cmp (pc_din hu (pe_tup (pa_cons (pe_op op_add (pv 3) pe_int) (pa_cons (pv 4) pa_nil))) (pv 2)) rfl) (pe_one (pe_cmp (pc_din hu (pe_tup (pa_cons (pv 3) (pa_cons (pe_op op_add (pv 4) pe_int) pa_nil))) (pv 2)) rfl)))))
    (pss_one (ps_if (PW.pt (pw_and (pt_val (pv 5)) (pw_and1 (pt_cmpR (op_notInD hu65) (pe_tup (pa_cons (pv 3) (pa_cons (pv 4) pa_nil))) (pv 1) (by rfl))))) (pss_one (ps_dput hu (pv 2) (pe_tup (pa_cons (pv 3) (pa_cons (pv 4) pa_nil))) pe_bl rfl)) pss_nil))))))
    (pss_one (ps_ret (pv 2))))), ?_⟩
  obtain ⟨v1, ws1, rfl, i1, v2, ws2, rfl, i2, rfl⟩ := ha
  obtain ⟨n, bd, u_⟩ := args
  have i1 : Is F0 v1 n := i1
  have i2 : Is F0 v2 bd := i2
  have hn : n ≤ 7 := hp
  have W := leadF_is n bd
  have q : ∀ v F2 H2, Grow F0 H F2 H2 → Is F2 v (Bd.mk (leadF n bd)) → Q v H2 := q
  generalize leadF n bd = w at W q
  dsimp only [tSeq, tAsg]
  intro p h0
  have hFp : F0 p = none := ex_none e0 h0
  have gA := (Grow.refl e0).mut (o := .dT []) hFp h0
  have hHA : upd H p (.dT []) p = some (.dT []) := upd_same
  generalize upd H p (.dT []) = HA at gA hHA
  dsimp only [gName]
  refine st_loop (xs := (List.range (n + 1)).reverse) (fun i Fi σ' H' => Grow F0 H Fi H' ∧ Fi p = none ∧ ∃ kvs t3 t4 t5, H' p = some (.dT kvs) ∧ kvs.length ≤ 9 * i ∧ BdR kvs (partB n w i 0) ∧ σ' = [some v1, some v2, some (.ref p), t3, t4, t5])
    (ei_down (ea_cons (et_var rfl i1) (ea2 (et_neg et_int) (et_neg et_int))) (by omega)) gA.fh (fun F2 H2 g2 => ⟨gA.trans g2, g2.off hFp hHA, [], none, none, none, g2.hh _ _ hHA, Nat.zero_le _, by rw [partB_zero]; exact fun _ => rfl, rfl⟩) ?_ ?_
  · rintro N i x Fi σ' H' v3 F2 H2 hx e2 ⟨gi, hFi, kvs, t3, t4, t5, hHi, hki, hwi, rfl⟩ g2 i3 k
    obtain ⟨rfl, hin⟩ := down_at hx
    have i1 := Rep.mono (e2.trans g2.ff) i1
    have i2 := Rep.mono (e2.trans g2.ff) i2
    refine st_loop (xs := (List.range (n + 1)).reverse) (fun j Fj σ' H' => Grow F0 H Fj H' ∧ Fj p = none ∧ ∃ kvs t4 t5, H' p = some (.dT kvs) ∧ kvs.length ≤ 9 * i + j ∧ BdR kvs (partB n w i j) ∧ σ' = [some v1, some v2, some (.ref p), some v3, t4, t5])
      (ei_down (ea_cons (et_var rfl i1) (ea2 (et_neg et_int) (et_neg et_int))) (by omega)) g2.fh (fun F3 H3 g3 => ⟨gi.trans (g2.trans g3), g3.off (g2.off hFi hHi) (g2.hh _ _ hHi), kvs, t4, t5, g3.hh _ _ (g2.hh _ _ hHi), hki, hwi, rfl⟩) ?_ ?_
    · rintro N2 j y Fj σ' H' v4 F3 H3 hy e3 ⟨gj, hFj, kvs, t4, t5, hHj, hkj, hwj, rfl⟩ g3 i4 k2
      obtain ⟨rfl, hjn⟩ := down_at hy
      have i1 := Rep.mono (e3.trans g3.ff) i1
      have i2 := Rep.mono (e3.trans g3.ff) i2
      have i3 := Rep.mono (e3.trans g3.ff) i3
      have hF3 := g3.off hFj hHj
      have hH3 := g3.hh _ _ hHj
      have eu : Ex F3 (upd F3 p (.dT kvs)) := ex_upd hF3
      have jd : Is (upd F3 p (.dT kvs)) (.ref p) (Bd.mk (partB n w i j)) := ⟨p, kvs, rfl, upd_same, hwj⟩
      dsimp only [gName, tSeq, tAsg]
      refine borrow (x := decide ((n - i, n - j) = (n, n)) || (partB n w i j (n - i + 1, n - j) || partB n w i j (n - i, n - j + 1))) (et_orV (et_eqC (et_pair (et_var rfl (Rep.mono eu i3)) (et_var rfl (Rep.mono eu i4))) (et_pair (et_var rfl (Rep.mono eu i1)) (et_var rfl (Rep.mono eu i1)))) fun _ =>
        et_orV (et_inB (w := Bd.mk (partB n w i j)) (c := (n - i + 1, n - j)) (et_pair (et_addN (et_var rfl (Rep.mono eu i3)) (et_nat (i := 1) (n := 1))) (et_var rfl (Rep.mono eu i4))) (et_var rfl jd)) fun _ =>
          et_inB (w := Bd.mk (partB n w i j)) (c := (n - i, n - j + 1)) (et_pair (et_var rfl (Rep.mono eu i3)) (et_addN (et_var rfl (Rep.mono eu i4)) (et_nat (i := 1) (n := 1)))) (et_var rfl jd)) g3.fh hF3 hH3 (fun _ z => by cases z) fun v5 F4 H4 g4 hF4 hH4 i5 => ?_
      rw [partB_down W hin, partB_right W hin hjn] at i5
      have i1 := Rep.mono g4.ff i1
      have i2 := Rep.mono g4.ff i2
      have i3 := Rep.mono g4.ff i3
      have i4 := Rep.mono g4.ff i4
      have hst := W.step (n - i, n - j) (Nat.sub_le _ _) (Nat.sub_le _ _)
      refine st_if (b := w (n - i, n - j)) (EB.to (eb_and (eb_B (et_var rfl i5)) fun _ => eb_test (et_notInC (et_pair (x := n - i) (y := n - j) (et_var rfl i3) (et_var rfl i4)) (et_var rfl i2))) hst.symm) g4.fh (fun hb F5 H5 g5 => ?_) fun hb F5 H5 g5 => ?_
      · have hF5 := g5.off hF4 hH4
        have hH5 := g5.hh _ _ hH4
        have i3 := Rep.mono g5.ff i3
        have i4 := Rep.mono g5.ff i4
        refine st_putB (c := (n - i, n - j)) (x := true) et_bl (raw_var rfl) (et_pair (et_var rfl i3) (et_var rfl i4)) g5.fh hF5 hH5 (by omega) fun v F6 H6 g6 hF6 hH6 iv => ?_
        have g7 := (gj.trans (g3.trans (g4.trans (g5.trans g6)))).mut hF6 h0 (o := .dT (putK kvs (kC (n - i, n - j)) v))
        refine k2 F6 _ _ (g3.ff.trans (g4.ff.trans (g5.ff.trans g6.ff))) g7.fh ⟨g7, hF6, _, _, _, upd_same, Nat.le_trans (length_putK _ _ _) (by omega), ?_, rfl⟩
        have hbp := bd_put hwj (n - i, n - j) v
        intro d
        rw [hbp d, partB_next hin hjn, hb]
        show (decide (d = (n - i, n - j)) || partB n w i j d) = _
        by_cases e : d = (n - i, n - j)
        · rw [if_pos e, decide_eq_true e]; rfl
        · rw [if_neg e, decide_eq_false e]; rfl
      · refine k2 F5 _ _ (g3.ff.trans (g4.ff.trans g5.ff)) g5.fh ⟨gj.trans (g3.trans (g4.trans g5)), g5.off hF4 hH4, kvs, _, _, g5.hh _ _ hH4, by omega, ?_, rfl⟩
        intro d
        rw [hwj d, partB_next hin hjn, hb]
        by_cases e : d = (n - i, n - j)
        · rw [if_pos e, e]
          rcases partB_at (n := n) (w := w) (i := i) (j := j) with h | h
          · exact h
          · omega
        · rw [if_neg e]
    rintro Fj σ' H' e3 e4 ⟨gj, hFj, kvs, t4, t5, hHj, hkj, hwj, rfl⟩
    rw [List.length_reverse, List.length_range] at hkj hwj
    rw [partB_row] at hwj
    exact k Fj _ _ (g2.ff.trans e3) e4 ⟨gj, hFj, kvs, some v3, t4, t5, hHj, by omega, hwj, rfl⟩
  rintro Fi σ' H' e2 e3 ⟨gi, hFi, kvs, t3, t4, t5, hHi, hki, hwi, rfl⟩
  rw [List.length_reverse, List.length_range, partB_end W] at hwi
  exact ⟨.ref p, rfl, q _ _ _ (gi.frz hFi h0 hHi) ⟨p, kvs, rfl, upd_same, hwi⟩⟩

end
end LT
/-! ## W17 -/
set_option Elab.async false
set_option linter.all false
set_option maxRecDepth 100000
set_option maxHeartbeats 4000000
namespace LT
open PySem PySem.Spec PyProof.Rows L2
section
variable {P : Program} {w : World} {K : PySem.W.Frag} {mg : Str → Option Value} {base : Heap}
/-! ### the law's least plan -/
theorem all2_int {G : Hp} (A : List Int) : All2 (Rep.is G) (A.map V.int) A := ⟨by rw [List.length_map], fun i a b h1 h2 => by
  rw [List.getElem?_map, h2] at h1
  exact (Option.some.inj h1).symm⟩
structure Half (ms A : List Int) : Prop where
  own : ∀ (j : Nat) m y, ms[j]? = some m → A[j]? = some y → m ≤ y
  up : ∀ (j : Nat) y z, A[j]? = some y → A[j + 1]? = some z → y ≤ z
theorem Half.nil {ms : List Int} : Half ms [] := ⟨fun j m y _ h => by simp at h, fun j y z h => by simp at h⟩
theorem Half.snoc {ms A : List Int} {x : Int} (h : Half ms A) (h1 : ∀ m, ms[A.length]? = some m → m ≤ x) (h2 : ∀ (i : Nat) y, A.length = i + 1 → A[i]? = some y → y ≤ x) : Half ms (A ++ [x]) where
  own j m y e1 e2 := by
    rcases snoc_at e2 with e2 | ⟨rfl, rfl⟩
    · exact h.own j m y e1 e2
    · exact h1 m e1
  up j y z e1 e2 := by
    rcases snoc_at e2 with e2 | ⟨hj, rfl⟩
    · have hj := (List.getElem?_eq_some_iff.mp e2).1
      rw [List.getElem?_append_left (by omega)] at e1
      exact h.up j y z e1 e2
    · rw [List.getElem?_append_left (by omega)] at e1
      exact h2 j y (by omega) e1
structure LawOk (n : Nat) (ps : List Int) (l : List Bool) : Prop where
  lab : ∀ (k : Nat) c, c ∈ bad ps → l[k]? = some false → c.2 = (cellAt l k).2 + 1 → lfLaw l c = true → c.1 < (cellAt l k).1
  til : ∀ (k : Nat) c, c ∈ bad ps → l[k]? = some true → c.1 = (cellAt l k).1 + 1 → lfLaw l c = false → c.2 < (cellAt l k).2
section
variable {σ : St} {F H : Hp}
theorem sl_last_raw {i : Nat} {l : Addr} {M : List Int} {Q : VK} (hs : σ[i]? = some (some (.ref l))) (hl : H l = some (.lst (M.map V.int))) (hF : Ex F H) (k : ∀ v F2 H2, Grow F H F2 H2 → Is F2 v (lastL M) → Q v H2) :
    tSl (rSlL K) (tVar i) (tPart (tUn (rU fun i => .int (-i)) (tC (.int 1)))) tNoPart σ H Q :=
  ⟨.ref l, hs, 1, rfl, _, rfl, l, M.map V.int, rfl, SqL.of hl, fun p hp => by
    have e0 : cutV (M.map V.int) (some (-1)) none = (lastL M).map V.int := by
      have h1 : HT.sIx (M.map V.int).length 0 (some (-1)) = M.length - 1 := by
        unfold HT.sIx
        show (if (-1 : Int) < 0 then _ else _) = _
        rw [if_pos (by decide), List.length_map]
        omega
      unfold cutV
      rw [h1, HT.sIx_none, List.length_map]
      unfold lastL
      rw [← List.map_drop]
      exact List.take_of_length_le (by rw [List.length_map, List.length_drop]; omega)
    have e1 : cutV (M.map V.int) (some (-(1 : Int))) none = (lastL M).map V.int := e0
    rw [e1]
    exact k _ _ _ (.new hF hp) ⟨p, _, rfl, upd_same, all2_int _⟩⟩
theorem et_rawT {i k : Nat} {j : Int} {xs : List V} {b : Addr} {v : V} {α : Type} [Rep α] {x : α} (hs : σ[i]? = some (some (.ref b))) (hF : F b = some (.tup xs)) (hx : xs[k]? = some v) (hj : j = (k : Int)) (iv : Is F v x) : ET (tOp (rIx K) (tVar i) (tC (.int j))) σ F x := fun H e Q q =>
  ⟨_, hs, .inr (.inl ⟨b, xs, (k : Int), v, rfl, by rw [hj], SqT.of (e _ _ hF), atI_of hx, q v F H (.refl e) iv⟩)⟩
end
abbrev N_law_least_plan : List Str := ["_law_book_here", "_law_label", "_law_till", "_law_gap", "_law_order", "_law_plan_here", "_law_moments_here", "_law_k", "_law_mine", "_law_at", "_law_some", "_law_one_here", "_law_other", "_law_first", "_law_late"]
theorem sc_law_least_plan : FnScope N_law_least_plan ["_law_book_here", "_law_label", "_law_till", "_law_gap", "_law_order"] (defScope s_law_least_plan) := ⟨rfl, rfl, rfl, by decide +kernel, rfl, by decide +kernel, by decide +kernel⟩
theorem ok_law_least_plan (T : Top K mg) : Cal P w K mg base 3 "_law_least_plan" (spR (A := Dr × Pr × Pr × Pr × Od × Unit) (fun (d, _, _, _, o, _) => d.2.length ≤ 7 ∧ IsOrd d.2.length o.l ∧ LawOk d.2.length (psD d) o.l) fun (d, _, _, _, o, _) F2 v => ∃ pl : Pln, Is F2 v pl ∧ OkSent (msD d) pl.1 ∧ OkSent (msD d) pl.2) := by
  obtain ⟨fd, Fd, b⟩ := T.f_law_least_plan
  refine cal_of Fd T.g_law_least_plan b sc_law_least_plan rfl fun cdv Ar outer s H vs Q E hr F0 args e0 ha hp q => ?_
  have hu := hu_of hr
  refine ⟨_, (pss_cons (ps_par (i := 5) (j := 6) (by rfl) sc_law_least_plan.nd rfl rfl (by decide) rfl rfl (pa_cons (pe_tup (pa_cons (pe_lst pa_nil) (pa_cons (pe_lst pa_nil) pa_nil))) (pa_cons (pe_cal (ok_law_moments T) hr (by decide) rfl (pa_cons (pv 0) pa_nil)) pa_nil)) (by rfl))
    (pss_cons (ps_for PassesOwn.never rfl (pi_range1 (by rfl) T.m_range (pa_cons (pe_callB call_len (by rfl) T.m_len (by decide +kernel) (pa_cons (pv 4) pa_nil)) pa_nil)) (pg_name (i := 7) sc_law_least_plan.nd rfl (by first | exact Or.inl rfl | exact Or.inr rfl)) (pss_cons (ps_set (i := 8) sc_law_least_plan.nd rfl (by first | exact Or.inl rfl | exact Or.inr rfl) (pe_ix ix_seq (pv 5) (pe_callTy call_int1 (by rfl) T.m_int (by decide +kernel) (pa_cons (pe_cmpR op_eq (pe_ix ix_seq (pv 4) (pv 7) (fun _ _ => rfl)) pe_str (nomark _)) pa_nil)) (fun _ _ => rfl)))
    (pss_cons (ps_set (i := 9) sc_law_least_plan.nd rfl (by first | exact Or.inl rfl | exact Or.inr rfl) (pe_callB call_len_seq (by rfl) T.m_len (by decide +kernel) (pa_cons (pv 8) pa_nil)))
    (pss_cons (ps_set (i := 10) sc_law_least_plan.nd rfl (by first | exact Or.inl rfl | exact Or.inr rfl) (pe_op op_cat (pe_lst (pa_cons (pe_ix ix_seq (pv 6) (pv 9) (fun _ _ => rfl)) pa_nil)) (pe_slice sl_list (pv 8) (po_some (pe_un un_neg pe_int)) po_none)))
    (pss_cons (ps_for PassesOwn.never rfl (pi_list (pe_cal (ok_law_bad T) hr (by decide) rfl (pa_cons (pv 0) pa_nil))) (pg_tup rfl (pgs_cons (pg_name (i := 11) sc_law_least_plan.nd rfl (by first | exact Or.inl rfl | exact Or.inr rfl)) (pgs_cons (pg_name (i := 12) sc_law_least_plan.nd rfl (by first | exact Or.inl rfl | exact Or.inr rfl)) pgs_nil))) (pss_cons (ps_set (i := 13) sc_law_least_plan.nd rfl (by first | exact Or.inl rfl | exact Or.inr rfl) (pe_cal (ok_law_label_first T) hr (by decide) rfl (pa_cons (pv 4) (pa_cons (pe_tup (pa_cons (pv 11) (pa_cons (pv 12) pa_nil))) pa_nil))))
    (pss_cons (ps_if (PW.pt (pw_and (pt_cmpR op_eq (pe_ix ix_seq (pv 4) (pv 7) (fun _ _ => rfl)) pe_str (nomark _)) (pw_and (pt_cmpR op_eq (pv 12) (pe_op op_add (pv 9) pe_int) (nomark _)) (pw_and1 (pt_val (pv 13)))))) (pss_cons (ps_set (i := 14) sc_law_least_plan.nd rfl (by first | exact Or.inl rfl | exact Or.inr rfl) (pe_op op_sub (pe_op op_add (pe_ix ix_seq (pv 1) pe_int (fun _ _ => rfl)) (pe_ix ix_seq (pv 3) pe_int (fun _ _ => rfl))) (pe_ix ix_seq (pv 2) pe_int (fun _ _ => rfl))))
    (pss_one (ps_expr (pe_bm PySem.F.plainAttrs_list PySem.F.slot_list_append PySem.F.type_list_append mt_append (pv 10) (pa_cons (pe_op op_add (pe_op op_add (pe_ix ix_seq (pe_ix ix_seq (pv 5) pe_int (fun _ _ => rfl)) (pv 11) (fun _ _ => rfl)) (pv 14)) pe_int) pa_nil))))) pss_nil)
    (pss_one (ps_if (PW.pt (pw_and (pt_cmpR op_eq (pe_ix ix_seq (pv 4) (pv 7) (fun _ _ => rfl)) pe_str (nomark _)) (pw_and (pt_cmpR op_eq (pv 11) (pe_op op_add (pv 9) pe_int) (nomark _)) (pw_and1 (pt_not (pt_val (pv 13))))))) (pss_cons (ps_set (i := 14) sc_law_least_plan.nd rfl (by first | exact Or.inl rfl | exact Or.inr rfl) (pe_op op_sub (pe_op op_sub (pe_ix ix_seq (pv 2) pe_int (fun _ _ => rfl)) (pe_ix ix_seq (pv 1) pe_int (fun _ _ => rfl))) (pe_ix ix_seq (pv 3) pe_int (fun _ _ => rfl))))
    (pss_one (ps_expr (pe_bm PySem.F.plainAttrs_list PySem.F.slot_list_append PySem.F.type_list_append mt_append (pv 10) (pa_cons (pe_op op_add (pe_op op_add (pe_ix ix_seq (pe_ix ix_seq (pv 5) pe_int (fun _ _ => rfl)) (pv 12) (fun _ _ => rfl)) (pv 14)) pe_int) pa_nil))))) pss_nil)))))
    (pss_one (ps_expr (pe_bm PySem.F.plainAttrs_list PySem.F.slot_list_append PySem.F.type_list_append mt_append (pv 8) (pa_cons (pe_callB (cr_max rfl) (by rfl) T.m_max (by decide +kernel) (pa_cons (pv 10) pa_nil)) pa_nil)))))))))
    (pss_one (ps_ret (pv 5))))), ?_⟩
  obtain ⟨v1, ws1, rfl, i1, v2, ws2, rfl, i2, v3, ws3, rfl, i3, v4, ws4, rfl, i4, v5, ws5, rfl, i5, rfl⟩ := ha
  obtain ⟨d, lb, tl, gp, o, u_⟩ := args
  have i1 : Is F0 v1 d := i1
  have i2 : Is F0 v2 lb := i2
  have i3 : Is F0 v3 tl := i3
  have i4 : Is F0 v4 gp := i4
  have i5 : Is F0 v5 o := i5
  obtain ⟨hd, ho, hL⟩ : d.2.length ≤ 7 ∧ IsOrd d.2.length o.l ∧ LawOk d.2.length (psD d) o.l := hp
  have q : ∀ v F2 H2, Grow F0 H F2 H2 → (∃ pl : Pln, Is F2 v pl ∧ OkSent (msD d) pl.1 ∧ OkSent (msD d) pl.2) → Q v H2 := q
  have hol := ho.len
  have hpl := psD_len d
  have hbl := bad_len (ps := psD d) (by omega)
  have hml : (msD d).length = d.2.length := by unfold msD; rw [List.length_map]
  dsimp only [tSeq, tPar, tTup, tCons, tNil]
  refine mk_lst (α := Int) (xs := []) eas_nil (by simp) e0 fun l0 vs0 F1 H1 g1 hn0 hz0 hl0 ha0 => ?_
  have hv0 : vs0 = [] := List.eq_nil_of_length_eq_zero (by rw [ha0.len]; rfl)
  subst hv0
  refine mk_lst (α := Int) (xs := []) eas_nil (by simp) g1.fh fun l1 vs1 F2 H2 g2 hn1 hz1' hl1 ha1 => ?_
  have hv1 : vs1 = [] := List.eq_nil_of_length_eq_zero (by rw [ha1.len]; rfl)
  subst hv1
  have h01 : l0 ≠ l1 := fun z => by rw [← z, hl0] at hz1'; cases hz1'
  have hz1 : H l1 = none := ex_none g1.hh hz1'
  have hn0 := g2.off hn0 hl0
  have hl0 := g2.hh _ _ hl0
  have gA := g1.trans g2
  refine ⟨(by decide : 2 ≤ sizeLine), fun tp htp => ?_⟩
  have gB := gA.trans (.new (o := .tup [.ref l0, .ref l1]) gA.fh htp)
  have ht0 : l0 ≠ tp := fun z => by rw [← z, hl0] at htp; cases htp
  have ht1 : l1 ≠ tp := fun z => by rw [← z, hl1] at htp; cases htp
  have hFt : upd F2 tp (.tup [.ref l0, .ref l1]) tp = some (.tup [.ref l0, .ref l1]) := upd_same
  have hf0 : upd F2 tp (.tup [.ref l0, .ref l1]) l0 = none := by rw [upd_ne ht0]; exact hn0
  have hf1 : upd F2 tp (.tup [.ref l0, .ref l1]) l1 = none := by rw [upd_ne ht1]; exact hn1
  have hh0 : upd H2 tp (.tup [.ref l0, .ref l1]) l0 = some (.lst []) := by rw [upd_ne ht0]; exact hl0
  have hh1 : upd H2 tp (.tup [.ref l0, .ref l1]) l1 = some (.lst []) := by rw [upd_ne ht1]; exact hl1
  have e3 : Ex F0 (upd F2 tp (.tup [.ref l0, .ref l1])) := gB.ff
  generalize upd F2 tp (.tup [.ref l0, .ref l1]) = F3 at *
  generalize upd H2 tp (.tup [.ref l0, .ref l1]) = H3 at *
  have i1 := Rep.mono e3 i1
  have i2 := Rep.mono e3 i2
  have i3 := Rep.mono e3 i3
  have i4 := Rep.mono e3 i4
  have i5 := Rep.mono e3 i5
  refine et_call (args := (d, ())) (ea1 (et_var rfl i1)) hd H3 gB.fh _ fun v7 F4 H4 g4 i7 => ?_
  have i7 : Is F4 v7 (msD d) := i7
  refine ⟨.ref tp, v7, rfl, ?_⟩
  have gC := gB.trans g4
  have hf0 := g4.off hf0 hh0
  have hf1 := g4.off hf1 hh1
  have hh0 := g4.hh _ _ hh0
  have hh1 := g4.hh _ _ hh1
  have hFt := g4.ff _ _ hFt
  have i1 := Rep.mono g4.ff i1
  have i2 := Rep.mono g4.ff i2
  have i3 := Rep.mono g4.ff i3
  have i4 := Rep.mono g4.ff i4
  have i5 := Rep.mono g4.ff i5
  refine st_loop (xs := List.range o.l.length) (fun k Fi σ' H' => Ex F4 Fi ∧ Grow F0 H Fi H' ∧ Fi l0 = none ∧ Fi l1 = none ∧ ∃ A B t7 t8 t9 t10 t11 t12 t13 t14, H' l0 = some (.lst (A.map V.int)) ∧ H' l1 = some (.lst (B.map V.int)) ∧ A.length = (cellAt o.l k).1 ∧ B.length = (cellAt o.l k).2 ∧ Half (msD d) A ∧ Half (msD d) B ∧
      σ' = [some v1, some v2, some v3, some v4, some v5, some (.ref tp), some v7, t7, t8, t9, t10, t11, t12, t13, t14])
    (ei_rngN (ea1 (et_lenO (et_var rfl i5) (by omega))) (by omega)) gC.fh (fun F5 H5 g5 => ⟨g5.ff, gC.trans g5, g5.off hf0 hh0, g5.off hf1 hh1, [], [], none, none, none, none, none, none, none, none, g5.hh _ _ hh0, g5.hh _ _ hh1, rfl, rfl, .nil, .nil, rfl⟩) ?_ ?_
  · rintro N k x Fi σ' H' vk F5 H5 hx e5 ⟨e45, gi, hf0, hf1, A, B, t7, t8, t9, t10, t11, t12, t13, t14, hh0, hh1, hA, hB, hhA, hhB, rfl⟩ g5 ik kk
    have hkl := (List.getElem?_eq_some_iff.mp hx).1
    rw [List.length_range] at hkl
    rw [List.getElem?_range hkl] at hx
    have hxk : k = x := Option.some.inj hx
    subst hxk
    have eb : o.l[k]? = some (o.l.getD k true) := getD_get hkl
    generalize o.l.getD k true = bit at eb
    have hF5t := (e45.trans g5.ff) _ _ hFt
    have hf0 := g5.off hf0 hh0
    have hf1 := g5.off hf1 hh1
    have hh0 := g5.hh _ _ hh0
    have hh1 := g5.hh _ _ hh1
    have i1 := Rep.mono (e45.trans g5.ff) i1
    have i2 := Rep.mono (e45.trans g5.ff) i2
    have i3 := Rep.mono (e45.trans g5.ff) i3
    have i4 := Rep.mono (e45.trans g5.ff) i4
    have i5 := Rep.mono (e45.trans g5.ff) i5
    have i7 := Rep.mono (e45.trans g5.ff) i7
    have gi := gi.trans g5
    dsimp only [gName, tSeq, tAsg, tOp]
    /- mine -/
    refine ⟨.ref tp, rfl, ?_⟩
    refine et_intB (et_isT (et_ixO (et_var rfl i5) (et_var rfl ik) eb (by omega))) H5 gi.fh _ fun w F6 H6 g6 iw => ?_
    have iw : w = .int (((if (!bit) = true then 1 else 0) : Nat) : Int) := iw
    have gi := gi.trans g6
    have hF6t := g6.ff _ _ hF5t
    have hf0 := g6.off hf0 hh0
    have hf1 := g6.off hf1 hh1
    have hh0 := g6.hh _ _ hh0
    have hh1 := g6.hh _ _ hh1
    have i1 := Rep.mono g6.ff i1
    have i2 := Rep.mono g6.ff i2
    have i3 := Rep.mono g6.ff i3
    have i4 := Rep.mono g6.ff i4
    have i5 := Rep.mono g6.ff i5
    have i7 := Rep.mono g6.ff i7
    have ik := Rep.mono g6.ff ik
    obtain ⟨mi, M, hmi, hM⟩ : ∃ (mi : Addr) (M : List Int), mi = (if bit = true then l0 else l1) ∧ M = (if bit = true then A else B) := ⟨_, _, rfl, rfl⟩
    have hxs : ([.ref l0, .ref l1] : List V)[(if (!bit) = true then 1 else 0 : Nat)]? = some (.ref mi) := by
      subst hmi
      cases bit <;> rfl
    refine .inr (.inl ⟨tp, [.ref l0, .ref l1], _, .ref mi, rfl, iw, SqT.of (gi.fh _ _ hF6t), atI_of hxs, ?_⟩)
    have hfm : F6 mi = none := by subst hmi; cases bit <;> assumption
    have hzm : H mi = none := by subst hmi; cases bit <;> assumption
    have hhm : H6 mi = some (.lst (M.map V.int)) := by subst hmi hM; cases bit <;> assumption
    have hMl : M.length = (o.l.take k).count bit := by subst hM; cases bit <;> assumption
    have hMh : Half (msD d) M := by subst hM; cases bit <;> assumption
    have hMn : M.length < d.2.length := by
      have h1 : (o.l.take (k + 1)).count bit ≤ o.l.count bit := (List.take_sublist _ _).count_le _
      rw [List.take_add_one, eb, List.count_append] at h1
      have h2 : o.l.count bit = d.2.length := by
        cases bit
        · exact ho.ts
        · exact ho.ls
      simp at h1
      omega
    /- at -/
    refine borrow (x := M.length) (et_len (et_var rfl (is_lent hfm (all2_int M)))) gi.fh hfm hhm (fun _ z => by cases z) fun v9 F7 H7 g7 hfm hhm i9 => ?_
    have gi := gi.trans g7
    have hF7t := g7.ff _ _ hF6t
    have hf0 := g7.off hf0 hh0
    have hf1 := g7.off hf1 hh1
    have hh0 := g7.hh _ _ hh0
    have hh1 := g7.hh _ _ hh1
    have i1 := Rep.mono g7.ff i1
    have i2 := Rep.mono g7.ff i2
    have i3 := Rep.mono g7.ff i3
    have i4 := Rep.mono g7.ff i4
    have i5 := Rep.mono g7.ff i5
    have i7 := Rep.mono g7.ff i7
    have ik := Rep.mono g7.ff ik
    /- some -/
    have hm0 : (msD d)[M.length]? = some ((msD d).getD M.length 0) := getD_get (by omega)
    generalize (msD d).getD M.length 0 = m0 at hm0
    refine et_lst (xs := [m0]) (eas_cons (et_ixL (et_var rfl i7) (et_var rfl i9) hm0) eas_nil) (by simp) H7 gi.fh _ fun w1 F8 H8 g8 j1 => ?_
    have gi := gi.trans g8
    have hfm := g8.off hfm hhm
    have hhm := g8.hh _ _ hhm
    refine sl_last_raw (M := M) rfl hhm gi.fh fun w2 F9 H9 g9 j2 => ?_
    have gi := gi.trans g9
    have hfm := g9.off hfm hhm
    have hhm := g9.hh _ _ hhm
    have e79 : Ex F7 F9 := g8.ff.trans g9.ff
    have hF9t := e79 _ _ hF7t
    have hf0 := g9.off (g8.off hf0 hh0) (g8.hh _ _ hh0)
    have hf1 := g9.off (g8.off hf1 hh1) (g8.hh _ _ hh1)
    have hh0 := g9.hh _ _ (g8.hh _ _ hh0)
    have hh1 := g9.hh _ _ (g8.hh _ _ hh1)
    have i1 := Rep.mono e79 i1
    have i2 := Rep.mono e79 i2
    have i3 := Rep.mono e79 i3
    have i4 := Rep.mono e79 i4
    have i5 := Rep.mono e79 i5
    have i7 := Rep.mono e79 i7
    have ik := Rep.mono e79 ik
    have i9 := Rep.mono e79 i9
    have j1 := Rep.mono g9.ff j1
    obtain ⟨a1, rfl, ha1'⟩ := is_ints j1
    obtain ⟨a2, rfl, ha2'⟩ := is_ints j2
    have hll := lastL_len M
    refine ⟨a1, a2, _, _, rfl, rfl, gi.fh _ _ ha1', gi.fh _ _ ha2', sz_le (by simp; omega), fun s hs => ?_⟩
    have hs0 : H s = none := ex_none gi.hh hs
    have hsF : F9 s = none := ex_none gi.fh hs
    have gi := gi.mut (o := .lst ([m0].map V.int ++ (lastL M).map V.int)) hsF hs0
    have hsH : upd H9 s (.lst ([m0].map V.int ++ (lastL M).map V.int)) s = some (.lst ((m0 :: lastL M).map V.int)) := by rw [upd_same]; rfl
    have n0 : l0 ≠ s := fun z => by rw [z, hs] at hh0; cases hh0
    have n1 : l1 ≠ s := fun z => by rw [z, hs] at hh1; cases hh1
    have nm : mi ≠ s := fun z => by rw [z, hs] at hhm; cases hhm
    have hh0 : upd H9 s (.lst ([m0].map V.int ++ (lastL M).map V.int)) l0 = _ := (upd_ne n0).trans hh0
    have hh1 : upd H9 s (.lst ([m0].map V.int ++ (lastL M).map V.int)) l1 = _ := (upd_ne n1).trans hh1
    have hhm : upd H9 s (.lst ([m0].map V.int ++ (lastL M).map V.int)) mi = _ := (upd_ne nm).trans hhm
    generalize upd H9 s (.lst ([m0].map V.int ++ (lastL M).map V.int)) = HS at *
    have e59 : Ex Fi F9 := g5.ff.trans (g6.ff.trans (g7.ff.trans e79))
    /- the bad cells -/
    refine st_loop (xs := bad (psD d)) (fun j Fj σ' H' => Ex F9 Fj ∧ Grow F0 H Fj H' ∧ Fj l0 = none ∧ Fj l1 = none ∧ Fj mi = none ∧ Fj s = none ∧ H' l0 = some (.lst (A.map V.int)) ∧ H' l1 = some (.lst (B.map V.int)) ∧ H' mi = some (.lst (M.map V.int)) ∧ ∃ Z t11 t12 t13 t14, H' s = some (.lst ((m0 :: Z).map V.int)) ∧ (∀ y ∈ lastL M, y ∈ Z) ∧ Z.length ≤ 1 + 2 * j ∧
        σ' = [some v1, some v2, some v3, some v4, some v5, some (.ref tp), some v7, some vk, some (.ref mi), some v9, some (.ref s), t11, t12, t13, t14])
      (ei_list (et_call (args := (d, ())) (ea1 (et_var rfl i1)) hd)) gi.fh (fun F10 H10 g10 => ⟨g10.ff, gi.trans g10, g10.off hf0 hh0, g10.off hf1 hh1, g10.off hfm hhm, g10.off hsF hsH, g10.hh _ _ hh0, g10.hh _ _ hh1, g10.hh _ _ hhm, lastL M, t11, t12, t13, t14, g10.hh _ _ hsH, fun y h => h, by omega, rfl⟩) ?_ ?_
    · rintro N2 j c Fj σ' H' vc F10 H10 hx10 e10 ⟨e9j, gj, hf0, hf1, hfm, hsF, hh0, hh1, hhm, Z, t11, t12, t13, t14, hsH, hZ, hZl, rfl⟩ g10 ic kk2
      have hcb := List.mem_of_getElem? hx10
      have hj64 := (List.getElem?_eq_some_iff.mp hx10).1
      have gj := gj.trans g10
      have hF10t := (e9j.trans g10.ff) _ _ hF9t
      have hf0 := g10.off hf0 hh0
      have hf1 := g10.off hf1 hh1
      have hfm := g10.off hfm hhm
      have hsF := g10.off hsF hsH
      have hh0 := g10.hh _ _ hh0
      have hh1 := g10.hh _ _ hh1
      have hhm := g10.hh _ _ hhm
      have hsH := g10.hh _ _ hsH
      have i2 := Rep.mono (e9j.trans g10.ff) i2
      have i3 := Rep.mono (e9j.trans g10.ff) i3
      have i4 := Rep.mono (e9j.trans g10.ff) i4
      have i5 := Rep.mono (e9j.trans g10.ff) i5
      have ik := Rep.mono (e9j.trans g10.ff) ik
      have i9 := Rep.mono (e9j.trans g10.ff) i9
      refine gt_pair gj.fh ic fun u1 u2 p1 p2 => ?_
      dsimp only [tSeq]
      refine st_set (et_call (args := (o, c, ())) (ea2 (et_var rfl i5) (et_pair (et_var rfl p1) (et_var rfl p2))) (show o.l.length ≤ 100 by omega)) gj.fh fun v13 F11 H11 g11 i13 => ?_
      have i13 : Is F11 v13 (lfLaw o.l c) := i13
      have gj := gj.trans g11
      have hF11t := g11.ff _ _ hF10t
      have hf0 := g11.off hf0 hh0
      have hf1 := g11.off hf1 hh1
      have hfm := g11.off hfm hhm
      have hsF := g11.off hsF hsH
      have hh0 := g11.hh _ _ hh0
      have hh1 := g11.hh _ _ hh1
      have hhm := g11.hh _ _ hhm
      have hsH := g11.hh _ _ hsH
      have i2 := Rep.mono g11.ff i2
      have i3 := Rep.mono g11.ff i3
      have i4 := Rep.mono g11.ff i4
      have i5 := Rep.mono g11.ff i5
      have ik := Rep.mono g11.ff ik
      have i9 := Rep.mono g11.ff i9
      have p1 := Rep.mono g11.ff p1
      have p2 := Rep.mono g11.ff p2
      have ej11 : Ex Fj F11 := g10.ff.trans g11.ff
      dsimp only [tSeq]
      refine join_nx (P := fun σ' H' => ∃ F12 Z t14, Ex F11 F12 ∧ Grow F0 H F12 H' ∧ F12 l0 = none ∧ F12 l1 = none ∧ F12 mi = none ∧ F12 s = none ∧ H' l0 = some (.lst (A.map V.int)) ∧ H' l1 = some (.lst (B.map V.int)) ∧ H' mi = some (.lst (M.map V.int)) ∧ H' s = some (.lst ((m0 :: Z).map V.int)) ∧ (∀ y ∈ lastL M, y ∈ Z) ∧ Z.length ≤ 1 + 2 * j + 1 ∧
        σ' = [some v1, some v2, some v3, some v4, some v5, some (.ref tp), some v7, some vk, some (.ref mi), some v9, some (.ref s), some u1, some u2, some v13, t14]) ?tail ?head
      case head =>
        intro N3 hN3
        refine st_if (b := (!bit) && (decide (c.2 = M.length + 1) && lfLaw o.l c)) (eb_and (eb_test (et_isT (et_ixO (et_var rfl i5) (et_var rfl ik) eb (by omega)))) fun _ => eb_and (eb_test (et_eqN (et_var rfl p2) (et_addN (et_var rfl i9) (et_nat (i := 1) (n := 1))))) fun _ => eb_B (et_var rfl i13)) gj.fh (fun hb F12 H12 g12 => ?_)
          fun _ F12 H12 g12 => hN3 _ _ ⟨F12, Z, t14, g12.ff, gj.trans g12, g12.off hf0 hh0, g12.off hf1 hh1, g12.off hfm hhm, g12.off hsF hsH, g12.hh _ _ hh0, g12.hh _ _ hh1, g12.hh _ _ hhm, g12.hh _ _ hsH, hZ, by omega, rfl⟩
        rw [Bool.and_eq_true, Bool.and_eq_true, decide_eq_true_eq] at hb
        obtain ⟨hb1, hb2, hb3⟩ := hb
        have hbit : bit = false := by revert hb1; cases bit <;> simp
        have hin : c.1 < A.length := by
          rw [hA]
          refine hL.lab k c hcb (hbit ▸ eb) ?_ hb3
          rw [hb2, hMl, hbit]
          rfl
        have gj := gj.trans g12
        have hf0 := g12.off hf0 hh0
        have hf1 := g12.off hf1 hh1
        have hfm := g12.off hfm hhm
        have hsF := g12.off hsF hsH
        have hh0 := g12.hh _ _ hh0
        have hh1 := g12.hh _ _ hh1
        have hhm := g12.hh _ _ hhm
        have hsH := g12.hh _ _ hsH
        have hF12t := g12.ff _ _ hF11t
        have i2 := Rep.mono g12.ff i2
        have i3 := Rep.mono g12.ff i3
        have i4 := Rep.mono g12.ff i4
        have p1 := Rep.mono g12.ff p1
        have p2 := Rep.mono g12.ff p2
        dsimp only [tSeq]
        refine st_set (et_sub (et_add (et_snd (et_var rfl i2)) (et_snd (et_var rfl i4))) (et_fst (et_var rfl i3))) gj.fh fun v14 F13 H13 g13 i14 => ?_
        have gj := gj.trans g13
        have hf0 := g13.off hf0 hh0
        have hf1 := g13.off hf1 hh1
        have hfm := g13.off hfm hhm
        have hsF := g13.off hsF hsH
        have hh0 := g13.hh _ _ hh0
        have hh1 := g13.hh _ _ hh1
        have hhm := g13.hh _ _ hhm
        have hsH := g13.hh _ _ hsH
        have hF13t := g13.ff _ _ hF12t
        have p1 := Rep.mono g13.ff p1
        have eu : Ex F13 (upd F13 l0 (.lst (A.map V.int))) := ex_upd hf0
        dsimp only
        refine st_appP (p := l0) (o := .lst (A.map V.int)) (l := s) (x := A.getD c.1 0 + (lb.2 + gp.2 - tl.1) + 1) (raw_var rfl) (et_add (et_add (et_ixL (xs := A) (et_rawT (k := 0) rfl (eu _ _ hF13t) rfl rfl (is_lent hf0 (all2_int A))) (et_var rfl (Rep.mono eu p1)) (getD_get hin)) (et_var rfl (Rep.mono eu i14))) et_int) gj.fh hf0 hh0 (fun _ z => by cases z) hsH (by rw [List.length_map, List.length_cons]; omega) fun y F14 H14 g14 hf0 hh0 hsH iy => ?_
        have hsF := g14.off hsF (by assumption)
        have gj := (gj.trans g14).mut (o := .lst ((m0 :: Z).map V.int ++ [y])) hsF hs0
        refine hN3 _ _ ⟨F14, Z ++ [A.getD c.1 0 + (lb.2 + gp.2 - tl.1) + 1], _, g12.ff.trans (g13.ff.trans g14.ff), gj, hf0, g14.off hf1 hh1, g14.off hfm hhm, hsF, (upd_ne n0).trans hh0, (upd_ne n1).trans (g14.hh _ _ hh1), (upd_ne nm).trans (g14.hh _ _ hhm), ?_, fun y h => List.mem_append_left _ (hZ y h), by rw [List.length_append]; show Z.length + 1 ≤ _; omega, rfl⟩
        rw [upd_same, show y = .int (A.getD c.1 0 + (lb.2 + gp.2 - tl.1) + 1) from iy]
        simp
      rintro σ2 H12 ⟨F12, Z, t14, e12, gj, hf0, hf1, hfm, hsF, hh0, hh1, hhm, hsH, hZ, hZl, rfl⟩
      have hF12t := e12 _ _ hF11t
      have i2 := Rep.mono e12 i2
      have i3 := Rep.mono e12 i3
      have i4 := Rep.mono e12 i4
      have i5 := Rep.mono e12 i5
      have ik := Rep.mono e12 ik
      have i9 := Rep.mono e12 i9
      have p1 := Rep.mono e12 p1
      have p2 := Rep.mono e12 p2
      have i13 := Rep.mono e12 i13
      refine st_if (b := bit && (decide (c.1 = M.length + 1) && !lfLaw o.l c)) (eb_and (eb_test (et_isL (et_ixO (et_var rfl i5) (et_var rfl ik) eb (by omega)))) fun _ => eb_and (eb_test (et_eqN (et_var rfl p1) (et_addN (et_var rfl i9) (et_nat (i := 1) (n := 1))))) fun _ => eb_not (eb_B (et_var rfl i13))) gj.fh (fun hb F13 H13 g13 => ?_)
        fun _ F13 H13 g13 => kk2 F13 _ H13 (ej11.trans (e12.trans g13.ff)) g13.fh ⟨e9j.trans (ej11.trans (e12.trans g13.ff)), gj.trans g13, g13.off hf0 hh0, g13.off hf1 hh1, g13.off hfm hhm, g13.off hsF hsH, g13.hh _ _ hh0, g13.hh _ _ hh1, g13.hh _ _ hhm, Z, _, _, _, _, g13.hh _ _ hsH, hZ, by omega, rfl⟩
      rw [Bool.and_eq_true, Bool.and_eq_true, decide_eq_true_eq] at hb
      obtain ⟨hbit, hb2, hb3⟩ := hb
      have hb3 : lfLaw o.l c = false := by revert hb3; cases lfLaw o.l c <;> simp
      have hin : c.2 < B.length := by
        rw [hB]
        refine hL.til k c hcb (hbit ▸ eb) ?_ hb3
        rw [hb2, hMl, hbit]
        rfl
      have gj := gj.trans g13
      have hf0 := g13.off hf0 hh0
      have hf1 := g13.off hf1 hh1
      have hfm := g13.off hfm hhm
      have hsF := g13.off hsF hsH
      have hh0 := g13.hh _ _ hh0
      have hh1 := g13.hh _ _ hh1
      have hhm := g13.hh _ _ hhm
      have hsH := g13.hh _ _ hsH
      have hF13t := g13.ff _ _ hF12t
      have i2 := Rep.mono g13.ff i2
      have i3 := Rep.mono g13.ff i3
      have i4 := Rep.mono g13.ff i4
      have p1 := Rep.mono g13.ff p1
      have p2 := Rep.mono g13.ff p2
      dsimp only [tSeq]
      refine st_set (et_sub (et_sub (et_snd (et_var rfl i3)) (et_fst (et_var rfl i2))) (et_fst (et_var rfl i4))) gj.fh fun v14 F14 H14 g14 i14 => ?_
      have gj := gj.trans g14
      have hf0 := g14.off hf0 hh0
      have hf1 := g14.off hf1 hh1
      have hfm := g14.off hfm hhm
      have hsF := g14.off hsF hsH
      have hh0 := g14.hh _ _ hh0
      have hh1 := g14.hh _ _ hh1
      have hhm := g14.hh _ _ hhm
      have hsH := g14.hh _ _ hsH
      have hF14t := g14.ff _ _ hF13t
      have p2 := Rep.mono g14.ff p2
      have eu : Ex F14 (upd F14 l1 (.lst (B.map V.int))) := ex_upd hf1
      dsimp only
      refine st_appP (p := l1) (o := .lst (B.map V.int)) (l := s) (x := B.getD c.2 0 + (tl.2 - lb.1 - gp.1) + 1) (raw_var rfl) (et_add (et_add (et_ixL (xs := B) (et_rawT (k := 1) rfl (eu _ _ hF14t) rfl rfl (is_lent hf1 (all2_int B))) (et_var rfl (Rep.mono eu p2)) (getD_get hin)) (et_var rfl (Rep.mono eu i14))) et_int) gj.fh hf1 hh1 (fun _ z => by cases z) hsH (by rw [List.length_map, List.length_cons]; omega) fun y F15 H15 g15 hf1 hh1 hsH iy => ?_
      have hsF := g15.off hsF (by assumption)
      have gj := (gj.trans g15).mut (o := .lst ((m0 :: Z).map V.int ++ [y])) hsF hs0
      have e15 : Ex F12 F15 := g13.ff.trans (g14.ff.trans g15.ff)
      refine kk2 F15 _ _ (ej11.trans (e12.trans e15)) gj.fh ⟨e9j.trans (ej11.trans (e12.trans e15)), gj, g15.off hf0 hh0, hf1, g15.off hfm hhm, hsF, (upd_ne n0).trans (g15.hh _ _ hh0), (upd_ne n1).trans hh1, (upd_ne nm).trans (g15.hh _ _ hhm), Z ++ [B.getD c.2 0 + (tl.2 - lb.1 - gp.1) + 1], _, _, _, _, ?_, fun y h => List.mem_append_left _ (hZ y h), by rw [List.length_append]; show Z.length + 1 ≤ _; omega, rfl⟩
      rw [upd_same, show y = .int (B.getD c.2 0 + (tl.2 - lb.1 - gp.1) + 1) from iy]
      simp
    rintro F10 σ' H10 e10 e10' ⟨_, gj, hf0, hf1, hfm, hsF, hh0, hh1, hhm, Z, t11, t12, t13, t14, hsH, hZ, hZl, rfl⟩
    have hMll : M.length ≤ 7 := by omega
    dsimp only
    refine st_appP (p := s) (o := .lst ((m0 :: Z).map V.int)) (l := mi) (x := mx m0 Z) (raw_var rfl) (et_max (et_var rfl (is_lent hsF (all2_int _)))) gj.fh hsF hsH (fun _ z => by cases z) hhm (by rw [List.length_map]; omega) fun y F11 H11 g11 hsF hsH hhm iy => ?_
    have hfm := g11.off hfm (by assumption)
    have gj := (gj.trans g11).mut (o := .lst (M.map V.int ++ [y])) hfm hzm
    have hcs := cellAt_succ eb
    have hnew : Half (msD d) (M ++ [mx m0 Z]) := hMh.snoc (fun m hm => by rw [hm0] at hm; rw [← Option.some.inj hm]; exact le_mx0) fun i y hl hy => le_mx (hZ y (by rw [lastL_get hy hl]; exact List.mem_singleton.mpr rfl))
    have hy : M.map V.int ++ [y] = (M ++ [mx m0 Z]).map V.int := by rw [show y = .int (mx m0 Z) from iy]; simp
    rw [hy] at gj ⊢
    have hf0' := g11.off hf0 hh0
    have hf1' := g11.off hf1 hh1
    have hh0' := g11.hh _ _ hh0
    have hh1' := g11.hh _ _ hh1
    cases bit with
    | true =>
      have hmi : mi = l0 := hmi
      have hM : M = A := hM
      subst hmi hM
      refine kk F11 _ _ (e59.trans (e10.trans g11.ff)) gj.fh ⟨e45.trans (e59.trans (e10.trans g11.ff)), gj, hf0', hf1', _, B, _, _, _, _, _, _, _, _, upd_same, (upd_ne h01.symm).trans hh1', ?_, ?_, hnew, hhB, rfl⟩
      · rw [hcs, List.length_append, hA]; rfl
      · rw [hcs, hB]; rfl
    | false =>
      have hmi : mi = l1 := hmi
      have hM : M = B := hM
      subst hmi hM
      refine kk F11 _ _ (e59.trans (e10.trans g11.ff)) gj.fh ⟨e45.trans (e59.trans (e10.trans g11.ff)), gj, hf0', hf1', A, _, _, _, _, _, _, _, _, _, (upd_ne h01).trans hh0', upd_same, ?_, ?_, hhA, hnew, rfl⟩
      · rw [hcs, hA]; rfl
      · rw [hcs, List.length_append, hB]; rfl
  rintro F5 σ' H5 e5 e5' ⟨_, g5, hf0, hf1, A, B, t7, t8, t9, t10, t11, t12, t13, t14, hh0, hh1, hA, hB, hhA, hhB, rfl⟩
  rw [List.length_range] at hA hB
  have hAl : A.length = d.2.length := by rw [hA]; unfold cellAt; rw [List.take_length]; exact ho.ls
  have hBl : B.length = d.2.length := by rw [hB]; unfold cellAt; rw [List.take_length]; exact ho.ts
  have g6 := (g5.frz hf0 hz0 hh0).frz (p := l1) (by rw [upd_ne h01.symm]; exact hf1) hz1 hh1
  have hF6t : (upd (upd F5 l0 (.lst (A.map V.int))) l1 (.lst (B.map V.int))) tp = some (.tup [.ref l0, .ref l1]) := by
    rw [upd_ne ht1.symm, upd_ne ht0.symm]
    exact e5 _ _ hFt
  refine ⟨.ref tp, rfl, q _ _ _ g6 ⟨(A, B), ⟨tp, _, _, rfl, hF6t, ⟨l0, _, rfl, by rw [upd_ne h01, upd_same], all2_int A⟩, ⟨l1, _, rfl, upd_same, all2_int B⟩⟩, ⟨by rw [hml]; exact hAl, hhA.own, hhA.up⟩, ⟨by rw [hml]; exact hBl, hhB.own, hhB.up⟩⟩⟩

end
end LT
/-! ## M1 -/
set_option Elab.async false
set_option linter.all false
set_option maxRecDepth 100000
set_option maxHeartbeats 4000000
/-! Plain law: cells of an order. -/
namespace LT
theorem cellAt_zero (l : List Bool) : cellAt l 0 = (0, 0) := by unfold cellAt; rw [List.take_zero]; rfl
theorem cellAt_sum {l : List Bool} {k : Nat} (h : k ≤ l.length) : (cellAt l k).1 + (cellAt l k).2 = k := by
  unfold cellAt
  show (l.take k).count true + (l.take k).count false = k
  rw [cnt_len, List.length_take]
  omega
theorem cellAt_mono {l : List Bool} {j k : Nat} (h : j ≤ k) : (cellAt l j).1 ≤ (cellAt l k).1 ∧ (cellAt l j).2 ≤ (cellAt l k).2 := by
  have : l.take j = (l.take k).take j := by rw [List.take_take, Nat.min_eq_left h]
  unfold cellAt
  show (l.take j).count true ≤ _ ∧ (l.take j).count false ≤ _
  rw [this]
  exact ⟨(List.take_sublist _ _).count_le _, (List.take_sublist _ _).count_le _⟩
theorem cellAt_le {l : List Bool} {k : Nat} : (cellAt l k).1 ≤ l.count true ∧ (cellAt l k).2 ≤ l.count false :=
  ⟨(List.take_sublist _ _).count_le _, (List.take_sublist _ _).count_le _⟩
theorem cellAt_all (l : List Bool) : cellAt l l.length = (l.count true, l.count false) := by unfold cellAt; rw [List.take_length]
theorem mem_cells {l : List Bool} {p : Nat × Nat} : p ∈ cellsOf l ↔ ∃ k, k ≤ l.length ∧ p = cellAt l k := by
  unfold cellsOf
  rw [List.mem_map]
  constructor
  · rintro ⟨k, hk, rfl⟩
    exact ⟨k, by have := List.mem_range.mp hk; omega, rfl⟩
  · rintro ⟨k, hk, rfl⟩
    exact ⟨k, List.mem_range.mpr (by omega), rfl⟩
theorem mv_true (c : Nat × Nat) : mv c true = (c.1 + 1, c.2) := rfl
theorem mv_false (c : Nat × Nat) : mv c false = (c.1, c.2 + 1) := rfl
theorem cellAt_app {l r : List Bool} {k : Nat} (h : k ≤ l.length) : cellAt (l ++ r) k = cellAt l k := by
  unfold cellAt
  rw [List.take_append_of_le_length h]
/-! places -/
theorem en_snoc {α : Type} (xs : List α) (y : α) : en (xs ++ [y]) = en xs ++ [(xs.length, y)] := by
  unfold en
  rw [List.mapIdx_append]
  simp
theorem places_snoc (l : List Bool) (x b : Bool) : places (l ++ [x]) b = places l b ++ (if x = b then [l.length] else []) := by
  unfold places
  rw [List.map_append, List.map_cons, List.map_nil, en_snoc, List.filter_append, List.map_append, List.length_map]
  congr 1
  by_cases h : x = b
  · rw [if_pos h, List.filter_cons, if_pos (by simpa using h)]; rfl
  · rw [if_neg h, List.filter_cons, if_neg (by simpa using h)]; rfl
theorem snoc_ind {α : Type} {P : List α → Prop} (h0 : P []) (h1 : ∀ l x, P l → P (l ++ [x])) : ∀ l, P l := by
  intro l
  have : ∀ r : List α, P r.reverse := by
    intro r
    induction r with
    | nil => exact h0
    | cons x r ih => rw [List.reverse_cons]; exact h1 _ x ih
  have h := this l.reverse
  rwa [List.reverse_reverse] at h
theorem places_len (l : List Bool) (b : Bool) : (places l b).length = l.count b := by
  revert l
  refine snoc_ind (by rfl) fun l x ih => ?_
  rw [places_snoc, List.length_append, ih, List.count_append]
  by_cases h : x = b
  · rw [if_pos h, h]; simp
  · rw [if_neg h]; simp [h]
theorem places_at (l : List Bool) (b : Bool) : ∀ (i p : Nat), (places l b)[i]? = some p → p < l.length ∧ l[p]? = some b ∧ (l.take p).count b = i := by
  revert l
  refine snoc_ind (fun i p h => by simp [places, en] at h) fun l x ih i p h => ?_
  rw [places_snoc] at h
  by_cases hi : i < (places l b).length
  · rw [List.getElem?_append_left hi] at h
    obtain ⟨h1, h2, h3⟩ := ih i p h
    refine ⟨by rw [List.length_append]; omega, by rw [List.getElem?_append_left h1]; exact h2, ?_⟩
    rw [List.take_append_of_le_length (by omega)]
    exact h3
  · rw [List.getElem?_append_right (by omega)] at h
    by_cases hx : x = b
    · rw [if_pos hx] at h
      have hj := (List.getElem?_eq_some_iff.mp h).1
      rw [List.length_singleton] at hj
      rw [show i - (places l b).length = 0 by omega] at h
      have hp : l.length = p := Option.some.inj h
      subst hp
      refine ⟨by rw [List.length_append]; simp, by rw [List.getElem?_append_right (Nat.le_refl _), Nat.sub_self, hx]; rfl, ?_⟩
      rw [List.take_append_of_le_length (Nat.le_refl _), List.take_length]
      have := places_len l b
      omega
    · rw [if_neg hx] at h
      simp at h
theorem placeOf_at {l : List Bool} {b : Bool} {m : Nat} (h1 : 1 ≤ m) (h2 : m ≤ l.count b) : placeOf l b m < l.length ∧ l[placeOf l b m]? = some b ∧ (l.take (placeOf l b m)).count b = m - 1 := by
  have hl := places_len l b
  exact places_at l b (m - 1) _ (getD_get (d := 0) (by omega))
/-! good orders -/
section
variable {n : Nat} {ps : List Int} {l : List Bool}
theorem bad_zero {c : Nat × Nat} (hg : Good n ps l) (hc : c ∈ bad ps) {k : Nat} (hk : k ≤ l.length) : cellAt l k ≠ c := fun e =>
  hg.free _ (mem_cells.mpr ⟨k, hk, rfl⟩) (e ▸ hc)
theorem lab_at {c : Nat × Nat} (ho : IsOrd n l) (hl : lf l c = true) (hcn : c.2 ≤ n) : c.1 + 1 ≤ n ∧ 1 ≤ c.2 ∧ placeOf l true (c.1 + 1) < placeOf l false c.2 ∧ c.1 < (cellAt l (placeOf l false c.2)).1 ∧ (cellAt l (placeOf l false c.2)).2 = c.2 - 1 := by
  unfold lf at hl
  rw [Bool.and_eq_true, decide_eq_true_eq, decide_eq_true_eq] at hl
  obtain ⟨h1, h2⟩ := hl
  have hp := placeOf_at (l := l) (b := false) (m := c.2) h1 (by rw [ho.ts]; exact hcn)
  have h3 : (l.take (placeOf l false c.2)).count true ≤ l.count true := (List.take_sublist _ _).count_le _
  rw [ho.ls] at h3
  have hq := placeOf_at (l := l) (b := true) (m := c.1 + 1) (by omega) (by rw [ho.ls]; omega)
  refine ⟨by omega, h1, ?_, h2, hp.2.2⟩
  refine Nat.lt_of_not_le fun hle => ?_
  have hm := (cellAt_mono (l := l) hle).1
  have e1 : (cellAt l (placeOf l true (c.1 + 1))).1 = c.1 + 1 - 1 := hq.2.2
  have e2 : (cellAt l (placeOf l false c.2)).1 = (l.take (placeOf l false c.2)).count true := rfl
  omega
/-- the till comes first: behind a place with c.2 T's, L's are fewer than c.1 -/
theorem til_k0 {c : Nat × Nat} (hg : Good n ps l) (hc : c ∈ bad ps) (hcn : c.2 ≤ n) (hl : lf l c = false) : ∃ k, k ≤ l.length ∧ (cellAt l k).2 = c.2 ∧ (cellAt l k).1 < c.1 := by
  have ho := hg.ord
  by_cases h0 : c.2 = 0
  · refine ⟨0, Nat.zero_le _, ?_, ?_⟩
    · rw [cellAt_zero, h0]
    · have hne := bad_zero hg hc (Nat.zero_le _)
      rw [cellAt_zero] at hne ⊢
      refine Nat.pos_of_ne_zero fun z => hne ?_
      exact (Prod.ext z h0).symm
  · have hp := placeOf_at (l := l) (b := false) (m := c.2) (by omega) (by rw [ho.ts]; exact hcn)
    refine ⟨placeOf l false c.2 + 1, by omega, ?_, ?_⟩
    · rw [cellAt_succ hp.2.1, mv_false]
      have : (cellAt l (placeOf l false c.2)).2 = c.2 - 1 := hp.2.2
      show (cellAt l (placeOf l false c.2)).2 + 1 = c.2
      omega
    · have hne := bad_zero hg hc (k := placeOf l false c.2 + 1) (by omega)
      rw [cellAt_succ hp.2.1, mv_false] at hne ⊢
      have e2 : (cellAt l (placeOf l false c.2)).2 = c.2 - 1 := hp.2.2
      show (cellAt l (placeOf l false c.2)).1 < c.1
      unfold lf at hl
      rw [decide_eq_true (show 0 < c.2 by omega), Bool.true_and] at hl
      have h3 : ¬ c.1 < (cellAt l (placeOf l false c.2)).1 := of_decide_eq_false hl
      have h4 : (cellAt l (placeOf l false c.2)).1 ≠ c.1 := fun z => hne (Prod.ext z (by show (cellAt l (placeOf l false c.2)).2 + 1 = c.2; omega))
      omega
theorem til_at {c : Nat × Nat} (hg : Good n ps l) (hc : c ∈ bad ps) (hc1 : c.1 ≤ n) (hcn : c.2 ≤ n) (hl : lf l c = false) :
    c.2 + 1 ≤ n ∧ 1 ≤ c.1 ∧ placeOf l false (c.2 + 1) < placeOf l true c.1 ∧ c.2 < (cellAt l (placeOf l true c.1)).2 ∧ (cellAt l (placeOf l true c.1)).1 = c.1 - 1 := by
  have ho := hg.ord
  obtain ⟨k, hk, k1, k2⟩ := til_k0 hg hc hcn hl
  have hc0 : 1 ≤ c.1 := by omega
  have hq := placeOf_at (l := l) (b := true) (m := c.1) hc0 (by rw [ho.ls]; exact hc1)
  have e1 : (cellAt l (placeOf l true c.1)).1 = c.1 - 1 := hq.2.2
  have hs := cellAt_succ hq.2.1
  have hkq : k ≤ placeOf l true c.1 := Nat.le_of_not_lt fun h => by
    have hm := (cellAt_mono (l := l) (show placeOf l true c.1 + 1 ≤ k from h)).1
    rw [hs, mv_true] at hm
    have hm : (cellAt l (placeOf l true c.1)).1 + 1 ≤ (cellAt l k).1 := hm
    omega
  have hm2 := (cellAt_mono (l := l) hkq).2
  have hne := bad_zero hg hc (k := placeOf l true c.1 + 1) (by omega)
  rw [hs, mv_true] at hne
  have h4 : (cellAt l (placeOf l true c.1)).2 ≠ c.2 := fun z => hne (Prod.ext (by show (cellAt l (placeOf l true c.1)).1 + 1 = c.1; omega) z)
  have hle := (cellAt_le (l := l) (k := placeOf l true c.1)).2
  rw [ho.ts] at hle
  have hr := placeOf_at (l := l) (b := false) (m := c.2 + 1) (by omega) (by rw [ho.ts]; omega)
  have e3 : (cellAt l (placeOf l false (c.2 + 1))).2 = c.2 + 1 - 1 := hr.2.2
  refine ⟨by omega, hc0, Nat.lt_of_not_le fun h => ?_, by omega, e1⟩
  have hm3 := (cellAt_mono (l := l) h).2
  omega
theorem bad_le {c : Nat × Nat} (hps : ps.length = n + 1) (hc : c ∈ bad ps) : c.1 ≤ n ∧ c.2 ≤ n := by
  have := mem_bad.mp hc
  omega
theorem good_pl (hps : ps.length = n + 1) (hg : Good n ps l) : PlOk n ps l where
  num b := by
    rw [places_len]
    cases b
    · exact hg.ord.ts
    · exact hg.ord.ls
  inn b m h1 h2 := (placeOf_at h1 (by
    cases b
    · rw [hg.ord.ts]; exact h2
    · rw [hg.ord.ls]; exact h2)).1
  lab c hc hl := by
    obtain ⟨h1, h2⟩ := bad_le hps hc
    obtain ⟨a1, a2, a3, _⟩ := lab_at hg.ord hl h2
    exact ⟨a1, a2, h2, a3⟩
  til c hc hl := by
    obtain ⟨h1, h2⟩ := bad_le hps hc
    obtain ⟨a1, a2, a3, _⟩ := til_at hg hc h1 h2 hl
    exact ⟨a1, a2, h1, a3⟩
theorem lfLaw_iff {c : Nat × Nat} : lfLaw l c = true ↔ ∃ k, k ≤ l.length ∧ (cellAt l k).2 < c.2 ∧ c.1 < (cellAt l k).1 := by
  unfold lfLaw
  rw [decide_eq_true_eq, List.length_pos_iff_exists_mem]
  constructor
  · rintro ⟨p, hp⟩
    rw [List.mem_filter, Bool.and_eq_true, decide_eq_true_eq, decide_eq_true_eq] at hp
    obtain ⟨k, hk, rfl⟩ := mem_cells.mp hp.1
    exact ⟨k, hk, hp.2.1, hp.2.2⟩
  · rintro ⟨k, hk, h1, h2⟩
    exact ⟨cellAt l k, List.mem_filter.mpr ⟨mem_cells.mpr ⟨k, hk, rfl⟩, by rw [Bool.and_eq_true, decide_eq_true_eq, decide_eq_true_eq]; exact ⟨h1, h2⟩⟩⟩
theorem good_law (hps : ps.length = n + 1) (hg : Good n ps l) : LawOk n ps l where
  lab k c hc hk hc2 hl := by
    obtain ⟨j, hj, h1, h2⟩ := lfLaw_iff.mp hl
    by_cases hjk : j ≤ k
    · have := (cellAt_mono (l := l) hjk).1
      omega
    · have hm := (cellAt_mono (l := l) (show k + 1 ≤ j by omega)).2
      rw [cellAt_succ hk, mv_false] at hm
      have hm : (cellAt l k).2 + 1 ≤ (cellAt l j).2 := hm
      omega
  til k c hc hk hc1 hl := by
    obtain ⟨hb1, hb2⟩ := bad_le hps hc
    have hkl := (List.getElem?_eq_some_iff.mp hk).1
    refine Nat.lt_of_not_le fun hle => ?_
    have hs := cellAt_succ hk
    have hne := bad_zero hg hc (k := k + 1) (by omega)
    rw [hs, mv_true] at hne
    have hne2 : (cellAt l k).2 ≠ c.2 := fun z => hne (Prod.ext (by show (cellAt l k).1 + 1 = c.1; omega) z)
    have hp := placeOf_at (l := l) (b := false) (m := c.2) (by omega) (by rw [hg.ord.ts]; exact hb2)
    have e2 : (cellAt l (placeOf l false c.2)).2 = c.2 - 1 := hp.2.2
    have hs2 := cellAt_succ hp.2.1
    have hkp : k + 1 ≤ placeOf l false c.2 := Nat.le_of_not_lt fun h => by
      have hm := (cellAt_mono (l := l) (show placeOf l false c.2 + 1 ≤ k + 1 by omega)).2
      rw [hs, hs2, mv_true, mv_false] at hm
      have hm : (cellAt l (placeOf l false c.2)).2 + 1 ≤ (cellAt l k).2 := hm
      omega
    have hm := (cellAt_mono (l := l) hkp).1
    rw [hs, mv_true] at hm
    have hm : (cellAt l k).1 + 1 ≤ (cellAt l (placeOf l false c.2)).1 := hm
    have hno : ¬ (c.1 < (cellAt l (placeOf l false c.2)).1) := fun h => by
      have : lfLaw l c = true := lfLaw_iff.mpr ⟨_, by omega, by omega, h⟩
      rw [hl] at this
      cases this
    have hne3 := bad_zero hg hc (k := placeOf l false c.2 + 1) (by omega)
    rw [hs2, mv_false] at hne3
    exact hne3 (Prod.ext (by show (cellAt l (placeOf l false c.2)).1 = c.1; omega) (by show (cellAt l (placeOf l false c.2)).2 + 1 = c.2; omega))
/-! leading cells -/
theorem good_lead (hg : Good n ps l) : ∀ j k, j + k = l.length → leadF n (bad ps) (cellAt l k) = true := by
  have ho := hg.ord
  have hol := ho.len
  intro j
  induction j with
  | zero =>
    intro k hk
    have hk : k = l.length := by omega
    subst hk
    rw [cellAt_all, ho.ls, ho.ts, (leadF_is n (bad ps)).step _ (Nat.le_refl _) (Nat.le_refl _)]
    have hf := hg.free (n, n) (mem_cells.mpr ⟨l.length, Nat.le_refl _, by rw [cellAt_all, ho.ls, ho.ts]⟩)
    rw [decide_eq_false hf]
    simp
  | succ j ih =>
    intro k hk
    have hkl : k < l.length := by omega
    have h1 := ih (k + 1) (by omega)
    have hx : l[k]? = some (l[k]) := List.getElem?_eq_getElem hkl
    generalize l[k] = b at hx
    rw [cellAt_succ hx] at h1
    have hle := cellAt_le (l := l) (k := k)
    rw [ho.ls, ho.ts] at hle
    rw [(leadF_is n (bad ps)).step _ hle.1 hle.2, decide_eq_false (hg.free _ (mem_cells.mpr ⟨k, by omega, rfl⟩))]
    cases b
    · rw [mv_false] at h1
      rw [h1]
      simp
    · rw [mv_true] at h1
      rw [h1]
      simp
end
/-! the plain order -/
def plN (g : Nat → Bool) (m : Nat) : List Bool := (List.range m).flatMap fun k => if g k = true then [true, false] else [false, true]
theorem plN_succ (g : Nat → Bool) (m : Nat) : plN g (m + 1) = plN g m ++ (if g m = true then [true, false] else [false, true]) := by
  unfold plN
  rw [List.range_succ, List.flatMap_append]
  simp
theorem plN_ord (g : Nat → Bool) : ∀ m, IsOrd m (plN g m)
  | 0 => ⟨rfl, rfl⟩
  | m + 1 => by
    have h := plN_ord g m
    rw [plN_succ]
    cases g m
    · exact ⟨by rw [if_neg Bool.false_ne_true, List.count_append, h.ls]; rfl, by rw [if_neg Bool.false_ne_true, List.count_append, h.ts]; rfl⟩
    · exact ⟨by rw [if_pos rfl, List.count_append, h.ls]; rfl, by rw [if_pos rfl, List.count_append, h.ts]; rfl⟩
theorem plN_cells (g : Nat → Bool) : ∀ m (p : Nat × Nat), p ∈ cellsOf (plN g m) → (∃ k, k ≤ m ∧ p = (k, k)) ∨ ∃ k, k < m ∧ p = if g k = true then (k + 1, k) else (k, k + 1)
  | 0, p, h => by
    obtain ⟨k, hk, rfl⟩ := mem_cells.mp h
    have hk : k = 0 := by have : (plN g 0).length = 0 := rfl; omega
    subst hk
    exact .inl ⟨0, Nat.le_refl _, cellAt_zero _⟩
  | m + 1, p, h => by
    have ho := plN_ord g m
    have hol := ho.len
    obtain ⟨k, hk, rfl⟩ := mem_cells.mp h
    by_cases hkm : k ≤ (plN g m).length
    · have h2 := plN_cells g m (cellAt (plN g m) k) (mem_cells.mpr ⟨k, hkm, rfl⟩)
      rw [plN_succ, cellAt_app hkm]
      rcases h2 with ⟨j, hj, e⟩ | ⟨j, hj, e⟩
      · exact .inl ⟨j, by omega, e⟩
      · exact .inr ⟨j, by omega, e⟩
    · have hl2 := (plN_ord g (m + 1)).len
      by_cases hk2 : k = (plN g (m + 1)).length
      · rw [hk2, cellAt_all, (plN_ord g (m + 1)).ls, (plN_ord g (m + 1)).ts]
        exact .inl ⟨m + 1, Nat.le_refl _, rfl⟩
      · have hk3 : k = (plN g m).length + 1 := by omega
        subst hk3
        refine .inr ⟨m, by omega, ?_⟩
        have hx : (plN g (m + 1))[(plN g m).length]? = some (g m) := by
          rw [plN_succ, List.getElem?_append_right (Nat.le_refl _), Nat.sub_self]
          cases g m <;> rfl
        rw [cellAt_succ hx]
        have e0 : cellAt (plN g (m + 1)) (plN g m).length = (m, m) := by
          rw [plN_succ, cellAt_app (Nat.le_refl _), cellAt_all, ho.ls, ho.ts]
        rw [e0]
        cases g m <;> rfl
theorem plain_good {n : Nat} {ps : List Int} (hps : ps.length = n + 1) : Good n ps (plainL ps) := by
  have e : plainL ps = plN (fun k => decide (ps.getD k 0 < ps.getD (k + 1) 0)) n := by
    unfold plainL plN
    rw [hps, Nat.add_sub_cancel]
  rw [e]
  refine ⟨plN_ord _ n, fun c hc hb => ?_⟩
  have h3 := (mem_bad.mp hb).2.2
  rcases plN_cells _ n c hc with ⟨k, _, rfl⟩ | ⟨k, _, rfl⟩
  · have h3 : ps.getD k 0 < ps.getD k 0 := h3
    omega
  · by_cases hg : ps.getD k 0 < ps.getD (k + 1) 0
    · rw [if_pos (decide_eq_true hg)] at h3
      have h3 : ps.getD (k + 1) 0 < ps.getD k 0 := h3
      omega
    · rw [if_neg (by rw [decide_eq_false hg]; exact Bool.false_ne_true)] at h3
      have h3 : ps.getD k 0 < ps.getD (k + 1) 0 := h3
      omega
theorem lead_zero {n : Nat} {ps : List Int} (hps : ps.length = n + 1) : leadF n (bad ps) (0, 0) = true := by
  have h := good_lead (plain_good hps) (plainL ps).length 0 (by omega)
  rwa [cellAt_zero] at h
/-- a drawn order, when all its cells lead -/
theorem lead_good {n : Nat} {ps : List Int} {l : List Bool} (hl : l.length = 2 * n) (h : ∀ k, k ≤ l.length → leadF n (bad ps) (cellAt l k) = true) : Good n ps l := by
  have inn : ∀ c, leadF n (bad ps) c = true → (c.1 ≤ n ∧ c.2 ≤ n) ∧ c ∉ bad ps := fun c hc => by
    by_cases hi : c.1 ≤ n ∧ c.2 ≤ n
    · refine ⟨hi, fun hm => ?_⟩
      rw [(leadF_is n (bad ps)).step c hi.1 hi.2, decide_eq_true hm] at hc
      simp at hc
    · rw [(leadF_is n (bad ps)).out c hi] at hc
      cases hc
  have h1 := (inn _ (h l.length (Nat.le_refl _))).1
  rw [cellAt_all] at h1
  have h2 := cnt_len l
  refine ⟨⟨?_, ?_⟩, fun c hc => ?_⟩
  · have h1 : l.count true ≤ n ∧ l.count false ≤ n := h1
    omega
  · have h1 : l.count true ≤ n ∧ l.count false ≤ n := h1
    omega
  · obtain ⟨k, hk, rfl⟩ := mem_cells.mp hc
    exact (inn _ (h k hk)).2
theorem lead_next {n : Nat} {ps : List Int} {c : Nat × Nat} (h : leadF n (bad ps) c = true) (hne : c.1 + c.2 < 2 * n) : leadF n (bad ps) (mv c true) = true ∨ leadF n (bad ps) (mv c false) = true := by
  by_cases hi : c.1 ≤ n ∧ c.2 ≤ n
  · rw [(leadF_is n (bad ps)).step c hi.1 hi.2, Bool.and_eq_true, Bool.or_eq_true, Bool.or_eq_true, decide_eq_true_eq] at h
    rcases h.1 with h | h | h
    · rw [h] at hne
      have hne : n + n < 2 * n := hne
      omega
    · exact .inl h
    · exact .inr h
  · rw [(leadF_is n (bad ps)).out c hi] at h
    cases h
end LT
/-! ## W18 -/
set_option Elab.async false
set_option linter.all false
set_option maxRecDepth 100000
set_option maxHeartbeats 4000000
namespace LT
open PySem PySem.Spec PyProof.Rows L2
section
variable {P : Program} {w : World} {K : PySem.W.Frag} {mg : Str → Option Value} {base : Heap}
/-! ### drawn orders and plans -/
structure Mc where
  f : Bool → Nat × Nat
instance : Rep Mc := ⟨fun F v x => ∃ a kvs, v = .ref a ∧ F a = some (.dK kvs) ∧ ∀ b, ∃ u, valV kvs (.inr (ltr b)) = some u ∧ Rep.is F u (x.f b), fun e ⟨a, kvs, h1, h2, h3⟩ => ⟨a, kvs, h1, e _ _ h2, fun b => let ⟨u, h4, h5⟩ := h3 b; ⟨u, h4, Rep.mono e h5⟩⟩⟩
section
variable {σ : St} {F H : Hp} {ta tb tL tT : TE}
theorem et_getMc {m : Mc} {b : Ltr} (h : ET ta σ F m) (h2 : ET tb σ F b) : ET (tDGet ta tb) σ F (m.f b.b) := fun H e Q k =>
  h H e _ fun v F1 H1 g1 ⟨a, kvs, hv, ha, hm⟩ => (h2.mono g1.ff) H1 g1.fh _ fun y F2 H2 g2 iy => by
    obtain ⟨u, hu, iu⟩ := hm b.b
    exact ⟨a, u, hv, .inl ⟨kvs, .inr (ltr b.b), .inl (g2.fh _ _ (g2.ff _ _ ha)), iy, hu.symm⟩, k _ F2 H2 (g1.trans g2) (Rep.mono g2.ff iu)⟩
theorem et_disp2 {cL cT : Nat × Nat} (hL : ET tL σ F cL) (hT : ET tT σ F cT) : ET (tDisp [(tC (.str "L"), tL), (tC (.str "T"), tT)]) σ F (Mc.mk fun b => if b = true then cL else cT) := fun H e Q k => fun p hp => by
  have hFp : F p = none := ex_none e hp
  have g0 := (Grow.refl e).mut (o := .dK []) hFp hp
  refine hL _ g0.fh _ fun u F1 H1 g1 iu => (hT.mono g1.ff) H1 g1.fh _ fun w F2 H2 g2 iw => ?_
  have hF2 : F2 p = none := (g1.trans g2).off hFp upd_same
  have hH2 : H2 p = some (.dK []) := (g1.trans g2).hh _ _ upd_same
  refine ⟨hH2, [(.inr "L", u), (.inr "T", w)], rfl, by simp, ?_⟩
  have g3 := ((g0.trans (g1.trans g2)).mut (o := .dK (mergeK [] [(.inr "L", u), (.inr "T", w)])) hF2 hp).frz hF2 hp upd_same
  have e3 : Ex F2 (upd F2 p (.dK (mergeK [] [(.inr "L", u), (.inr "T", w)]))) := ex_upd hF2
  refine k _ _ _ g3 ⟨p, _, rfl, upd_same, fun b => ?_⟩
  cases b
  · exact ⟨w, rfl, Rep.mono e3 iw⟩
  · exact ⟨u, rfl, Rep.mono (g2.ff.trans e3) iu⟩
end
theorem call_go {σ : St} {H : Hp} {sp : Sp} {dvs : List V} {E : XK} {t : TA} {Q : VK} (h : t σ H fun vs H1 => sp (vs ++ dvs) H1 Q E) : tCall sp dvs E t σ H Q := h
theorem lst_go {σ : St} {H : Hp} {ta : TA} {Q : VK} (h : ta σ H fun vs H1 => vs.length ≤ sizeLine ∧ ∀ p, H1 p = none → Q (.ref p) (upd H1 p (.lst vs))) : tLst ta σ H Q := h
theorem tup_go {σ : St} {H : Hp} {ta : TA} {Q : VK} (h : ta σ H fun vs H1 => vs.length ≤ sizeLine ∧ ∀ p, H1 p = none → Q (.ref p) (upd H1 p (.tup vs))) : tTup ta σ H Q := h
abbrev N_law_drawn_order : List Str := ["_law_bag_here", "_law_book_here", "_law_many", "_law_bad_here", "_law_order", "_law_cell", "_law_good", "_law_k", "_law_there", "_law_letter", "_law_sign"]
theorem sc_law_drawn_order : FnScope N_law_drawn_order ["_law_bag_here", "_law_book_here"] (defScope s_law_drawn_order) := ⟨rfl, rfl, rfl, by decide +kernel, rfl, by decide +kernel, by decide +kernel⟩
theorem ok_law_drawn_order (T : Top K mg) : Cal P w K mg base 3 "_law_drawn_order" (spB (A := Dr × Unit) (fun (d, _) => d.2.length ≤ 7) fun (d, _) F2 v => ∃ o : Od, Is F2 v o ∧ Good d.2.length (psD d) o.l) := by
  obtain ⟨fd, Fd, b⟩ := T.f_law_drawn_order
  refine cal_ofB Fd T.g_law_drawn_order b sc_law_drawn_order rfl fun cdv Ar outer s H vs Q E hr F0 bq args S0 ha hp q => ?_
  have hu := hu_of hr
  refine ⟨_, (pss_cons (ps_asg (pe_tup (pa_cons (pe_callB call_len_seq (by rfl) T.m_len (by decide +kernel) (pa_cons (pe_ix ix_seq (pv 1) pe_int (fun _ _ => rfl)) pa_nil)) (pa_cons (pe_cal (ok_law_bad T) hr (by decide) rfl (pa_cons (pv 1) pa_nil)) (pa_cons pe_str (pa_cons (pe_tup (pa_cons pe_int (pa_cons pe_int pa_nil))) pa_nil))))) (pg_tup rfl (pgs_cons (pg_name (i := 2) sc_law_drawn_order.nd rfl (by first | exact Or.inl rfl | exact Or.inr rfl)) (pgs_cons (pg_name (i := 3) sc_law_drawn_order.nd rfl (by first | exact Or.inl rfl | exact Or.inr rfl)) (pgs_cons (pg_name (i := 4) sc_law_drawn_order.nd rfl (by first | exact Or.inl rfl | exact Or.inr rfl)) (pgs_cons (pg_name (i := 5) sc_law_drawn_order.nd rfl (by first | exact Or.inl rfl | exact Or.inr rfl)) pgs_nil))))))
    (pss_cons (ps_if (pt_cmpR op_eq (pe_cal (ok_law_take T) hr (by decide) rfl (pa_cons (pv 0) (pa_cons pe_int pa_nil))) pe_int (nomark _)) (pss_one (ps_ret (pe_cal (ok_law_plain T) hr (by decide) rfl (pa_cons (pv 1) pa_nil)))) pss_nil)
    (pss_cons (ps_set (i := 6) sc_law_drawn_order.nd rfl (by first | exact Or.inl rfl | exact Or.inr rfl) (pe_cal (ok_law_leading T) hr (by decide) rfl (pa_cons (pv 2) (pa_cons (pv 3) pa_nil))))
    (pss_cons (ps_for PassesOwn.never rfl (pi_range1 (by rfl) T.m_range (pa_cons (pe_op op_mul pe_int (pv 2)) pa_nil)) (pg_name (i := 7) sc_law_drawn_order.nd rfl (by first | exact Or.inl rfl | exact Or.inr rfl)) (pss_cons (ps_set (i := 8) sc_law_drawn_order.nd rfl (by first | exact Or.inl rfl | exact Or.inr rfl) (pe_disp (pps_cons pe_str (pe_tup (pa_cons (pe_op op_add (pe_ix ix_seq (pv 5) pe_int (fun _ _ => rfl)) pe_int) (pa_cons (pe_ix ix_seq (pv 5) pe_int (fun _ _ => rfl)) pa_nil))) (pps_cons pe_str (pe_tup (pa_cons (pe_ix ix_seq (pv 5) pe_int (fun _ _ => rfl)) (pa_cons (pe_op op_add (pe_ix ix_seq (pv 5) pe_int (fun _ _ => rfl)) pe_int) pa_nil))) pps_nil)) (by rfl) (by rfl) (fun z => by cases z) (by decide)))
    (pss_cons (ps_set (i := 9) sc_law_drawn_order.nd rfl (by first | exact Or.inl rfl | exact Or.inr rfl) (pe_cal (ok_law_oneL T) hr (by decide) rfl (pa_cons (pv 0) (pa_cons (pe_lc (own := [("_law_sign", 10)]) rfl sc_law_drawn_order.nd (pi_tup (pe_tup (pa_cons pe_str (pa_cons pe_str pa_nil)))) (blkOk_by (N := N_law_drawn_order) (sc := defScope s_law_drawn_order) (own := [("_law_sign", 10)]) (by decide +kernel)) (fun _ _ _ _ _ => (pg_name (i := 10) sc_law_drawn_order.nd rfl (by first | exact Or.inl rfl | exact Or.inr rfl))) (fun _ _ _ _ _ => (pts_one (pt_cmp (pc_din hu (pe_dget hu (pv 8) (pv 10) (fun _ _ => rfl)) (pv 6))))) (fun _ _ _ _ _ => (pv 10))) pa_nil))))
    (pss_one (ps_par (i := 4) (j := 5) (by rfl) sc_law_drawn_order.nd rfl rfl (by decide) rfl rfl (pa_cons (pe_op op_add_str (pv 4) (pv 9)) (pa_cons (pe_dget hu (pv 8) (pv 9) (fun _ _ => rfl)) pa_nil)) (by rfl))))))
    (pss_one (ps_ret (pv 4))))))), ?_⟩
  obtain ⟨v1, ws1, rfl, i1, rfl⟩ := ha
  obtain ⟨d, u_⟩ := args
  have i1 : Is F0 v1 d := i1
  have hd : d.2.length ≤ 7 := hp
  have q : ∀ v F2 H2, BS bq F0 H F2 H2 → (∃ o : Od, Is F2 v o ∧ Good d.2.length (psD d) o.l) → Q v H2 := q
  have hpl := psD_len d
  dsimp only [tSeq, tAsg]
  refine tup_go ?_
  dsimp only [tCons, tNil]
  refine et_len (et_snd (K := K) (ta := tVar 1) (x := d) (et_var rfl i1)) H S0.fh _ fun w2 F1 H1 g1 k2 => ?_
  have S1 := S0.step g1
  have i1 := Rep.mono g1.ff i1
  refine et_call (args := (d, ())) (ea1 (et_var rfl i1)) hd H1 S1.fh _ fun w3 F2 H2 g2 k3 => ?_
  have k3 : Is F2 w3 (bad (psD d)) := k3
  have S2 := S1.step g2
  refine et_c (α := Od) (x := Od.mk []) od_nil H2 S2.fh _ fun w4 F3 H3 g3 k4 => ?_
  have S3 := S2.step g3
  refine et_pair (x := 0) (y := 0) (et_nat (i := 0) (n := 0)) (et_nat (i := 0) (n := 0)) H3 S3.fh _ fun w5 F3' H3' g3' k5 => ?_
  have k5 : Is F3' w5 ((0, 0) : Nat × Nat) := k5
  have S3 := S3.step g3'
  refine ⟨(by decide : 4 ≤ sizeLine), fun tp htp => ?_⟩
  have gn : Grow F3' H3' _ _ := .new (o := .tup [w2, w3, w4, w5]) S3.fh htp
  have S4 := S3.step gn
  refine ⟨tp, [w2, w3, w4, w5], rfl, SqT.of upd_same, rfl, w2, _, rfl, w3, _, rfl, w4, _, rfl, w5, [], rfl, rfl, ?_⟩
  have i1 := Rep.mono (g2.ff.trans (g3.ff.trans (g3'.ff.trans gn.ff))) i1
  have k2 := Rep.mono (g2.ff.trans (g3.ff.trans (g3'.ff.trans gn.ff))) k2
  have k3 := Rep.mono (g3.ff.trans (g3'.ff.trans gn.ff)) k3
  have k4 := Rep.mono (g3'.ff.trans gn.ff) k4
  have k5 := Rep.mono gn.ff k5
  generalize upd F3' tp (.tup [w2, w3, w4, w5]) = F4 at *
  generalize upd H3' tp (.tup [w2, w3, w4, w5]) = H4 at *
  refine st_ifT (b := bq) (fun Q q => call_b (args := ((4 : Int), ())) (BS.start S4.fh S4.off S4.bag) rfl (ea1 et_int) (okM (by decide) (by decide)) fun v F5 H5 c5 ⟨k, ik, _⟩ => q v F5 H5 k c5 ik) (fun F5 H5 c5 => ?_) fun F5 H5 c5 => ?_
  · refine st_ret (et_call (args := (d, ())) (ea1 (et_var rfl (Rep.mono c5.ff i1))) hd) c5.fh fun v F6 H6 g6 iv => q v F6 H6 ((S4.call c5).step g6) ⟨_, iv, plain_good hpl⟩
  have S5 := S4.call c5
  have k2 := Rep.mono c5.ff k2
  have k3 := Rep.mono c5.ff k3
  have k4 := Rep.mono c5.ff k4
  have k5 := Rep.mono c5.ff k5
  dsimp only [tNext, tSeq, tAsg]
  refine et_call (args := (d.2.length, bad (psD d), ())) (ea2 (et_var rfl k2) (et_var rfl k3)) hd H5 S5.fh _ fun w6 F6 H6 g6 k6 => ?_
  have k6 : Is F6 w6 (Bd.mk (leadF d.2.length (bad (psD d)))) := k6
  have S6 := S5.step g6
  have k2 := Rep.mono g6.ff k2
  have k4 := Rep.mono g6.ff k4
  have k5 := Rep.mono g6.ff k5
  dsimp only [gName]
  refine st_loop (xs := List.range (2 * d.2.length)) (fun i Fi σ' H' => Ex F6 Fi ∧ BS bq F0 H Fi H' ∧ ∃ l w4 w5 t7 t8 t9, Is Fi w4 (Od.mk l) ∧ Is Fi w5 (cellAt l i) ∧ l.length = i ∧ (∀ k, k ≤ l.length → leadF d.2.length (bad (psD d)) (cellAt l k) = true) ∧ σ' = [some (.ref bq), some v1, some w2, some w3, some w4, some w5, some w6, t7, t8, t9, none])
    (ei_rngN (ea1 ((et_mul (i := 2) (j := (d.2.length : Int)) et_int (et_var rfl k2) (Or.inl (by decide))).nat (by omega))) (by omega)) S6.fh (fun F7 H7 g7 => ⟨g7.ff, S6.step g7, [], w4, w5, none, none, none, Rep.mono g7.ff k4, by rw [cellAt_zero]; exact Rep.mono g7.ff k5, rfl, fun k hk => by
      have hk : k = 0 := by have : ([] : List Bool).length = 0 := rfl; omega
      subst hk
      rw [cellAt_zero]
      exact lead_zero hpl, rfl⟩) ?_ ?_
  · rintro N i x Fi σ' H' v F7 H7 hx e7 ⟨e67, Si, l, w4, w5, t7, t8, t9, k4, k5, hll, hld, rfl⟩ g7 iv k
    have hi := (List.getElem?_eq_some_iff.mp hx).1
    rw [List.length_range] at hi
    have S7 := Si.step g7
    have k6 := Rep.mono (e67.trans g7.ff) k6
    have k4 := Rep.mono g7.ff k4
    have k5 := Rep.mono g7.ff k5
    have hsum := cellAt_sum (l := l) (k := i) (by omega)
    have hlc := hld i (by omega)
    have hnx := lead_next hlc (by omega)
    generalize hcc : cellAt l i = c at k5 hsum hlc hnx
    dsimp only [gName, tSeq, tAsg]
    refine et_disp2 (cL := mv c true) (cT := mv c false) (et_pair (et_addN (et_fst (et_var rfl k5)) (et_nat (i := 1) (n := 1))) (et_snd (et_var rfl k5))) (et_pair (et_fst (et_var rfl k5)) (et_addN (et_snd (et_var rfl k5)) (et_nat (i := 1) (n := 1)))) H7 S7.fh _ fun w8 F8 H8 g8 k8 => ?_
    have S8 := S7.step g8
    have k4 := Rep.mono g8.ff k4
    have k6 := Rep.mono g8.ff k6
    have hmc : ∀ b : Bool, (if b = true then mv c true else mv c false) = mv c b := fun b => by cases b <;> rfl
    have k8 : Is F8 w8 (Mc.mk fun b => mv c b) := by
      have e : (fun b : Bool => if b = true then mv c true else mv c false) = fun b => mv c b := funext hmc
      rw [← e]
      exact k8
    refine call_b (args := (([Ltr.mk true, Ltr.mk false].filter fun b => leadF d.2.length (bad (psD d)) (mv c b.b)).map (fun b => b), ())) S8 rfl (ea1 (et_lcN (xs := [Ltr.mk true, Ltr.mk false]) (p := fun b => leadF d.2.length (bad (psD d)) (mv c b.b)) (f := fun b => b) (ei_tup (et_tup (eas_cons et_L (eas_cons et_T eas_nil)) (by simp))) (fun _ => rfl)
      (fun y hy F9 u e j => eb_B (et_inB (w := Bd.mk (leadF d.2.length (bad (psD d)))) (et_getMc (m := Mc.mk fun b => mv c b) (et_var rfl (Rep.mono e k8)) (et_var rfl j)) (et_var rfl (Rep.mono e k6)))) (fun y hy F9 u e j _ => et_var rfl j) (by simp))) ⟨?ne, ?le⟩ fun w9 F9 H9 c9 ⟨b, hb, k9⟩ => ?_
    case ne =>
      show List.map (fun b => b) _ ≠ []
      rw [List.map_id']
      rcases hnx with h | h
      · exact List.ne_nil_of_mem (List.mem_filter.mpr ⟨by simp, h⟩ : Ltr.mk true ∈ _)
      · exact List.ne_nil_of_mem (List.mem_filter.mpr ⟨by simp, h⟩ : Ltr.mk false ∈ _)
    case le =>
      show (List.map (fun b => b) _).length ≤ 100
      rw [List.length_map]
      exact Nat.le_trans (List.length_filter_le _ _) (by simp)
    have hbl : leadF d.2.length (bad (psD d)) (mv c b.b) = true := by
      have hb : b ∈ List.map (fun b => b) _ := hb
      rw [List.map_id'] at hb
      exact (List.mem_filter.mp hb).2
    have S9 := S8.call c9
    have k4 := Rep.mono c9.ff k4
    have k8 := Rep.mono c9.ff k8
    refine st_par (R := fun G v => Is G v (Od.mk (l ++ [b.b]))) (S := fun G v => Is G v (mv c b.b)) (et_catO (o := Od.mk l) (c := b) (et_var rfl k4) (et_var rfl k9) (show l.length < 100000 by omega)) (fun G e => et_getMc (m := Mc.mk fun b => mv c b) (et_var rfl (Rep.mono e k8)) (et_var rfl (Rep.mono e k9))) (fun e i => Rep.mono e i) S9.fh fun z1 z2 F10 H10 g10 m1 m2 => ?_
    have happ : ∀ j, j ≤ l.length → cellAt (l ++ [b.b]) j = cellAt l j := fun j hj => cellAt_app hj
    have hlast : cellAt (l ++ [b.b]) (i + 1) = mv c b.b := by
      have hxx : (l ++ [b.b])[i]? = some b.b := by rw [List.getElem?_append_right (by omega), show i - l.length = 0 by omega]; rfl
      rw [cellAt_succ hxx, happ i (by omega), hcc]
    refine k F10 _ H10 (g7.ff.trans (g8.ff.trans (c9.ff.trans g10.ff))) g10.fh ⟨e67.trans (g7.ff.trans (g8.ff.trans (c9.ff.trans g10.ff))), S9.step g10, l ++ [b.b], z1, z2, _, _, _, m1, ?_, by rw [List.length_append, hll]; rfl, fun j hj => ?_, rfl⟩
    · rw [hlast]; exact m2
    · rw [List.length_append, List.length_singleton] at hj
      by_cases hjl : j ≤ l.length
      · rw [happ j hjl]; exact hld j hjl
      · rw [show j = i + 1 by omega, hlast]; exact hbl
  rintro F7 σ' H7 e7 e7' ⟨e67, S7, l, w4, w5, t7, t8, t9, k4, k5, hll, hld, rfl⟩
  rw [List.length_range] at hll
  exact ⟨w4, rfl, q _ _ _ S7 ⟨_, k4, lead_good hll hld⟩⟩
theorem half_of {ms s : List Int} (h : OkSent ms s) : Half ms s := ⟨h.own, h.up⟩
/-- the first at numbers of S are in order -/
structure Pre (ms S : List Int) (at_ : Nat) : Prop where
  len : S.length = ms.length
  own : ∀ (j : Nat) m y, j < at_ → ms[j]? = some m → S[j]? = some y → m ≤ y
  up : ∀ (j : Nat) y z, j + 1 < at_ → S[j]? = some y → S[j + 1]? = some z → y ≤ z
theorem Pre.zero {ms S : List Int} (h : S.length = ms.length) : Pre ms S 0 := ⟨h, fun j m y h => absurd h (Nat.not_lt_zero _), fun j y z h => absurd h (Nat.not_lt_zero _)⟩
theorem Pre.all {ms S : List Int} (h : Pre ms S ms.length) : OkSent ms S := ⟨h.len, fun j m y h1 h2 => h.own j m y (List.getElem?_eq_some_iff.mp h1).1 h1 h2, fun j y z h1 h2 => h.up j y z (by have := (List.getElem?_eq_some_iff.mp h2).1; rw [h.len] at this; exact this) h1 h2⟩
theorem Pre.set {ms S : List Int} {i : Nat} {x : Int} (h : Pre ms S i) (hi : i < ms.length) (h1 : ∀ m, ms[i]? = some m → m ≤ x) (h2 : ∀ (j : Nat) y, i = j + 1 → S[j]? = some y → y ≤ x) : Pre ms (S.set i x) (i + 1) where
  len := by rw [List.length_set, h.len]
  own j m y hj e1 e2 := by
    by_cases e : i = j
    · subst e
      rw [List.getElem?_set_self (by rw [h.len]; exact hi)] at e2
      cases e2
      exact h1 m e1
    · rw [List.getElem?_set_ne e] at e2
      exact h.own j m y (by omega) e1 e2
  up j y z hj e1 e2 := by
    have e3 : ¬ i = j := by omega
    rw [List.getElem?_set_ne e3] at e1
    by_cases e : i = j + 1
    · subst e
      rw [List.getElem?_set_self (by rw [h.len]; exact hi)] at e2
      cases e2
      exact h2 j y rfl e1
    · rw [List.getElem?_set_ne e] at e2
      exact h.up j y z (by omega) e1 e2
/-- xs[max(0, i - 1):i] -/
def prevL {α : Type} (xs : List α) (i : Nat) : List α := (xs.drop (i - 1)).take (i - (i - 1))
theorem prevL_len {α : Type} (xs : List α) (i : Nat) : (prevL xs i).length ≤ 1 := by unfold prevL; rw [List.length_take]; omega
theorem prevL_get {α : Type} {xs : List α} {x : α} {i : Nat} (h : xs[i]? = some x) : prevL xs (i + 1) = [x] := by
  unfold prevL
  have hi := (List.getElem?_eq_some_iff.mp h).1
  rw [Nat.add_sub_cancel, show i + 1 - i = 1 by omega, ← List.getElem_cons_drop hi, (List.getElem?_eq_some_iff.mp h).2]
  rfl
theorem et_slR {σ : St} {F : Hp} {te tl th : TE} {α : Type} [Rep α] {xs : List α} {a b : Nat} (h : ET te σ F xs) (h1 : ET tl σ F (a : Int)) (h2 : ET th σ F (b : Int)) (ha : a ≤ xs.length) (hb : b ≤ xs.length) : ET (tSl (rSlL K) te (tPart tl) (tPart th)) σ F ((xs.drop a).take (b - a)) := fun H e Q k =>
  h H e _ fun v0 F0 H0 g0 i0 => (h1.mono g0.ff) H0 g0.fh _ fun v1 F1 H1 g1 i1 => ⟨_, i1, (h2.mono (g0.ff.trans g1.ff)) H1 g1.fh _ fun v2 F2 H2 g2 i2 => ⟨_, i2, by
    obtain ⟨p, vs, hv, hp, hs⟩ := Rep.mono (g1.ff.trans g2.ff) i0
    have hl := hs.len
    refine ⟨p, vs, hv, SqL.of (g2.fh _ _ hp), fun p2 hp2 => ?_⟩
    have e0 : cutV vs (some (a : Int)) (some (b : Int)) = (vs.drop a).take (b - a) := by
      unfold cutV
      rw [HT.sIx_nat, HT.sIx_nat, Nat.min_eq_left (by omega), Nat.min_eq_left (by omega)]
    rw [e0]
    have g := g0.trans (g1.trans g2)
    exact k _ _ _ (g.trans (.new g.fh hp2)) ⟨p2, _, rfl, upd_same, ((hs.drop a).take (b - a)).mono fun _ _ z => Rep.mono (ex_upd (ex_none g.fh hp2)) z⟩⟩⟩
theorem et_slTo {σ : St} {F : Hp} {te th : TE} {α : Type} [Rep α] {xs : List α} {b : Nat} (h : ET te σ F xs) (h2 : ET th σ F (b : Int)) (hb : b ≤ xs.length) : ET (tSl (rSlL K) te tNoPart (tPart th)) σ F (xs.take b) := fun H e Q k =>
  h H e _ fun v0 F0 H0 g0 i0 => (h2.mono g0.ff) H0 g0.fh _ fun v2 F2 H2 g2 i2 => ⟨_, i2, by
    obtain ⟨p, vs, hv, hp, hs⟩ := Rep.mono g2.ff i0
    have hl := hs.len
    refine ⟨p, vs, hv, SqL.of (g2.fh _ _ hp), fun p2 hp2 => ?_⟩
    have e0 : cutV vs none (some (b : Int)) = vs.take b := by
      unfold cutV
      rw [HT.sIx_none, HT.sIx_nat, Nat.min_eq_left (by omega)]
      rfl
    rw [e0]
    have g := g0.trans g2
    exact k _ _ _ (g.trans (.new g.fh hp2)) ⟨p2, _, rfl, upd_same, (hs.take b).mono fun _ _ z => Rep.mono (ex_upd (ex_none g.fh hp2)) z⟩⟩
structure Raw where
  a : Addr
instance : Rep Raw := ⟨fun _ v x => v = .ref x.a, fun _ h => h⟩
theorem op_go {σ : St} {H : Hp} {r : R2} {ta tb : TE} {Q : VK} (h : ta σ H fun x H1 => tb σ H1 fun y H2 => r x y H2 Q) : tOp r ta tb σ H Q := h
abbrev N_law_near_plan : List Str := ["_law_bag_here", "_law_book_here", "_law_label", "_law_till", "_law_gap", "_law_plan_here", "_law_way", "_law_moments_here", "_law_sides", "_law_sent_here", "_law_at", "_law_moved"]
theorem sc_law_near_plan : FnScope N_law_near_plan ["_law_bag_here", "_law_book_here", "_law_label", "_law_till", "_law_gap"] (defScope s_law_near_plan) := ⟨rfl, rfl, rfl, by decide +kernel, rfl, by decide +kernel, by decide +kernel⟩
theorem ok_law_near_plan (T : Top K mg) : Cal P w K mg base 4 "_law_near_plan" (spB (A := Dr × Pr × Pr × Pr × Unit) (fun (d, _, _, _, _) => d.2.length ≤ 7) fun (d, _, _, _, _) F2 v => ∃ pl : Pln, Is F2 v pl ∧ OkSent (msD d) pl.1 ∧ OkSent (msD d) pl.2) := by
  obtain ⟨fd, Fd, b⟩ := T.f_law_near_plan
  refine cal_ofB Fd T.g_law_near_plan b sc_law_near_plan rfl fun cdv Ar outer s H vs Q E hr F0 bq args S0 ha hp q => ?_
  have hu := hu_of hr
  refine ⟨_, (pss_cons (ps_if (pt_cmpR op_eq (pe_cal (ok_law_take T) hr (by decide) rfl (pa_cons (pv 0) (pa_cons pe_int pa_nil))) pe_int (nomark _)) (pss_one (ps_ret (pe_cal (ok_law_plan T) hr (by decide) rfl (pa_cons (pv 0) (pa_cons (pv 1) pa_nil))))) pss_nil)
    (pss_cons (ps_set (i := 5) sc_law_near_plan.nd rfl (by first | exact Or.inl rfl | exact Or.inr rfl) (pe_cal (ok_law_least_plan T) hr (by decide) rfl (pa_cons (pv 1) (pa_cons (pv 2) (pa_cons (pv 3) (pa_cons (pv 4) (pa_cons (pe_cal (ok_law_drawn_order T) hr (by decide) rfl (pa_cons (pv 0) (pa_cons (pv 1) pa_nil))) pa_nil)))))))
    (pss_cons (ps_par (i := 6) (j := 7) (by rfl) sc_law_near_plan.nd rfl rfl (by decide) rfl rfl (pa_cons (pe_cal (ok_law_take T) hr (by decide) rfl (pa_cons (pv 0) (pa_cons pe_int pa_nil))) (pa_cons (pe_cal (ok_law_moments T) hr (by decide) rfl (pa_cons (pv 1) pa_nil)) pa_nil)) (by rfl))
    (pss_cons (ps_set (i := 8) sc_law_near_plan.nd rfl (by first | exact Or.inl rfl | exact Or.inr rfl) (pe_lst (pa_cons (pe_callTy call_list_of (by rfl) T.m_list (by decide +kernel) (pa_cons (pe_ix ix_seq (pv 5) pe_int (fun _ _ => rfl)) pa_nil)) (pa_cons (pe_callTy call_list_of (by rfl) T.m_list (by decide +kernel) (pa_cons (pe_ix ix_seq (pv 5) pe_int (fun _ _ => rfl)) pa_nil)) pa_nil))))
    (pss_cons (ps_for PassesOwn.never rfl (pi_list (pe_slice sl_list (pv 8) po_none (po_some (pe_op op_mul (pe_callTy call_int1 (by rfl) T.m_int (by decide +kernel) (pa_cons (pe_cmpR op_gt (pv 6) pe_int (nomark _)) pa_nil)) pe_int)))) (pg_name (i := 9) sc_law_near_plan.nd rfl (by first | exact Or.inl rfl | exact Or.inr rfl)) (pss_one (ps_for PassesOwn.never rfl (pi_range1 (by rfl) T.m_range (pa_cons (pe_callB call_len_seq (by rfl) T.m_len (by decide +kernel) (pa_cons (pv 9) pa_nil)) pa_nil)) (pg_name (i := 10) sc_law_near_plan.nd rfl (by first | exact Or.inl rfl | exact Or.inr rfl)) (pss_cons (ps_set (i := 11) sc_law_near_plan.nd rfl (by first | exact Or.inl rfl | exact Or.inr rfl) (pe_op op_add (pe_ix ix_seq (pv 9) (pv 10) (fun _ _ => rfl)) (pe_ix ix_seq (pe_lst (pa_cons pe_int (pa_cons pe_int (pa_cons pe_int (pa_cons pe_int (pa_cons (pe_un un_neg pe_int) (pa_cons pe_int pa_nil))))))) (pe_cal (ok_law_take T) hr (by decide) rfl (pa_cons (pv 0) (pa_cons pe_int pa_nil))) (fun _ _ => rfl))))
    (pss_one (ps_asg (pe_callB (cr_max rfl) (by rfl) T.m_max (by decide +kernel) (pa_cons (pe_op op_cat (pe_lst (pa_cons (pe_ix ix_seq (pv 7) (pv 10) (fun _ _ => rfl)) (pa_cons (pv 11) pa_nil))) (pe_slice sl_list (pv 9) (po_some (pe_callB (call_max2 rfl) (by rfl) T.m_max (by decide +kernel) (pa_cons pe_int (pa_cons (pe_op op_sub (pv 10) pe_int) pa_nil)))) (po_some (pv 10)))) pa_nil)) (pg_sub (pv 9) (pv 10) set_list)))))))
    (pss_one (ps_ret (pe_tup (pa_cons (pe_ix ix_seq (pv 8) pe_int (fun _ _ => rfl)) (pa_cons (pe_ix ix_seq (pv 8) pe_int (fun _ _ => rfl)) pa_nil)))))))))), ?_⟩
  obtain ⟨v1, ws1, rfl, i1, v2, ws2, rfl, i2, v3, ws3, rfl, i3, v4, ws4, rfl, i4, rfl⟩ := ha
  obtain ⟨d, lb, tl, gp, u_⟩ := args
  have i1 : Is F0 v1 d := i1
  have i2 : Is F0 v2 lb := i2
  have i3 : Is F0 v3 tl := i3
  have i4 : Is F0 v4 gp := i4
  have hd : d.2.length ≤ 7 := hp
  have q : ∀ v F2 H2, BS bq F0 H F2 H2 → (∃ pl : Pln, Is F2 v pl ∧ OkSent (msD d) pl.1 ∧ OkSent (msD d) pl.2) → Q v H2 := q
  have hpl := psD_len d
  have hml : (msD d).length = d.2.length := by unfold msD; rw [List.length_map]
  dsimp only [tSeq]
  refine st_ifT (b := bq) (fun Q q => call_b (args := ((3 : Int), ())) S0 rfl (ea1 et_int) (okM (by decide) (by decide)) fun v F5 H5 c5 ⟨k, ik, _⟩ => q v F5 H5 k c5 ik) (fun F1 H1 S1 => ?_) fun F1 H1 S1 => ?_
  · dsimp only [tRet]
    refine call_b (args := (d, ())) S1 rfl (ea1 (et_var rfl (Rep.mono S1.ff i1))) hd fun v F2 H2 c2 h => q v F2 H2 (S1.call c2) h
  have i1 := Rep.mono S1.ff i1
  have i2 := Rep.mono S1.ff i2
  have i3 := Rep.mono S1.ff i3
  have i4 := Rep.mono S1.ff i4
  dsimp only [tNext, tSeq, tAsg]
  refine call_go ?_
  dsimp only [tCons, tNil]
  refine et_var (α := Dr) (i := 1) rfl i1 H1 S1.fh _ fun a1 F2 H2 g2 j1 => ?_
  refine et_var (α := Pr) (i := 2) rfl (Rep.mono g2.ff i2) H2 g2.fh _ fun a2 F3 H3 g3 j2 => ?_
  refine et_var (α := Pr) (i := 3) rfl (Rep.mono (g2.ff.trans g3.ff) i3) H3 g3.fh _ fun a3 F4 H4 g4 j3 => ?_
  refine et_var (α := Pr) (i := 4) rfl (Rep.mono (g2.ff.trans (g3.ff.trans g4.ff)) i4) H4 g4.fh _ fun a4 F5 H5 g5 j4 => ?_
  have S5 := (((S1.step g2).step g3).step g4).step g5
  have e15 : Ex F1 F5 := g2.ff.trans (g3.ff.trans (g4.ff.trans g5.ff))
  refine call_b (t := tCons (tVar 1) tNil) (args := (d, ())) S5 rfl (ea1 (et_var rfl (Rep.mono e15 i1))) hd fun a5 F6 H6 c6 ⟨o, j5, ho⟩ => ?_
  have S6 := S5.call c6
  refine ⟨F6, (d, lb, tl, gp, o, ()), S6.fh, ⟨a1, _, rfl, Rep.mono (g3.ff.trans (g4.ff.trans (g5.ff.trans c6.ff))) j1, a2, _, rfl, Rep.mono (g4.ff.trans (g5.ff.trans c6.ff)) j2, a3, _, rfl, Rep.mono (g5.ff.trans c6.ff) j3, a4, _, rfl, Rep.mono c6.ff j4, a5, _, rfl, j5, rfl⟩, ⟨hd, ho.ord, good_law hpl ho⟩, fun w5 F7 H7 g7 ⟨pl, k5, hs1, hs2⟩ => ?_⟩
  have S7 := S6.step g7
  have i1 := Rep.mono (e15.trans (c6.ff.trans g7.ff)) i1
  have i2 := Rep.mono (e15.trans (c6.ff.trans g7.ff)) i2
  have i3 := Rep.mono (e15.trans (c6.ff.trans g7.ff)) i3
  have i4 := Rep.mono (e15.trans (c6.ff.trans g7.ff)) i4
  dsimp only [gName, tSeq, tPar, tCons, tNil]
  refine call_b (args := ((4 : Int), ())) S7 rfl (ea1 et_int) (okM (by decide) (by decide)) fun w6 F8 H8 c8 ⟨wy, k6, _⟩ => ?_
  have S8 := S7.call c8
  have i1 := Rep.mono c8.ff i1
  have k5 := Rep.mono c8.ff k5
  refine et_call (args := (d, ())) (ea1 (et_var rfl i1)) hd H8 S8.fh _ fun w7 F9 H9 g9 k7 => ?_
  have k7 : Is F9 w7 (msD d) := k7
  have S9 := S8.step g9
  have k5 := Rep.mono g9.ff k5
  have k6 := Rep.mono g9.ff k6
  refine ⟨w6, w7, rfl, ?_⟩
  try dsimp only [tSeq, tAsg]
  /- the two sides -/
  refine lst_go ?_
  dsimp only [tCons, tNil]
  refine et_fst (K := K) (ta := tVar 5) (x := pl) (et_var rfl k5) H9 S9.fh _ fun z1 F10 H10 g10 m1 => ?_
  obtain ⟨y1, rfl, hy1⟩ := is_ints m1
  have S10 := S9.step g10
  refine ⟨y1, pl.1.map V.int, rfl, .inl (SqL.of (S10.fh _ _ hy1)), fun l0 h00 => ?_⟩
  have hn0 : F10 l0 = none := ex_none S10.fh h00
  have hz0 : dropA H bq l0 = none := ex_none S10.g.hh h00
  have hb0 : l0 ≠ bq := fun z => by
    obtain ⟨o, ho⟩ := S10.bag.at_
    rw [← z, h00] at ho
    cases ho
  have S11 := S10.mut (o := .lst (pl.1.map V.int)) hn0 hz0 hb0
  have hh0 : upd H10 l0 (.lst (pl.1.map V.int)) l0 = some (.lst (pl.1.map V.int)) := upd_same
  generalize upd H10 l0 (.lst (pl.1.map V.int)) = H11 at *
  have k5 := Rep.mono g10.ff k5
  have k6 := Rep.mono g10.ff k6
  have k7 := Rep.mono g10.ff k7
  refine et_snd (K := K) (ta := tVar 5) (x := pl) (et_var rfl k5) H11 S11.fh _ fun z2 F12 H12 g12 m2 => ?_
  obtain ⟨y2, rfl, hy2⟩ := is_ints m2
  have S12 := S11.step g12
  have hn0 := g12.off hn0 hh0
  have hh0 := g12.hh _ _ hh0
  refine ⟨y2, pl.2.map V.int, rfl, .inl (SqL.of (S12.fh _ _ hy2)), fun l1 h11 => ?_⟩
  have hn1 : F12 l1 = none := ex_none S12.fh h11
  have hz1 : dropA H bq l1 = none := ex_none S12.g.hh h11
  have hb1 : l1 ≠ bq := fun z => by
    obtain ⟨o, ho⟩ := S12.bag.at_
    rw [← z, h11] at ho
    cases ho
  have h01 : l0 ≠ l1 := fun z => by rw [z, h11] at hh0; cases hh0
  have S13 := S12.mut (o := .lst (pl.2.map V.int)) hn1 hz1 hb1
  have hh1 : upd H12 l1 (.lst (pl.2.map V.int)) l1 = some (.lst (pl.2.map V.int)) := upd_same
  have hh0 : upd H12 l1 (.lst (pl.2.map V.int)) l0 = some (.lst (pl.1.map V.int)) := (upd_ne h01).trans hh0
  generalize upd H12 l1 (.lst (pl.2.map V.int)) = H13 at *
  have k6 := Rep.mono g12.ff k6
  have k7 := Rep.mono g12.ff k7
  refine ⟨(by decide : 2 ≤ sizeLine), fun sp hsp => ?_⟩
  have gn : Grow F12 H13 _ _ := .new (o := .lst [.ref l0, .ref l1]) S13.fh hsp
  have S14 := S13.step gn
  have hFs : upd F12 sp (.lst [.ref l0, .ref l1]) sp = some (.lst [.ref l0, .ref l1]) := upd_same
  have hn0 := gn.off hn0 hh0
  have hn1 := gn.off hn1 hh1
  have hh0 := gn.hh _ _ hh0
  have hh1 := gn.hh _ _ hh1
  have k6 := Rep.mono gn.ff k6
  have k7 := Rep.mono gn.ff k7
  generalize upd F12 sp (.lst [.ref l0, .ref l1]) = F14 at *
  generalize upd H13 sp (.lst [.ref l0, .ref l1]) = H14 at *
  dsimp only [gName, tSeq]
  have iRaw : Is F14 (.ref sp) ([Raw.mk l0, Raw.mk l1] : List Raw) := ⟨sp, _, rfl, hFs, .cons rfl (.cons rfl .nil)⟩
  refine st_loop (xs := ([Raw.mk l0, Raw.mk l1] : List Raw).take ((if decide (0 < wy) = true then 1 else 0) * 2)) (fun i Fi σ' H' => Ex F14 Fi ∧ BS bq F0 H Fi H' ∧ Fi l0 = none ∧ Fi l1 = none ∧ ∃ A B t9 t10 t11, H' l0 = some (.lst (A.map V.int)) ∧ H' l1 = some (.lst (B.map V.int)) ∧ OkSent (msD d) A ∧ OkSent (msD d) B ∧ σ' = [some (.ref bq), some v1, some v2, some v3, some v4, some w5, some w6, some w7, some (.ref sp), t9, t10, t11])
    (ei_list (et_slTo (et_var rfl iRaw) ((et_mul (i := (((if decide (0 < wy) = true then 1 else 0) : Nat) : Int)) (j := 2) (et_intB (et_gtN (et_var rfl k6) (et_nat (i := 0) (n := 0)))).int et_int (Or.inr (by decide))).to (by omega)) (by split <;> simp))) S14.fh
    (fun F15 H15 g15 => ⟨g15.ff, S14.step g15, g15.off hn0 hh0, g15.off hn1 hh1, pl.1, pl.2, none, none, none, g15.hh _ _ hh0, g15.hh _ _ hh1, hs1, hs2, rfl⟩) ?_ ?_
  · rintro N i x Fi σ' H' vx F15 H15 hx e15' ⟨e14, Si, hn0, hn1, A, B, t9, t10, t11, hh0, hh1, hA, hB, rfl⟩ g15 ix k
    have S15 := Si.step g15
    have hn0 := g15.off hn0 hh0
    have hn1 := g15.off hn1 hh1
    have hh0 := g15.hh _ _ hh0
    have hh1 := g15.hh _ _ hh1
    have k7 := Rep.mono (e14.trans g15.ff) k7
    /- one side -/
    have side : ∀ (li lj : Addr) (Sa Sb : List Int), li ≠ lj → li ≠ bq → dropA H bq li = none → lj ≠ bq → F15 li = none → F15 lj = none → H15 li = some (.lst (Sa.map V.int)) → H15 lj = some (.lst (Sb.map V.int)) → OkSent (msD d) Sa →
        (∀ F16 H16 S' t10 t11, Ex F15 F16 → BS bq F0 H F16 H16 → F16 li = none → F16 lj = none → H16 li = some (.lst (S'.map V.int)) → H16 lj = some (.lst (Sb.map V.int)) → OkSent (msD d) S' → N [some (.ref bq), some v1, some v2, some v3, some v4, some w5, some w6, some w7, some (.ref sp), some (.ref li), t10, t11] H16) →
        ∀ D : Ends, D.nx = N → tFor (iRng1 (tCons (tCB (fun xs H Q => ∃ p ys, xs = [.ref p] ∧ (SqL K H p ys ∨ SqT K H p ys) ∧ Q (.int ys.length) H) (tCons (tVar 9) tNil)) tNil)) (gName 10)
          (tSeq (tAsg (tOp (rI0 fun i j => .int (i + j)) (tOp (rIx K) (tVar 9) (tVar 10)) (tOp (rIx K) (tLst (tCons (tC (.int 0)) (tCons (tC (.int 0)) (tCons (tC (.int 0)) (tCons (tC (.int 1)) (tCons (tUn (rU fun i => .int (-i)) (tC (.int 1))) (tCons (tC (.int 5)) tNil))))))) (tCall (spB (A := Int × Unit) (fun (m, _) => OkMany m) fun (m, _) F2 v => ∃ k : Nat, Is F2 v k ∧ (k : Int) < m) [] E0 (tCons (tVar 0) (tCons (tC (.int 6)) tNil))))) (gName 11))
            (tAsg (tCB (rMax K) (tCons (tOp rCat (tLst (tCons (tOp (rIx K) (tVar 7) (tVar 10)) (tCons (tVar 11) tNil))) (tSl (rSlL K) (tVar 9) (tPart (tCB (fun xs H Q => ∃ i j, xs = [.int i, .int j] ∧ Q (.int (if j > i then j else i)) H) (tCons (tC (.int 0)) (tCons (tOp (rI0 fun i j => .int (i - j)) (tVar 10) (tC (.int 1))) tNil)))) (tPart (tVar 10)))) tNil)) (gSub (tVar 9) (tVar 10) rSetL))) D
          [some (.ref bq), some v1, some v2, some v3, some v4, some w5, some w6, some w7, some (.ref sp), some (.ref li), t10, t11] H15 := by
      intro li lj Sa Sb hij hib hiz hjb hni hnj hhi hhj hSa kk D hD
      have hSl := hSa.len
      refine for_rng_b ?_
      refine borrow (x := Sa.length) (et_len (et_var rfl (is_lent hni (all2_int Sa)))) S15.fh hni hhi (fun _ z => by cases z) fun vn F16 H16 g16 hni hhi jn => ?_
      have S16 := S15.step g16
      have hnj := g16.off hnj hhj
      have hhj := g16.hh _ _ hhj
      refine st_loop (xs := List.range Sa.length) (fun i Fi σ' H' => Ex F16 Fi ∧ BS bq F0 H Fi H' ∧ Fi li = none ∧ Fi lj = none ∧ ∃ S' t10 t11, H' li = some (.lst (S'.map V.int)) ∧ H' lj = some (.lst (Sb.map V.int)) ∧ Pre (msD d) S' i ∧ σ' = [some (.ref bq), some v1, some v2, some v3, some v4, some w5, some w6, some w7, some (.ref sp), some (.ref li), t10, t11])
        (ei_rngN (ea1 (et_c jn)) (by omega)) S16.fh (fun F17 H17 g17 => ⟨g17.ff, S16.step g17, g17.off hni hhi, g17.off hnj hhj, Sa, t10, t11, g17.hh _ _ hhi, g17.hh _ _ hhj, .zero hSl, rfl⟩) ?_ ?_
      · rintro N2 i x Fi σ' H' va F17 H17 hx2 e17 ⟨e16, Si, hni, hnj, S', t10, t11, hhi, hhj, hPre, rfl⟩ g17 ia k2
        have hil := (List.getElem?_eq_some_iff.mp hx2).1
        rw [List.length_range] at hil
        rw [List.getElem?_range hil] at hx2
        have hxi : i = x := Option.some.inj hx2
        subst hxi
        have S17 := Si.step g17
        have hSl' := hPre.len
        have hni := g17.off hni hhi
        have hnj := g17.off hnj hhj
        have hhi := g17.hh _ _ hhi
        have hhj := g17.hh _ _ hhj
        have k7 := Rep.mono (g16.ff.trans (e16.trans g17.ff)) k7
        dsimp only [gName, tSeq, tAsg]
        refine op_go ?_
        have eu : Ex F17 (upd F17 li (.lst (S'.map V.int))) := ex_upd hni
        refine borrow (x := S'.getD i 0) (et_ixL (et_var rfl (is_lent hni (all2_int S'))) (et_var rfl (Rep.mono eu ia)) (getD_get (by omega))) S17.fh hni hhi (fun _ z => by cases z) fun va1 F18 H18 g18 hni hhi ja => ?_
        have S18 := S17.step g18
        have hnj := g18.off hnj hhj
        have hhj := g18.hh _ _ hhj
        refine op_go ?_
        refine et_lst (xs := [(0 : Int), 0, 0, 1, -1, 5]) (eas_cons et_int (eas_cons et_int (eas_cons et_int (eas_cons et_int (eas_cons (et_neg et_int) (eas_cons et_int eas_nil)))))) (by decide) H18 S18.fh _ fun va2 F19 H19 g19 jl => ?_
        have S19 := S18.step g19
        have hni := g19.off hni hhi
        have hnj := g19.off hnj hhj
        have hhi := g19.hh _ _ hhi
        have hhj := g19.hh _ _ hhj
        refine call_b (args := ((6 : Int), ())) S19 rfl (ea1 et_int) (okM (by decide) (by decide)) fun va3 F20 H20 c20 ⟨k20, j20, hk20⟩ => ?_
        have S20 := S19.call c20
        obtain ⟨hni, hhi⟩ := c20.keep hni hhi hib
        obtain ⟨hnj, hhj⟩ := c20.keep hnj hhj hjb
        have hk6' : k20 < 6 := by have h : (k20 : Int) < 6 := hk20; omega
        have hxx : ([(0 : Int), 0, 0, 1, -1, 5] : List Int)[k20]? = some (([(0 : Int), 0, 0, 1, -1, 5] : List Int)[k20]'hk6') := List.getElem?_eq_getElem _
        generalize ([(0 : Int), 0, 0, 1, -1, 5] : List Int)[k20]'hk6' = df at hxx
        refine ix_go S20.fh (Rep.mono c20.ff jl) j20 hxx fun va4 j4 => ?_
        refine ⟨S'.getD i 0, df, Rep.mono (g19.ff.trans c20.ff) ja, j4, ?_⟩
        have e1720 : Ex F17 F20 := g18.ff.trans (g19.ff.trans c20.ff)
        have k7 := Rep.mono e1720 k7
        have ia := Rep.mono e1720 ia
        have hmi : (msD d)[i]? = some ((msD d).getD i 0) := getD_get (by omega)
        generalize (msD d).getD i 0 = mi at hmi
        obtain ⟨mvd, hmv⟩ : ∃ m, m = S'.getD i 0 + df := ⟨_, rfl⟩
        have imv : Is F20 (.int (S'.getD i 0 + df)) mvd := congrArg V.int hmv.symm
        have eu : Ex F20 (upd F20 li (.lst (S'.map V.int))) := ex_upd hni
        have hpl1 := prevL_len S' i
        refine borrow (x := mx mi (mvd :: prevL S' i)) (et_max (ET.to (et_cat (et_lst (eas_cons (et_ixL (et_var rfl (Rep.mono eu k7)) (et_var rfl (Rep.mono eu ia)) hmi) (eas_cons (et_var rfl (Rep.mono eu imv)) eas_nil)) (by simp)) (et_slR (a := i - 1) (b := i) (et_var rfl (is_lent hni (all2_int S'))) ((et_max2 et_int (et_sub (i := (i : Int)) (j := 1) (et_var rfl (Rep.mono eu ia)) et_int)).to (by omega)) (et_var (x := i) rfl (Rep.mono eu ia)).int (by omega) (by omega)) (by simp only [List.length_cons, List.length_nil, List.length_take, List.length_drop]; omega)) rfl)) S20.fh hni hhi (fun _ z => by cases z) fun vm F21 H21 g21 hni hhi jm => ?_
        have S21 := S20.step g21
        have hnj := g21.off hnj hhj
        have hhj := g21.hh _ _ hhj
        have ia := Rep.mono g21.ff ia
        refine ⟨.ref li, rfl, va, rfl, li, S'.map V.int, (i : Int), i, rfl, ia, hhi, ?_, ?_⟩
        · unfold ixN
          rw [if_pos (by omega), if_pos (by rw [List.length_map]; omega), Int.toNat_natCast]
        have hset : (S'.map V.int).set i vm = (S'.set i (mx mi (mvd :: prevL S' i))).map V.int := by
          rw [show vm = .int (mx mi (mvd :: prevL S' i)) from jm, List.map_set]
        rw [hset]
        have S22 := S21.mut (o := .lst ((S'.set i (mx mi (mvd :: prevL S' i))).map V.int)) hni hiz hib
        refine k2 F21 _ _ (g17.ff.trans (e1720.trans g21.ff)) S22.fh ⟨e16.trans (g17.ff.trans (e1720.trans g21.ff)), S22, hni, hnj, _, _, _, upd_same, (upd_ne hij.symm).trans hhj, hPre.set (by omega) (fun m hm => by rw [hmi] at hm; rw [← Option.some.inj hm]; exact le_mx0) (fun j y hj hy => ?_), rfl⟩
        subst hj
        rw [prevL_get hy]
        exact le_mx (by simp)
      rintro F17 σ' H17 e17 e17' ⟨e16, S17, hni, hnj, S', t10, t11, hhi, hhj, hPre, rfl⟩
      rw [List.length_range, hSl] at hPre
      rw [hD]
      exact kk F17 H17 S' t10 t11 (g16.ff.trans e16) S17 hni hnj hhi hhj hPre.all
    have hxm := List.mem_of_getElem? hx
    have hxm : x ∈ [Raw.mk l0, Raw.mk l1] := List.mem_of_mem_take hxm
    dsimp only [gName]
    rcases List.mem_cons.mp hxm with e | e
    · subst e
      have hv : vx = .ref l0 := ix
      subst hv
      exact side l0 l1 A B h01 hb0 hz0 hb1 hn0 hn1 hh0 hh1 hA (fun F16 H16 S' t10 t11 e16 S16 p0 p1 q0 q1 hS => k F16 _ H16 (g15.ff.trans e16) S16.fh ⟨e14.trans (g15.ff.trans e16), S16, p0, p1, S', B, _, _, _, q0, q1, hS, hB, rfl⟩) _ rfl
    · have e := List.mem_singleton.mp e
      subst e
      have hv : vx = .ref l1 := ix
      subst hv
      exact side l1 l0 B A h01.symm hb1 hz1 hb0 hn1 hn0 hh1 hh0 hB (fun F16 H16 S' t10 t11 e16 S16 p1 p0 q1 q0 hS => k F16 _ H16 (g15.ff.trans e16) S16.fh ⟨e14.trans (g15.ff.trans e16), S16, p0, p1, A, S', _, _, _, q0, q1, hA, hS, rfl⟩) _ rfl
  rintro F15 σ' H15 e15' e15'' ⟨e14, S15, hn0, hn1, A, B, t9, t10, t11, hh0, hh1, hA, hB, rfl⟩
  have S16 := (S15.frz hn0 hz0 hh0 hb0).frz (p := l1) (by rw [upd_ne h01.symm]; exact hn1) hz1 hh1 hb1
  have e16 : Ex F15 (upd (upd F15 l0 (.lst (A.map V.int))) l1 (.lst (B.map V.int))) := (ex_upd hn0).trans (ex_upd (by rw [upd_ne h01.symm]; exact hn1))
  have i0 : Is (upd (upd F15 l0 (.lst (A.map V.int))) l1 (.lst (B.map V.int))) (.ref l0) A := ⟨l0, _, rfl, by rw [upd_ne h01, upd_same], all2_int A⟩
  have i1' : Is (upd (upd F15 l0 (.lst (A.map V.int))) l1 (.lst (B.map V.int))) (.ref l1) B := ⟨l1, _, rfl, upd_same, all2_int B⟩
  have isd : Is (upd (upd F15 l0 (.lst (A.map V.int))) l1 (.lst (B.map V.int))) (.ref sp) ([A, B] : List (List Int)) := ⟨sp, _, rfl, (e14.trans e16) _ _ hFs, .cons i0 (.cons i1' .nil)⟩
  exact st_ret (et_pair (x := A) (y := B) (et_ixL (i := 0) (et_var rfl isd) (et_nat (i := 0) (n := 0)) rfl) (et_ixL (i := 1) (et_var rfl isd) (et_nat (i := 1) (n := 1)) rfl)) S16.fh fun v F17 H17 g17 iv => q v F17 H17 (S16.step g17) ⟨(A, B), iv, hA, hB⟩

end
end LT
/-! ## M2 -/
set_option Elab.async false
set_option linter.all false
set_option maxRecDepth 100000
set_option maxHeartbeats 4000000
/-! Plain law: an order of events follows its plan. -/
namespace LT
/-! counting in a list that goes up -/
theorem up_le {c : List Int} (h : ∀ (i : Nat) t u, c[i]? = some t → c[i + 1]? = some u → t ≤ u) : ∀ (d i : Nat) t u, c[i]? = some t → c[i + d]? = some u → t ≤ u
  | 0, i, t, u, h1, h2 => by
    rw [Nat.add_zero, h1] at h2
    rw [Option.some.inj h2]
    exact Int.le_refl _
  | d + 1, i, t, u, h1, h2 => by
    have hl := (List.getElem?_eq_some_iff.mp h2).1
    have hx : c[i + d]? = some (c[i + d]'(by omega)) := List.getElem?_eq_getElem _
    have h3 := up_le h d i t _ h1 hx
    have h4 := h (i + d) _ u hx h2
    omega
theorem up_le' {c : List Int} (h : ∀ (i : Nat) t u, c[i]? = some t → c[i + 1]? = some u → t ≤ u) {i j : Nat} {t u : Int} (hij : i ≤ j) (h1 : c[i]? = some t) (h2 : c[j]? = some u) : t ≤ u :=
  up_le h (j - i) i t u h1 (by rw [show i + (j - i) = j by omega]; exact h2)
theorem countP_lt_le {c : List Int} (h : ∀ (i : Nat) t u, c[i]? = some t → c[i + 1]? = some u → t ≤ u) {j : Nat} {t : Int} (hj : c[j]? = some t) : c.countP (fun x => decide (x < t)) ≤ j := by
  have e : c = c.take j ++ c.drop j := (List.take_append_drop j c).symm
  rw [e, List.countP_append]
  have h2 : (c.drop j).countP (fun x => decide (x < t)) = 0 := by
    rw [List.countP_eq_zero]
    intro x hx
    obtain ⟨i, hi⟩ := List.getElem?_of_mem hx
    rw [List.getElem?_drop] at hi
    have := up_le' h (Nat.le_add_right j i) hj hi
    rw [decide_eq_true_eq]
    omega
  rw [h2]
  have h3 : (c.take j).countP (fun x => decide (x < t)) ≤ (c.take j).length := List.countP_le_length
  rw [List.length_take] at h3
  omega
theorem countP_ge {c : List Int} (h : ∀ (i : Nat) t u, c[i]? = some t → c[i + 1]? = some u → t ≤ u) {i : Nat} {t u : Int} (hi : c[i]? = some t) (ht : t < u) : i + 1 ≤ c.countP (fun x => decide (x < u)) := by
  have hl := (List.getElem?_eq_some_iff.mp hi).1
  have e : c = c.take (i + 1) ++ c.drop (i + 1) := (List.take_append_drop _ c).symm
  rw [e, List.countP_append]
  have h3 : (c.take (i + 1)).countP (fun x => decide (x < u)) = (c.take (i + 1)).length := by
    rw [List.countP_eq_length]
    intro x hx
    obtain ⟨j, hj⟩ := List.getElem?_of_mem hx
    have hjl := (List.getElem?_eq_some_iff.mp hj).1
    rw [List.length_take] at hjl
    rw [List.getElem?_take, if_pos (by omega)] at hj
    have := up_le' h (show j ≤ i by omega) hj hi
    rw [decide_eq_true_eq]
    omega
  rw [h3, List.length_take]
  omega
/-! sorted events -/
section
variable {E : List Evt} {tt : Bool → List Int}
/-- the events of letter x ahead of τ -/
def ahead (x : Bool) (τ : Int) (e : Evt) : Bool := decide (e.c.b = x) && decide (e.a < τ)
structure EvOk (E : List Evt) (tt : Bool → List Int) : Prop where
  srt : E.Pairwise fun a b => a.a ≤ b.a
  cnt : ∀ x τ, E.countP (ahead x τ) = (tt x).countP (fun t => decide (t < τ))
  num : ∀ x, (E.map (·.c.b)).count x = (tt x).length
  up : ∀ x (i : Nat) t u, (tt x)[i]? = some t → (tt x)[i + 1]? = some u → t ≤ u
theorem srt_at (h : E.Pairwise fun a b => a.a ≤ b.a) {i j : Nat} {a b : Evt} (hij : i ≤ j) (ha : E[i]? = some a) (hb : E[j]? = some b) : a.a ≤ b.a := by
  obtain ⟨hi, ea⟩ := List.getElem?_eq_some_iff.mp ha
  obtain ⟨hj, eb⟩ := List.getElem?_eq_some_iff.mp hb
  by_cases e : i = j
  · subst e
    rw [ha] at hb
    rw [Option.some.inj hb]
    exact Int.le_refl _
  · have := List.pairwise_iff_getElem.mp h i j hi hj (by omega)
    rw [ea, eb] at this
    exact this
theorem cnt_take (x : Bool) (k : Nat) : ((E.map (·.c.b)).take k).count x = (E.take k).countP fun e => decide (e.c.b = x) := by
  rw [← List.map_take, List.count, List.countP_map]
  refine List.countP_congr fun e _ => ?_
  show (e.c.b == x) = true ↔ decide (e.c.b = x) = true
  rw [beq_iff_eq, decide_eq_true_eq]
theorem EvOk.before (h : EvOk E tt) {x y : Bool} {k i j : Nat} {t u : Int} (hk : (E.map (·.c.b))[k]? = some x) (hi : ((E.map (·.c.b)).take k).count x = i) (ht : (tt x)[i]? = some t) (hu : (tt y)[j]? = some u) (hlt : u < t) :
    j + 1 ≤ ((E.map (·.c.b)).take k).count y := by
  rw [List.getElem?_map] at hk
  cases hek : E[k]? with
  | none => rw [hek] at hk; cases hk
  | some e =>
    rw [hek] at hk
    have hex : e.c.b = x := Option.some.inj hk
    have hkl := (List.getElem?_eq_some_iff.mp hek).1
    /- the event at k is not ahead of t -/
    have hge : t ≤ e.a := by
      refine Int.not_lt.mp fun hlt2 => ?_
      have h1 : i + 1 ≤ E.countP (ahead x t) := by
        have e1 : E = E.take (k + 1) ++ E.drop (k + 1) := (List.take_append_drop _ E).symm
        rw [e1, List.countP_append]
        have h2 : (E.take (k + 1)).countP (ahead x t) = (E.take (k + 1)).countP fun e => decide (e.c.b = x) := by
          refine List.countP_congr fun a ha => ?_
          obtain ⟨m, hm⟩ := List.getElem?_of_mem ha
          have hml := (List.getElem?_eq_some_iff.mp hm).1
          rw [List.length_take] at hml
          rw [List.getElem?_take, if_pos (by omega)] at hm
          have := srt_at h.srt (show m ≤ k by omega) hm hek
          unfold ahead
          rw [decide_eq_true (show a.a < t by omega), Bool.and_true]
        rw [h2, ← cnt_take, List.take_add_one, List.getElem?_map, hek]
        rw [List.count_append, hi]
        show i + 1 ≤ i + List.count x [e.c.b] + _
        rw [hex]
        simp
      rw [h.cnt x t] at h1
      have := countP_lt_le (h.up x) ht
      omega
    have h1 : j + 1 ≤ E.countP (ahead y t) := by
      rw [h.cnt y t]
      exact countP_ge (h.up y) hu hlt
    have e1 : E = E.take k ++ E.drop k := (List.take_append_drop _ E).symm
    rw [e1, List.countP_append] at h1
    have h2 : (E.drop k).countP (ahead y t) = 0 := by
      rw [List.countP_eq_zero]
      intro a ha
      obtain ⟨m, hm⟩ := List.getElem?_of_mem ha
      rw [List.getElem?_drop] at hm
      have := srt_at h.srt (Nat.le_add_right k m) hek hm
      unfold ahead
      rw [decide_eq_false (show ¬ a.a < t by omega), Bool.and_false]
      exact Bool.false_ne_true
    rw [cnt_take]
    have h3 : (E.take k).countP (ahead y t) ≤ (E.take k).countP fun e => decide (e.c.b = y) := by
      refine List.countP_mono_left fun a _ ha => ?_
      unfold ahead at ha
      rw [Bool.and_eq_true] at ha
      exact ha.1
    omega
end
theorem count_const (x y : Bool) (n : Nat) : (List.replicate n x).count y = if x = y then n else 0 := by
  rw [List.count_replicate]
  by_cases h : x = y
  · simp [h]
  · simp [h]
theorem evts_ok {c1 c2 : List Int} {wt : Int} {tf : Bool} (h1 : ∀ (i : Nat) t u, c1[i]? = some t → c1[i + 1]? = some u → t ≤ u) (h2 : ∀ (i : Nat) t u, c2[i]? = some t → c2[i + 1]? = some u → t ≤ u) :
    EvOk (srt (evts c1 c2 wt tf)) (fun x => if x = true then c1.map (· + wt) else c2) where
  srt := srt_pair _
  cnt x τ := by
    rw [(srt_perm _).countP_eq]
    unfold evts
    rw [List.countP_append, List.countP_map, List.countP_map]
    cases x
    · have e1 : c1.countP (ahead false τ ∘ fun m => T3.mk (m + wt) ((if tf = true then 1 else 0 : Nat) : Int) (Ltr.mk true)) = 0 := by
        rw [List.countP_eq_zero]
        intro m _
        show ¬ (decide (true = false) && decide (m + wt < τ)) = true
        simp
      rw [e1, Nat.zero_add, if_neg Bool.false_ne_true]
      refine List.countP_congr fun m _ => ?_
      show (decide (false = false) && decide (m < τ)) = true ↔ _
      simp
    · have e1 : c2.countP (ahead true τ ∘ fun m => T3.mk m (1 - ((if tf = true then 1 else 0 : Nat) : Int)) (Ltr.mk false)) = 0 := by
        rw [List.countP_eq_zero]
        intro m _
        show ¬ (decide (false = true) && decide (m < τ)) = true
        simp
      rw [e1, Nat.add_zero, if_pos rfl, List.countP_map]
      refine List.countP_congr fun m _ => ?_
      show (decide (true = true) && decide (m + wt < τ)) = true ↔ decide (m + wt < τ) = true
      simp
  num x := by
    rw [((srt_perm (evts c1 c2 wt tf)).map (fun e : Evt => e.c.b)).count_eq]
    unfold evts
    rw [List.map_append, List.map_map, List.map_map, List.count_append]
    have e1 : (c1.map ((fun e : Evt => e.c.b) ∘ fun m => T3.mk (m + wt) ((if tf = true then 1 else 0 : Nat) : Int) (Ltr.mk true))) = List.replicate c1.length true := List.map_const' ..
    have e2 : (c2.map ((fun e : Evt => e.c.b) ∘ fun m => T3.mk m (1 - ((if tf = true then 1 else 0 : Nat) : Int)) (Ltr.mk false))) = List.replicate c2.length false := List.map_const' ..
    rw [e1, e2, count_const, count_const]
    cases x
    · simp
    · simp
  up x i t u ht hu := by
    cases x
    · rw [if_neg Bool.false_ne_true] at ht hu
      exact h2 i t u ht hu
    · rw [if_pos rfl, List.getElem?_map] at ht hu
      cases e1 : c1[i]? with
      | none => rw [e1] at ht; cases ht
      | some a =>
        cases e2 : c1[i + 1]? with
        | none => rw [e2] at hu; cases hu
        | some b =>
          rw [e1] at ht
          rw [e2] at hu
          have := h1 i a b e1 e2
          have ht : a + wt = t := Option.some.inj ht
          have hu : b + wt = u := Option.some.inj hu
          omega
/-! what keeps bad cells apart -/
structure SepOk (n : Nat) (ps : List Int) (lb tl gp : Pr) (pl : Pln) (l : List Bool) : Prop where
  ord : IsOrd n l
  any : ∀ c ∈ bad ps, LL lb tl gp pl c = true ∨ TL lb tl gp pl c = true
  lab : ∀ c ∈ bad ps, LL lb tl gp pl c = true → 1 ≤ c.2 ∧ c.1 + 1 ≤ (cellAt l (placeOf l false c.2)).1
  til : ∀ c ∈ bad ps, TL lb tl gp pl c = true → 1 ≤ c.1 ∧ c.2 + 1 ≤ (cellAt l (placeOf l true c.1)).2
theorem LL_iff {lb tl gp : Pr} {pl : Pln} {c : Nat × Nat} : LL lb tl gp pl c = true ↔ c.1 < pl.1.length ∧ 1 ≤ c.2 ∧ pl.1.getD c.1 0 + lb.2 + gp.2 < pl.2.getD (c.2 - 1) 0 + tl.1 := by
  unfold LL
  rw [Bool.and_eq_true, Bool.not_eq_true', Bool.or_eq_false_iff, decide_eq_false_iff_not, decide_eq_false_iff_not, decide_eq_true_eq]
  omega
theorem TL_iff {lb tl gp : Pr} {pl : Pln} {c : Nat × Nat} : TL lb tl gp pl c = true ↔ 1 ≤ c.1 ∧ c.2 < pl.2.length ∧ pl.2.getD c.2 0 + tl.2 < pl.1.getD (c.1 - 1) 0 + lb.1 + gp.1 := by
  unfold TL
  rw [Bool.and_eq_true, Bool.not_eq_true', Bool.or_eq_false_iff, decide_eq_false_iff_not, decide_eq_false_iff_not, decide_eq_true_eq]
  omega
theorem sep_of {n : Nat} {ps : List Int} {lb tl gp : Pr} {pl : Pln} {c1 c2 : List Int} {wt : Int} {tf : Bool} (hps : ps.length = n + 1) (hp1 : pl.1.length = n) (hp2 : pl.2.length = n) (hs : someMeet ps lb tl gp pl = false) (hc1 : OkCourse pl.1 lb c1) (hc2 : OkCourse pl.2 tl c2) (hw1 : gp.1 ≤ wt) (hw2 : wt ≤ gp.2) :
    SepOk n ps lb tl gp pl (ordOf c1 c2 wt tf) := by
  have hE := evts_ok (wt := wt) (tf := tf) hc1.up hc2.up
  have hl1 := hc1.len
  have hl2 := hc2.len
  have ho : IsOrd n (ordOf c1 c2 wt tf) := by
    have h1 := hE.num true
    have h2 := hE.num false
    rw [if_pos rfl, List.length_map] at h1
    rw [if_neg Bool.false_ne_true] at h2
    exact ⟨by unfold ordOf; omega, by unfold ordOf; omega⟩
  refine ⟨ho, fun c hc => ?_, fun c hc hL => ?_, fun c hc hT => ?_⟩
  · have h1 := List.any_eq_false.mp hs c hc
    unfold meet at h1
    cases e1 : LL lb tl gp pl c with
    | true => exact .inl rfl
    | false =>
      cases e2 : TL lb tl gp pl c with
      | true => exact .inr rfl
      | false => rw [e1, e2] at h1; exact absurd rfl h1
  · obtain ⟨a1, a2, a3⟩ := LL_iff.mp hL
    obtain ⟨b1, b2⟩ := bad_le hps hc
    have hp := placeOf_at (l := ordOf c1 c2 wt tf) (b := false) (m := c.2) a2 (by rw [ho.ts]; exact b2)
    refine ⟨a2, ?_⟩
    have x1 : pl.1[c.1]? = some (pl.1.getD c.1 0) := getD_get a1
    have x2 : pl.2[c.2 - 1]? = some (pl.2.getD (c.2 - 1) 0) := getD_get (by omega)
    have y1 : c1[c.1]? = some (c1.getD c.1 0) := getD_get (by omega)
    have y2 : c2[c.2 - 1]? = some (c2.getD (c.2 - 1) 0) := getD_get (by omega)
    have w1 := hc1.win _ _ _ x1 y1
    have w2 := hc2.win _ _ _ x2 y2
    exact hE.before (x := false) (y := true) (k := placeOf (ordOf c1 c2 wt tf) false c.2) (i := c.2 - 1) (j := c.1) (t := c2.getD (c.2 - 1) 0) (u := c1.getD c.1 0 + wt) hp.2.1 hp.2.2 (by rw [if_neg Bool.false_ne_true]; exact y2) (by rw [if_pos rfl, List.getElem?_map, y1]; rfl) (by omega)
  · obtain ⟨a1, a2, a3⟩ := TL_iff.mp hT
    obtain ⟨b1, b2⟩ := bad_le hps hc
    have hp := placeOf_at (l := ordOf c1 c2 wt tf) (b := true) (m := c.1) a1 (by rw [ho.ls]; exact b1)
    refine ⟨a1, ?_⟩
    have x1 : pl.1[c.1 - 1]? = some (pl.1.getD (c.1 - 1) 0) := getD_get (by omega)
    have x2 : pl.2[c.2]? = some (pl.2.getD c.2 0) := getD_get a2
    have y1 : c1[c.1 - 1]? = some (c1.getD (c.1 - 1) 0) := getD_get (by omega)
    have y2 : c2[c.2]? = some (c2.getD c.2 0) := getD_get (by omega)
    have w1 := hc1.win _ _ _ x1 y1
    have w2 := hc2.win _ _ _ x2 y2
    exact hE.before (x := true) (y := false) (k := placeOf (ordOf c1 c2 wt tf) true c.1) (i := c.1 - 1) (j := c.2) (t := c1.getD (c.1 - 1) 0 + wt) (u := c2.getD c.2 0) hp.2.1 hp.2.2 (by rw [if_pos rfl, List.getElem?_map, y1]; rfl) (by rw [if_neg Bool.false_ne_true]; exact y2) (by omega)
section
variable {n : Nat} {ps : List Int} {lb tl gp : Pr} {pl : Pln} {l : List Bool}
theorem sep_lab (hps : ps.length = n + 1) (h : SepOk n ps lb tl gp pl l) {c : Nat × Nat} (hc : c ∈ bad ps) (hL : LL lb tl gp pl c = true) {k : Nat} (hk : c.2 ≤ (cellAt l k).2) : c.1 + 1 ≤ (cellAt l k).1 := by
  obtain ⟨h1, h2⟩ := h.lab c hc hL
  obtain ⟨b1, b2⟩ := bad_le hps hc
  have hp := placeOf_at (l := l) (b := false) (m := c.2) h1 (by rw [h.ord.ts]; exact b2)
  have e1 : (cellAt l (placeOf l false c.2)).2 = c.2 - 1 := hp.2.2
  have hle : placeOf l false c.2 ≤ k := Nat.le_of_not_lt fun hlt => by
    have := (cellAt_mono (l := l) (Nat.le_of_lt hlt)).2
    omega
  have := (cellAt_mono (l := l) hle).1
  omega
theorem sep_til (hps : ps.length = n + 1) (h : SepOk n ps lb tl gp pl l) {c : Nat × Nat} (hc : c ∈ bad ps) (hT : TL lb tl gp pl c = true) {k : Nat} (hk : c.1 ≤ (cellAt l k).1) : c.2 + 1 ≤ (cellAt l k).2 := by
  obtain ⟨h1, h2⟩ := h.til c hc hT
  obtain ⟨b1, b2⟩ := bad_le hps hc
  have hp := placeOf_at (l := l) (b := true) (m := c.1) h1 (by rw [h.ord.ls]; exact b1)
  have e1 : (cellAt l (placeOf l true c.1)).1 = c.1 - 1 := hp.2.2
  have hle : placeOf l true c.1 ≤ k := Nat.le_of_not_lt fun hlt => by
    have := (cellAt_mono (l := l) (Nat.le_of_lt hlt)).1
    omega
  have := (cellAt_mono (l := l) hle).2
  omega
theorem sep_good (hps : ps.length = n + 1) (h : SepOk n ps lb tl gp pl l) : Good n ps l := by
  refine ⟨h.ord, fun c hc hb => ?_⟩
  obtain ⟨k, hk, rfl⟩ := mem_cells.mp hc
  rcases h.any _ hb with hL | hT
  · have := sep_lab hps h hb hL (k := k) (Nat.le_refl _)
    omega
  · have := sep_til hps h hb hT (k := k) (Nat.le_refl _)
    omega
theorem sep_follows (hps : ps.length = n + 1) (h : SepOk n ps lb tl gp pl l) : Follows n ps lb tl gp pl l := by
  refine ⟨sep_good hps h, by rw [places_len, h.ord.ts]; exact Nat.le_refl _, fun c hc hl => ?_, fun c hc hl => ?_⟩
  · obtain ⟨b1, b2⟩ := bad_le hps hc
    obtain ⟨a1, a2, a3, a4, a5⟩ := lab_at h.ord hl b2
    rcases h.any c hc with hL | hT
    · exact hL
    · have := sep_til hps h hc hT (k := placeOf l false c.2) (by omega)
      omega
  · rcases h.any c hc with hL | hT
    · obtain ⟨h1, h2⟩ := h.lab c hc hL
      unfold lf at hl
      rw [decide_eq_true (show 0 < c.2 by omega), Bool.true_and] at hl
      have : ¬ c.1 < (cellAt l (placeOf l false c.2)).1 := of_decide_eq_false hl
      omega
    · exact hT
end
end LT
/-! ## M3 -/
set_option Elab.async false
set_option linter.all false
set_option maxRecDepth 100000
set_option maxHeartbeats 4000000
/-! Plain law: the first order, its number, the least plan. -/
namespace LT
/-! walks from a cell to the end that avoid what is barred -/
inductive Wk (n : Nat) (bar : Nat × Nat → Bool) : Nat × Nat → List Bool → Prop where
  | nil (h : bar (n, n) = false) : Wk n bar (n, n) []
  | cons {c : Nat × Nat} {b : Bool} {r : List Bool} (h1 : c.1 ≤ n) (h2 : c.2 ≤ n) (hb : bar c = false) (t : Wk n bar (mv c b) r) : Wk n bar c (b :: r)
section
variable {n : Nat} {bar : Nat × Nat → Bool} {w : Nat × Nat → Nat}
theorem Wk.inn {c : Nat × Nat} {l : List Bool} (h : Wk n bar c l) : c.1 ≤ n ∧ c.2 ≤ n := by
  cases h with
  | nil _ => exact ⟨Nat.le_refl _, Nat.le_refl _⟩
  | cons h1 h2 _ _ => exact ⟨h1, h2⟩
theorem Wk.free {c : Nat × Nat} {l : List Bool} (h : Wk n bar c l) : bar c = false := by
  cases h with
  | nil h => exact h
  | cons _ _ h _ => exact h
theorem Wk.ne {c : Nat × Nat} {b : Bool} {l : List Bool} (h : Wk n bar c (b :: l)) : c ≠ (n, n) := by
  cases h with
  | cons _ _ _ t =>
    have := t.inn
    intro e
    subst e
    cases b
    · have : n ≤ n ∧ n + 1 ≤ n := this
      omega
    · have : n + 1 ≤ n ∧ n ≤ n := this
      omega
theorem Wk.sum {c : Nat × Nat} {l : List Bool} (h : Wk n bar c l) : c.1 + c.2 + l.length = 2 * n := by
  induction h with
  | nil _ => show n + n + 0 = _; omega
  | @cons c b r h1 h2 hb t ih =>
    cases b
    · have ih : c.1 + (c.2 + 1) + r.length = 2 * n := ih
      rw [List.length_cons]
      omega
    · have ih : c.1 + 1 + c.2 + r.length = 2 * n := ih
      rw [List.length_cons]
      omega
theorem Wk.mono {bar' : Nat × Nat → Bool} (hb : ∀ d : Nat × Nat, d.1 ≤ n → d.2 ≤ n → bar d = false → bar' d = false) {c : Nat × Nat} {l : List Bool} (h : Wk n bar c l) : Wk n bar' c l := by
  induction h with
  | nil h => exact .nil (hb _ (Nat.le_refl _) (Nat.le_refl _) h)
  | cons h1 h2 h3 _ ih => exact .cons h1 h2 (hb _ h1 h2 h3) ih
/-- an order as a walk -/
theorem wk_of {l : List Bool} (ho : IsOrd n l) (hf : ∀ k, k ≤ l.length → bar (cellAt l k) = false) : ∀ j k, j + k = l.length → Wk n bar (cellAt l k) (l.drop k) := by
  intro j
  induction j with
  | zero =>
    intro k hk
    have hk : k = l.length := by omega
    have := hf k (by omega)
    subst hk
    rw [cellAt_all, ho.ls, ho.ts] at this ⊢
    rw [List.drop_length]
    exact .nil this
  | succ j ih =>
    intro k hk
    have hkl : k < l.length := by omega
    have h1 := ih (k + 1) (by omega)
    have hx : l[k]? = some (l[k]) := List.getElem?_eq_getElem hkl
    rw [← List.getElem_cons_drop hkl]
    generalize l[k] = b at hx
    rw [cellAt_succ hx] at h1
    have hle := cellAt_le (l := l) (k := k)
    rw [ho.ls, ho.ts] at hle
    exact .cons hle.1 hle.2 (hf k (by omega)) h1
/-- a walk from the start is an order -/
theorem Wk.cells {c : Nat × Nat} {l : List Bool} (h : Wk n bar c l) : l.count true + c.1 = n ∧ l.count false + c.2 = n ∧ ∀ k, k ≤ l.length → bar (c.1 + (cellAt l k).1, c.2 + (cellAt l k).2) = false := by
  induction h with
  | nil h => exact ⟨by show 0 + n = n; omega, by show 0 + n = n; omega, fun k hk => by
      have hk : k = 0 := by have : ([] : List Bool).length = 0 := rfl; omega
      subst hk
      rw [cellAt_zero]
      exact h⟩
  | @cons c b r h1 h2 hb t ih =>
    obtain ⟨i1, i2, i3⟩ := ih
    refine ⟨?_, ?_, fun k hk => ?_⟩
    · rw [List.count_cons]
      cases b
      · have i1 : r.count true + c.1 = n := i1
        simp
        omega
      · have i1 : r.count true + (c.1 + 1) = n := i1
        simp
        omega
    · rw [List.count_cons]
      cases b
      · have i2 : r.count false + (c.2 + 1) = n := i2
        simp
        omega
      · have i2 : r.count false + c.2 = n := i2
        simp
        omega
    · cases k with
      | zero => rw [cellAt_zero]; exact hb
      | succ k =>
        have h := i3 k (by rw [List.length_cons] at hk; omega)
        have e : cellAt (b :: r) (k + 1) = ((cellAt r k).1 + (if b = true then 1 else 0), (cellAt r k).2 + (if b = true then 0 else 1)) := by
          unfold cellAt
          rw [List.take_succ_cons, List.count_cons, List.count_cons]
          cases b <;> simp
        rw [e]
        cases b
        · have h : bar (c.1 + (cellAt r k).1, c.2 + 1 + (cellAt r k).2) = false := h
          rw [show (c.1 + ((cellAt r k).1 + (if false = true then 1 else 0)), c.2 + ((cellAt r k).2 + (if false = true then 0 else 1))) = (c.1 + (cellAt r k).1, c.2 + 1 + (cellAt r k).2) by
            rw [if_neg Bool.false_ne_true, if_neg Bool.false_ne_true]
            exact Prod.ext (by show c.1 + ((cellAt r k).1 + 0) = _; omega) (by show c.2 + ((cellAt r k).2 + 1) = _; omega)]
          exact h
        · have h : bar (c.1 + 1 + (cellAt r k).1, c.2 + (cellAt r k).2) = false := h
          rw [show (c.1 + ((cellAt r k).1 + (if true = true then 1 else 0)), c.2 + ((cellAt r k).2 + (if true = true then 0 else 1))) = (c.1 + 1 + (cellAt r k).1, c.2 + (cellAt r k).2) by
            rw [if_pos rfl, if_pos rfl]
            exact Prod.ext (by show c.1 + ((cellAt r k).1 + 1) = _; omega) (by show c.2 + ((cellAt r k).2 + 0) = _; omega)]
          exact h
theorem Wk.pos (W : IsWays n bar w) {c : Nat × Nat} {l : List Bool} (h : Wk n bar c l) : 0 < w c := by
  induction h with
  | nil h => rw [W.end_ h]; exact Nat.one_pos
  | @cons c b r h1 h2 hb t ih =>
    rw [W.step c h1 h2 hb (Wk.cons h1 h2 hb t).ne]
    cases b
    · have ih : 0 < w (c.1, c.2 + 1) := ih
      omega
    · have ih : 0 < w (c.1 + 1, c.2) := ih
      omega
theorem ways_free (W : IsWays n bar w) {c : Nat × Nat} (h : 0 < w c) : c.1 ≤ n ∧ c.2 ≤ n ∧ bar c = false := by
  by_cases h1 : c.1 ≤ n ∧ c.2 ≤ n
  · refine ⟨h1.1, h1.2, ?_⟩
    cases e : bar c with
    | false => rfl
    | true => rw [W.bar_ c e] at h; omega
  · rw [W.out c h1] at h
    omega
theorem greedy_wk (W : IsWays n bar w) : ∀ (k : Nat) (c : Nat × Nat), 0 < w c → c.1 + c.2 + k = 2 * n → Wk n bar c (greedy w k c)
  | 0, c, h, hk => by
    obtain ⟨h1, h2, h3⟩ := ways_free W h
    have e : c = (n, n) := Prod.ext (by show c.1 = n; omega) (by show c.2 = n; omega)
    subst e
    exact .nil h3
  | k + 1, c, h, hk => by
    obtain ⟨h1, h2, h3⟩ := ways_free W h
    have hne : c ≠ (n, n) := fun e => by
      rw [e] at hk
      have hk : n + n + (k + 1) = 2 * n := hk
      omega
    have hst := W.step c h1 h2 h3 hne
    rw [greedy]
    by_cases hL : 0 < w (mv c true)
    · rw [decide_eq_true hL]
      exact .cons h1 h2 h3 (greedy_wk W k _ hL (by rw [mv_true]; show c.1 + 1 + c.2 + k = _; omega))
    · rw [decide_eq_false hL]
      rw [mv_true] at hL
      refine .cons h1 h2 h3 (greedy_wk W k _ (by rw [mv_false]; omega) (by rw [mv_false]; show c.1 + (c.2 + 1) + k = _; omega))
/-- never ahead of the greedy one -/
theorem greedy_le (W : IsWays n bar w) {c : Nat × Nat} {l : List Bool} (h : Wk n bar c l) : ¬ (l.map code < (greedy w l.length c).map code) := by
  induction h with
  | nil _ => exact fun h => by cases h
  | @cons c b r h1 h2 hb t ih =>
    rw [List.length_cons, greedy, List.map_cons, List.map_cons, List.cons_lt_cons_iff]
    cases b
    · cases hg : decide (0 < w (mv c true)) with
      | true =>
        rintro (h | ⟨h, _⟩)
        · exact absurd h (by decide)
        · exact absurd h (by decide)
      | false =>
        rintro (h | ⟨_, h⟩)
        · exact absurd h (by decide)
        · exact ih h
    · have hp := t.pos W
      rw [decide_eq_true hp]
      rintro (h | ⟨_, h⟩)
      · exact absurd h (by decide)
      · exact ih h
/-! the number of an order -/
def idxR (w : Nat × Nat → Nat) : Nat × Nat → List Bool → Nat
  | _, [] => 0
  | c, true :: r => idxR w (mv c true) r
  | c, false :: r => w (mv c true) + idxR w (mv c false) r
theorem idxTo_eq (l : List Bool) : ∀ j k, j + k = l.length → idxTo w l l.length = idxTo w l k + idxR w (cellAt l k) (l.drop k) := by
  intro j
  induction j with
  | zero =>
    intro k hk
    have hk : k = l.length := by omega
    rw [hk, List.drop_length, idxR, Nat.add_zero]
  | succ j ih =>
    intro k hk
    have hkl : k < l.length := by omega
    have hx : l[k]? = some (l[k]) := List.getElem?_eq_getElem hkl
    rw [ih (k + 1) (by omega), idxTo, ← List.getElem_cons_drop hkl]
    generalize l[k] = b at hx
    rw [hx, cellAt_succ hx]
    cases b
    · rw [if_pos rfl, idxR]
      omega
    · rw [if_neg (by simp), idxR]
      omega
theorem idx_lt (W : IsWays n bar w) {c : Nat × Nat} {l : List Bool} (h : Wk n bar c l) : idxR w c l < w c := by
  induction h with
  | nil h => rw [W.end_ h, idxR]; exact Nat.one_pos
  | @cons c b r h1 h2 hb t ih =>
    rw [W.step c h1 h2 hb (Wk.cons h1 h2 hb t).ne]
    cases b
    · rw [idxR]
      have ih : idxR w (mv c false) r < w (c.1, c.2 + 1) := ih
      have e : w (mv c true) = w (c.1 + 1, c.2) := rfl
      omega
    · rw [idxR]
      have ih : idxR w (mv c true) r < w (c.1 + 1, c.2) := ih
      omega
theorem idx_mono (W : IsWays n bar w) {c : Nat × Nat} {a : List Bool} (ha : Wk n bar c a) : ∀ {l : List Bool}, Wk n bar c l → ¬ (l.map code < a.map code) → idxR w c a ≤ idxR w c l := by
  induction ha with
  | nil h =>
    intro l _ _
    rw [idxR]
    exact Nat.zero_le _
  | @cons c b r h1 h2 hb t ih =>
    intro l hl hn
    cases hl with
    | nil _ => exact absurd rfl (Wk.cons h1 h2 hb t).ne
    | @cons _ b2 r2 _ _ _ t2 =>
      rw [List.map_cons, List.map_cons, List.cons_lt_cons_iff] at hn
      cases b
      · cases b2
        · rw [idxR, idxR]
          have := ih t2 fun h => hn (.inr ⟨rfl, h⟩)
          omega
        · exact absurd (.inl (by decide)) hn
      · cases b2
        · rw [idxR, idxR]
          have := idx_lt W t
          omega
        · rw [idxR, idxR]
          exact ih t2 fun h => hn (.inr ⟨rfl, h⟩)
end
/-! the followed order -/
section
variable {n : Nat} {ps : List Int} {lb tl gp : Pr} {pl : Pln} {l : List Bool}
theorem sep_bar (hps : ps.length = n + 1) (h : SepOk n ps lb tl gp pl l) {k : Nat} : barF n ps lb tl gp pl (cellAt l k) = false := by
  refine List.any_eq_false.mpr fun c hc hr => ?_
  unfold rectB at hr
  by_cases hL : LL lb tl gp pl c = true
  · rw [if_pos hL, Bool.and_eq_true, Bool.and_eq_true, decide_eq_true_eq, decide_eq_true_eq, decide_eq_true_eq] at hr
    have := sep_lab hps h hc hL (k := k) hr.2.1
    omega
  · rw [if_neg hL, Bool.and_eq_true, Bool.and_eq_true, decide_eq_true_eq, decide_eq_true_eq, decide_eq_true_eq] at hr
    rcases h.any c hc with h1 | h1
    · exact hL h1
    · have := sep_til hps h hc h1 (k := k) hr.1.1
      omega
theorem bar_bad (hps : ps.length = n + 1) {d : Nat × Nat} (h : barF n ps lb tl gp pl d = false) : d ∉ bad ps := fun hd => by
  obtain ⟨h1, h2⟩ := bad_le hps hd
  have h3 := List.any_eq_false.mp h d hd
  unfold rectB at h3
  split at h3
  · simp at h3; omega
  · simp at h3; omega
abbrev leastO (n : Nat) (ps : List Int) (lb tl gp : Pr) (pl : Pln) : List Bool := greedy (waysF n (barF n ps lb tl gp pl)) (2 * n) (0, 0)
theorem sep_wk (hps : ps.length = n + 1) (h : SepOk n ps lb tl gp pl l) : Wk n (barF n ps lb tl gp pl) (0, 0) l := by
  have := wk_of h.ord (fun k _ => sep_bar hps h) l.length 0 (by omega)
  rwa [cellAt_zero, List.drop_zero] at this
theorem least_wk (hps : ps.length = n + 1) (h : SepOk n ps lb tl gp pl l) : Wk n (barF n ps lb tl gp pl) (0, 0) (leastO n ps lb tl gp pl) :=
  greedy_wk (waysF_is _ _) _ _ ((sep_wk hps h).pos (waysF_is _ _)) (by show 0 + 0 + 2 * n = _; omega)
theorem least_good (hps : ps.length = n + 1) (h : SepOk n ps lb tl gp pl l) : Good n ps (leastO n ps lb tl gp pl) := by
  obtain ⟨h1, h2, h3⟩ := (least_wk hps h).cells
  refine ⟨⟨h1, h2⟩, fun c hc => ?_⟩
  obtain ⟨k, hk, rfl⟩ := mem_cells.mp hc
  have h4 := h3 k hk
  rw [show ((0, 0) : Nat × Nat).1 + (cellAt (leastO n ps lb tl gp pl) k).1 = (cellAt (leastO n ps lb tl gp pl) k).1 from Nat.zero_add _, show ((0, 0) : Nat × Nat).2 + (cellAt (leastO n ps lb tl gp pl) k).2 = (cellAt (leastO n ps lb tl gp pl) k).2 from Nat.zero_add _] at h4
  exact bar_bad hps h4
theorem least_le (hps : ps.length = n + 1) (h : SepOk n ps lb tl gp pl l) : ¬ (l.map code < (leastO n ps lb tl gp pl).map code) := by
  have := greedy_le (waysF_is n (barF n ps lb tl gp pl)) (sep_wk hps h)
  rwa [h.ord.len] at this
theorem least_idx (hps : ps.length = n + 1) (h : SepOk n ps lb tl gp pl l) :
    idxTo (waysF n fun c => decide (c ∈ bad ps)) (leastO n ps lb tl gp pl) (leastO n ps lb tl gp pl).length ≤ idxTo (waysF n fun c => decide (c ∈ bad ps)) l l.length := by
  have W := waysF_is n fun c => decide (c ∈ bad ps)
  have hm : ∀ d : Nat × Nat, d.1 ≤ n → d.2 ≤ n → barF n ps lb tl gp pl d = false → (fun c => decide (c ∈ bad ps)) d = false := fun d _ _ hd => decide_eq_false (bar_bad hps hd)
  have := idx_mono W ((least_wk hps h).mono hm) ((sep_wk hps h).mono hm) (least_le hps h)
  have e1 := idxTo_eq (w := waysF n fun c => decide (c ∈ bad ps)) (leastO n ps lb tl gp pl) (leastO n ps lb tl gp pl).length 0 (by omega)
  have e2 := idxTo_eq (w := waysF n fun c => decide (c ∈ bad ps)) l l.length 0 (by omega)
  rw [cellAt_zero, List.drop_zero] at e1 e2
  rw [e1, e2]
  show 0 + _ ≤ 0 + _
  omega
/-! the least plan -/
theorem pick_snoc (l : List Bool) (Ms : List Int) (x : Bool) (m : Int) (b : Bool) (hl : Ms.length = l.length) : pick (l ++ [x]) (Ms ++ [m]) b = pick l Ms b ++ (if x = b then [m] else []) := by
  unfold pick
  rw [List.map_append, List.map_cons, List.map_nil, List.zip_append (by rw [List.length_map, hl]), List.filter_append, List.map_append]
  congr 1
  show List.map _ (List.filter _ [(Ltr.mk x, m)]) = _
  by_cases h : x = b
  · rw [if_pos h, List.filter_cons, if_pos (by simpa using h)]; rfl
  · rw [if_neg h, List.filter_cons, if_neg (by simpa using h)]; rfl
theorem pick_at (b : Bool) : ∀ (l : List Bool) (Ms : List Int), Ms.length = l.length → (pick l Ms b).length = (places l b).length ∧ ∀ (i : Nat) y, (pick l Ms b)[i]? = some y → ∃ p, (places l b)[i]? = some p ∧ Ms[p]? = some y := by
  refine snoc_ind ?_ ?_
  · intro Ms h
    have : Ms = [] := List.eq_nil_of_length_eq_zero h
    subst this
    exact ⟨rfl, fun i y h => by simp [pick] at h⟩
  · intro l x ih Ms h
    rw [List.length_append, List.length_singleton] at h
    obtain ⟨Ms', m, rfl⟩ : ∃ Ms' m, Ms = Ms' ++ [m] := by
      refine ⟨Ms.take l.length, Ms.getD l.length 0, ?_⟩
      have e := (List.take_append_drop l.length Ms).symm
      have hx : Ms.drop l.length = [Ms.getD l.length 0] := by
        rw [← List.getElem_cons_drop (show l.length < Ms.length by omega), List.drop_eq_nil_of_le (by omega)]
        rw [List.getD_eq_getElem?_getD, List.getElem?_eq_getElem (show l.length < Ms.length by omega)]
        rfl
      rw [hx] at e
      exact e
    have hl : Ms'.length = l.length := by rw [List.length_append, List.length_singleton] at h; omega
    obtain ⟨i1, i2⟩ := ih Ms' hl
    rw [pick_snoc l Ms' x m b hl, places_snoc]
    refine ⟨by rw [List.length_append, List.length_append, i1]; split <;> rfl, fun i y hy => ?_⟩
    by_cases hi : i < (pick l Ms' b).length
    · rw [List.getElem?_append_left hi] at hy
      obtain ⟨p, h1, h2⟩ := i2 i y hy
      have hp := (List.getElem?_eq_some_iff.mp h2).1
      exact ⟨p, by rw [List.getElem?_append_left (by omega)]; exact h1, by rw [List.getElem?_append_left hp]; exact h2⟩
    · rw [List.getElem?_append_right (by omega)] at hy
      by_cases hx : x = b
      · rw [if_pos hx] at hy
        have hj := (List.getElem?_eq_some_iff.mp hy).1
        rw [List.length_singleton] at hj
        rw [show i - (pick l Ms' b).length = 0 by omega] at hy
        cases hy
        refine ⟨l.length, ?_, by rw [List.getElem?_append_right (by omega), show l.length - Ms'.length = 0 by omega]; rfl⟩
        rw [if_pos hx, List.getElem?_append_right (by omega), show i - (places l b).length = 0 by omega]
        rfl
      · rw [if_neg hx] at hy
        simp at hy
def side (pl : Pln) (x : Bool) : List Int := if x = true then pl.1 else pl.2
theorem least_ok {ms Ms : List Int} (hps : ps.length = n + 1) (hms : ms.length = n) (h : SepOk n ps lb tl gp pl l) (h1 : OkSent ms pl.1) (h2 : OkSent ms pl.2) (hM : Least ps lb tl gp ms l Ms) :
    ∀ (k : Nat) m x y, Ms[k]? = some m → l[k]? = some x → (side pl x)[(l.take k).count x]? = some y → m ≤ y := by
  have hS : ∀ x, OkSent ms (side pl x) := fun x => by
    cases x
    · exact h2
    · exact h1
  have hF := sep_follows hps h
  intro k
  induction k using Nat.strongRecOn with
  | _ k ih =>
    intro m x y hm hx hy
    have hkl := (List.getElem?_eq_some_iff.mp hx).1
    rcases hM.val k m hm with rfl | ⟨s, w, ⟨hsk, hw⟩, rfl⟩
    · unfold ownM
      have e : l.getD k true = x := by rw [List.getD_eq_getElem?_getD, hx]; rfl
      rw [e]
      have hl := (List.getElem?_eq_some_iff.mp hy).1
      rw [(hS x).len] at hl
      exact (hS x).own _ _ _ (getD_get (d := 0) hl) hy
    · have hsk : s < k := hsk
      have hms2 : Ms[s]? = some (Ms.getD s 0) := getD_get (by rw [hM.len]; omega)
      rcases hw with ⟨rfl, he⟩ | ⟨c, hc, hlf, rfl, rfl, rfl⟩ | ⟨c, hc, hlf, rfl, rfl, rfl⟩
      · have hxs : l[s]? = some x := he.trans hx
        have hlt : (l.take s).count x < (l.take k).count x := by
          have h3 : (l.take (s + 1)).count x ≤ (l.take k).count x := by
            have : l.take (s + 1) = (l.take k).take (s + 1) := by rw [List.take_take, Nat.min_eq_left (by omega)]
            rw [this]
            exact (List.take_sublist _ _).count_le _
          rw [List.take_add_one, hxs, List.count_append] at h3
          simp at h3
          omega
        have hyl := (List.getElem?_eq_some_iff.mp hy).1
        have hys : (side pl x)[(l.take s).count x]? = some ((side pl x).getD ((l.take s).count x) 0) := getD_get (by omega)
        have h4 := ih s hsk _ x _ hms2 hxs hys
        have h5 := up_le' (hS x).up (Nat.le_of_lt hlt) hys hy
        omega
      · obtain ⟨b1, b2⟩ := bad_le hps hc
        obtain ⟨a1, a2, a3, a4, a5⟩ := lab_at h.ord hlf b2
        obtain ⟨q1, q2, q3⟩ := LL_iff.mp (hF.lab c hc hlf)
        have hp := placeOf_at (l := l) (b := false) (m := c.2) a2 (by rw [h.ord.ts]; exact b2)
        have hp2 := placeOf_at (l := l) (b := true) (m := c.1 + 1) (by omega) (by rw [h.ord.ls]; exact a1)
        have hx2 : x = false := by rw [hp.2.1] at hx; exact (Option.some.inj hx).symm
        subst hx2
        rw [hp.2.2] at hy
        have hy : pl.2[c.2 - 1]? = some y := hy
        have e1 : pl.2.getD (c.2 - 1) 0 = y := by rw [List.getD_eq_getElem?_getD, hy]; rfl
        have h4 : Ms.getD (placeOf l true (c.1 + 1)) 0 ≤ pl.1.getD c.1 0 := ih _ a3 _ true _ hms2 hp2.2.1 (by rw [hp2.2.2, Nat.add_sub_cancel]; exact getD_get (d := 0) q1)
        omega
      · obtain ⟨b1, b2⟩ := bad_le hps hc
        obtain ⟨a1, a2, a3, a4, a5⟩ := til_at hF.good hc b1 b2 hlf
        obtain ⟨q1, q2, q3⟩ := TL_iff.mp (hF.til c hc hlf)
        have hp := placeOf_at (l := l) (b := true) (m := c.1) a2 (by rw [h.ord.ls]; exact b1)
        have hp2 := placeOf_at (l := l) (b := false) (m := c.2 + 1) (by omega) (by rw [h.ord.ts]; exact a1)
        have hx2 : x = true := by rw [hp.2.1] at hx; exact (Option.some.inj hx).symm
        subst hx2
        rw [hp.2.2] at hy
        have hy : pl.1[c.1 - 1]? = some y := hy
        have e1 : pl.1.getD (c.1 - 1) 0 = y := by rw [List.getD_eq_getElem?_getD, hy]; rfl
        have h4 : Ms.getD (placeOf l false (c.2 + 1)) 0 ≤ pl.2.getD c.2 0 := ih _ a3 _ false _ hms2 hp2.2.1 (by rw [hp2.2.2, Nat.add_sub_cancel]; exact getD_get (d := 0) q2)
        omega
theorem pick_le {ms Ms : List Int} (hps : ps.length = n + 1) (hms : ms.length = n) (h : SepOk n ps lb tl gp pl l) (h1 : OkSent ms pl.1) (h2 : OkSent ms pl.2) (hM : Least ps lb tl gp ms l Ms) (x : Bool) :
    (pick l Ms x).length = (side pl x).length ∧ ∀ (i : Nat) a b, (pick l Ms x)[i]? = some a → (side pl x)[i]? = some b → a ≤ b := by
  obtain ⟨e1, e2⟩ := pick_at x l Ms hM.len
  refine ⟨?_, fun i a b ha hb => ?_⟩
  · rw [e1, places_len]
    cases x
    · rw [h.ord.ts]; exact (h2.len.trans hms).symm
    · rw [h.ord.ls]; exact (h1.len.trans hms).symm
  · obtain ⟨p, hp, hm⟩ := e2 i a ha
    obtain ⟨p1, p2, p3⟩ := places_at l x i p hp
    exact least_ok hps hms h h1 h2 hM p a x b hm p2 (by rw [p3]; exact hb)
end
end LT
/-! ## W19 -/
set_option Elab.async false
set_option linter.all false
set_option maxRecDepth 100000
set_option maxHeartbeats 4000000
namespace LT
open PySem PySem.Spec PyProof.Rows L2
section
variable {P : Program} {w : World} {K : PySem.W.Frag} {mg : Str → Option Value} {base : Heap}
/-! ### the law -/
theorem et_abs {σ : St} {F : Hp} {te : TE} {i : Int} (h : ET te σ F i) : ET (tCB (fun xs H Q => ∃ i, xs = [.int i] ∧ Q (.int (if i < 0 then -i else i)) H) (tCons te tNil)) σ F (if i < 0 then -i else i) := fun H e Q k =>
  h H e _ fun v F1 H1 g1 iv => ⟨i, by rw [show v = .int i from iv], k _ F1 H1 g1 rfl⟩
theorem cut_ints (ns : List Int) (a b : Option Int) : ∃ ms : List Int, cutV (ns.map V.int) a b = ms.map V.int ∧ ms.length ≤ ns.length := by
  unfold cutV
  rw [List.length_map, ← List.map_drop, ← List.map_take]
  exact ⟨_, rfl, by rw [List.length_take, List.length_drop]; omega⟩
theorem lc_go {σ : St} {H : Hp} {te tb : TE} {g : TG} {tt : TT} {vs : List Nat} {Q : VK} (h : te σ H fun v H1 => tLc (iList K (tC v)) g tt tb vs σ H1 Q) : tLc (iList K te) g tt tb vs σ H Q := h
theorem cons_go {σ : St} {H : Hp} {te : TE} {t : TA} {Q : List V → Hp → Prop} (h : te σ H fun x H1 => t σ H1 fun xs H2 => Q (x :: xs) H2) : tCons te t σ H Q := h
def spBag (K : PySem.W.Frag) : Sp := fun vs H Q _ => ∃ (a : Addr) (ns : List Int), vs = [.ref a] ∧ SqL K H a (ns.map V.int) ∧ ns.length ≤ 1000 ∧ ∀ b F2 H2, Ex F2 H2 → F2 b = none → Bag F2 H2 b → Q (.ref b) H2
abbrev N_law_bag : List Str := ["_law_script", "_law_cell"]
theorem sc_law_bag : FnScope N_law_bag ["_law_script"] (defScope s_law_bag) := ⟨rfl, rfl, rfl, by decide +kernel, rfl, by decide +kernel, by decide +kernel⟩
theorem ok_law_bag (T : Top K mg) : Cal P w K mg base 1 "_law_bag" (spBag K) := by
  obtain ⟨fd, Fd, b⟩ := T.f_law_bag
  refine ⟨_, fd, _, Fd.ok sc_law_bag ?len fun cdv Ar outer s H vs Q E hr h => nox_imp ?body, T.g_law_bag, Fd.kp, b⟩
  case len =>
    rintro vs H Q E ⟨a, ns, rfl, _⟩
    rfl
  case body =>
  have hu := hu_of hr
  refine ⟨_, (pss_one (ps_ret (pe_lst (pa_cons pe_int (pa_cons pe_int (pa_cons pe_int (pa_cons (pe_lc (own := [("_law_cell", 1)]) rfl sc_law_bag.nd (pi_list (pe_slice sl_list (pv 0) po_none (po_some pe_int))) (blkOk_by (N := N_law_bag) (sc := defScope s_law_bag) (own := [("_law_cell", 1)]) (by decide +kernel)) (fun _ _ _ _ _ => (pg_name (i := 1) sc_law_bag.nd rfl (by first | exact Or.inl rfl | exact Or.inr rfl))) (fun _ _ _ _ _ => pts_nil) (fun _ _ _ _ _ => (pe_callB call_abs (by rfl) T.m_abs (by decide +kernel) (pa_cons (pv 1) pa_nil)))) pa_nil))))))), ?_⟩
  obtain ⟨a, ns, rfl, hs, hl, q⟩ := h
  dsimp only [tRet]
  refine lst_go ?_
  dsimp only [tCons, tNil, tC]
  have e0 : Ex (fun _ => none) H := fun a o z => by cases z
  refine lc_go ?_
  refine ⟨.ref a, rfl, 63, rfl, a, ns.map V.int, rfl, hs, fun p hp => ?_⟩
  obtain ⟨ms, hm, hml⟩ := cut_ints ns none (some 63)
  rw [hm]
  have g : Grow (fun _ => none) H _ _ := .new (o := .lst (ms.map V.int)) e0 hp
  refine et_lcN (xs := ms) (p := fun _ => true) (f := fun i => if i < 0 then -i else i) (ei_list (et_c (x := ms) ⟨p, _, rfl, upd_same, all2_int ms⟩)) (fun _ => rfl) (fun x hx F1 v e i => eb_yes) (fun x hx F1 v e i _ => et_abs (et_var rfl i)) (by omega) _ g.fh _ fun v F1 H1 g1 iv => ?_
  refine ⟨(by decide : 4 ≤ sizeLine), fun b hb => ?_⟩
  have hF : F1 b = none := ex_none g1.fh hb
  exact q b F1 _ (ex_upd2 g1.fh hF) hF ⟨0, 1234567891, 0, v, _, upd_same, iv⟩
theorem od_list (o : Od) : o.str.cps.toList = o.l.map code := by
  show (o.l.map code).toArray.toList = _
  rw [List.toList_toArray]
theorem et_gtO {σ : St} {F : Hp} {ta tb : TE} {a b : Od} (h : ET ta σ F a) (h2 : ET tb σ F b) : ET (tOp (fun x y H Q => ∃ i j, x = .str i ∧ y = .str j ∧ Q (.bl (decide (j.cps.toList < i.cps.toList))) H) ta tb) σ F (decide (b.l.map code < a.l.map code)) :=
  et_op h h2 fun F1 H1 v w Q _ e1 hv hw k => ⟨a.str, b.str, hv, hw, by rw [od_list, od_list]; exact k _ F1 H1 (.refl e1) rfl⟩
theorem bd_board {bd : Pr} (h : OkBd bd) : isBoard bd = true := by
  have h1 := h.lo
  have h2 := h.le
  unfold isBoard
  rw [decide_eq_true h1, decide_eq_true (show 0 ≤ bd.2 by omega), decide_eq_true h2]
  rfl
def spLaw (K : PySem.W.Frag) : Sp := fun vs H Q _ => ∃ (a : Addr) (ns : List Int), vs = [.ref a] ∧ SqL K H a (ns.map V.int) ∧ ns.length ≤ 1000 ∧ ∀ H2, Q (.bl true) H2
abbrev N_law : List Str := ["_law_script", "_law_bag_here", "_law_turn", "_law_drawn", "_law_label", "_law_till", "_law_gap", "_law_book_here", "_law_plan_here", "_law_lines", "_law_least", "_law_k", "_law_first", "_law_then", "_law_wait", "_law_order", "_law_told"]
theorem sc_law : FnScope N_law ["_law_script"] (defScope s_law) := ⟨rfl, rfl, rfl, by decide +kernel, rfl, by decide +kernel, by decide +kernel⟩
theorem fn_law (T : Top K mg) {fd : FuncData} (Fd : FunD K "law" "law" (defArgs s_law) (defBody s_law) (defScope s_law) [] [] (He.ga K "law") fd) : FnOk P w K mg base CX0 9 (He.ga K "law") fd ["_law_script"] (spLaw K) := by
  refine Fd.ok sc_law ?len fun cdv Ar outer s H vs Q E hr h => nox_imp ?body
  case len =>
    rintro vs H Q E ⟨a, ns, rfl, _⟩
    rfl
  case body =>
  have hu := hu_of hr
  refine ⟨_, (pss_cons (ps_set (i := 1) sc_law.nd rfl (by first | exact Or.inl rfl | exact Or.inr rfl) (pe_cal (ok_law_bag T) hr (by decide) rfl (pa_cons (pv 0) pa_nil)))
    (pss_cons (ps_for PassesOwn.never rfl (pi_range1 (by rfl) T.m_range (pa_cons pe_int pa_nil)) (pg_name (i := 2) sc_law.nd rfl (by first | exact Or.inl rfl | exact Or.inr rfl)) (pss_cons (ps_asg (pe_tup (pa_cons (pe_cal (ok_law_book T) hr (by decide) rfl (pa_cons (pv 1) (pa_cons pe_int pa_nil))) (pa_cons (pe_cal (ok_law_board T) hr (by decide) rfl (pa_cons (pv 1) pa_nil)) (pa_cons (pe_cal (ok_law_board T) hr (by decide) rfl (pa_cons (pv 1) pa_nil)) (pa_cons (pe_cal (ok_law_board T) hr (by decide) rfl (pa_cons (pv 1) pa_nil)) pa_nil))))) (pg_tup rfl (pgs_cons (pg_name (i := 3) sc_law.nd rfl (by first | exact Or.inl rfl | exact Or.inr rfl)) (pgs_cons (pg_name (i := 4) sc_law.nd rfl (by first | exact Or.inl rfl | exact Or.inr rfl)) (pgs_cons (pg_name (i := 5) sc_law.nd rfl (by first | exact Or.inl rfl | exact Or.inr rfl)) (pgs_cons (pg_name (i := 6) sc_law.nd rfl (by first | exact Or.inl rfl | exact Or.inr rfl)) pgs_nil))))))
    (pss_cons (ps_par (i := 7) (j := 8) (by rfl) sc_law.nd rfl rfl (by decide) rfl rfl (pa_cons (pe_cal (ok_law_made T) hr (by decide) rfl (pa_cons (pv 1) (pa_cons (pv 3) pa_nil))) (pa_cons (pe_cal (ok_law_near_plan T) hr (by decide) rfl (pa_cons (pv 1) (pa_cons (pv 3) (pa_cons (pv 4) (pa_cons (pv 5) (pa_cons (pv 6) pa_nil)))))) pa_nil)) (by rfl))
    (pss_one (ps_if (pt_val (pe_cal (ok_is_safe T) hr (by decide) rfl (pa_cons (pv 7) (pa_cons (pv 4) (pa_cons (pv 5) (pa_cons (pv 6) (pa_cons (pv 8) pa_nil))))))) (pss_cons (ps_par (i := 9) (j := 10) (by rfl) sc_law.nd rfl rfl (by decide) rfl rfl (pa_cons (pe_cal (ok_lines_by T) hr (by decide) rfl (pa_cons (pv 7) (pa_cons (pv 4) (pa_cons (pv 5) (pa_cons (pv 8) pa_nil))))) (pa_cons (pe_cal (ok_order_followed T) hr (by decide) rfl (pa_cons (pv 7) (pa_cons (pv 4) (pa_cons (pv 5) (pa_cons (pv 6) (pa_cons (pv 8) pa_nil)))))) pa_nil)) (by rfl))
    (pss_one (ps_for PassesOwn.never rfl (pi_range1 (by rfl) T.m_range (pa_cons pe_int pa_nil)) (pg_name (i := 11) sc_law.nd rfl (by first | exact Or.inl rfl | exact Or.inr rfl)) (pss_cons (ps_par (i := 12) (j := 13) (by rfl) sc_law.nd rfl rfl (by decide) rfl rfl (pa_cons (pe_cal (ok_law_course T) hr (by decide) rfl (pa_cons (pv 1) (pa_cons (pe_ix ix_seq (pv 8) pe_int (fun _ _ => rfl)) (pa_cons (pv 4) pa_nil)))) (pa_cons (pe_cal (ok_law_course T) hr (by decide) rfl (pa_cons (pv 1) (pa_cons (pe_ix ix_seq (pv 8) pe_int (fun _ _ => rfl)) (pa_cons (pv 5) pa_nil)))) pa_nil)) (by rfl))
    (pss_cons (ps_if (PW.pt (pw_or (pt_not (pt_val (pe_met (ok_Line_is_course T) hr (by decide) (pe_ix ix_seq (pv 9) pe_int (fun _ _ => rfl)) (pa_cons (pv 12) pa_nil)))) (pw_or1 (pt_not (pt_val (pe_met (ok_Line_is_course T) hr (by decide) (pe_ix ix_seq (pv 9) pe_int (fun _ _ => rfl)) (pa_cons (pv 13) pa_nil))))))) (pss_one (ps_ret pe_bl)) pss_nil)
    (pss_cons (ps_set (i := 14) sc_law.nd rfl (by first | exact Or.inl rfl | exact Or.inr rfl) (pe_op op_add (pe_ix ix_seq (pv 6) pe_int (fun _ _ => rfl)) (pe_cal (ok_law_take T) hr (by decide) rfl (pa_cons (pv 1) (pa_cons (pe_op op_add (pe_op op_sub (pe_ix ix_seq (pv 6) pe_int (fun _ _ => rfl)) (pe_ix ix_seq (pv 6) pe_int (fun _ _ => rfl))) pe_int) pa_nil)))))
    (pss_cons (ps_set (i := 15) sc_law.nd rfl (by first | exact Or.inl rfl | exact Or.inr rfl) (pe_cal (ok_law_order_of T) hr (by decide) rfl (pa_cons (pv 12) (pa_cons (pv 13) (pa_cons (pv 14) (pa_cons (pe_cmpR op_eq (pv 11) pe_int (nomark _)) pa_nil))))))
    (pss_cons (ps_if (PW.pt (pw_or (pt_not (pt_val (pe_cal (ok_is_good T) hr (by decide) rfl (pa_cons (pv 7) (pa_cons (pv 15) pa_nil))))) (pw_or1 (pt_not (pt_val (pe_cal (ok_follows T) hr (by decide) rfl (pa_cons (pv 7) (pa_cons (pv 4) (pa_cons (pv 5) (pa_cons (pv 6) (pa_cons (pv 8) (pa_cons (pv 15) pa_nil)))))))))))) (pss_one (ps_ret pe_bl)) pss_nil)
    (pss_cons (ps_if (PW.pt (pw_or (pt_cmpR op_gt_str (pv 10) (pv 15) (nomark _)) (pw_or1 (pt_cmpR op_gt (pe_cal (ok_order_index T) hr (by decide) rfl (pa_cons (pv 7) (pa_cons (pv 10) pa_nil))) (pe_cal (ok_order_index T) hr (by decide) rfl (pa_cons (pv 7) (pa_cons (pv 15) pa_nil))) (nomark _))))) (pss_one (ps_ret pe_bl)) pss_nil)
    (pss_cons (ps_set (i := 16) sc_law.nd rfl (by first | exact Or.inl rfl | exact Or.inr rfl) (pe_cal (ok_least_plan T) hr (by decide) rfl (pa_cons (pv 7) (pa_cons (pv 4) (pa_cons (pv 5) (pa_cons (pv 6) (pa_cons (pv 15) pa_nil)))))))
    (pss_one (ps_if (PW.pt (pw_or (pt_not (pt_val (pe_cal (ok_law_not_later T) hr (by decide) rfl (pa_cons (pe_ix ix_seq (pv 16) pe_int (fun _ _ => rfl)) (pa_cons (pe_ix ix_seq (pv 8) pe_int (fun _ _ => rfl)) pa_nil))))) (pw_or1 (pt_not (pt_val (pe_cal (ok_law_not_later T) hr (by decide) rfl (pa_cons (pe_ix ix_seq (pv 16) pe_int (fun _ _ => rfl)) (pa_cons (pe_ix ix_seq (pv 8) pe_int (fun _ _ => rfl)) pa_nil)))))))) (pss_one (ps_ret pe_bl)) pss_nil)))))))))))) (pss_one (ps_if (pt_cmp (pc_notN (pe_cal (ok_order_followed T) hr (by decide) rfl (pa_cons (pv 7) (pa_cons (pv 4) (pa_cons (pv 5) (pa_cons (pv 6) (pa_cons (pv 8) pa_nil)))))))) (pss_one (ps_ret pe_bl)) pss_nil)))))))
    (pss_one (ps_ret pe_bl)))), ?_⟩
  obtain ⟨a, ns, rfl, hs, hl, q⟩ := h
  dsimp only [tSeq, tAsg]
  refine call_go ?_
  dsimp only [tCons, tNil]
  refine ⟨.ref a, rfl, a, ns, rfl, hs, hl, fun bq F1 H1 e1 hn1 hb1 => ?_⟩
  have S1 := BS.start e1 hn1 hb1
  dsimp only [gName]
  refine st_loop (xs := List.range 3) (fun i Fi σ' H' => BS bq F1 H1 Fi H' ∧ ∃ t2 t3 t4 t5 t6 t7 t8 t9 t10 t11 t12 t13 t14 t15 t16, σ' = [some (.ref a), some (.ref bq), t2, t3, t4, t5, t6, t7, t8, t9, t10, t11, t12, t13, t14, t15, t16])
    (ei_rngN (ea1 (et_nat (i := 3) (n := 3))) (by decide)) S1.fh (fun F2 H2 g2 => ⟨S1.step g2, none, none, none, none, none, none, none, none, none, none, none, none, none, none, none, rfl⟩) ?_ ?_
  · rintro N i x Fi σ' H' vt F2 H2 hx e2 ⟨Si, t2, t3, t4, t5, t6, t7, t8, t9, t10, t11, t12, t13, t14, t15, t16, rfl⟩ g2 iv k
    have S2 := Si.step g2
    have fin : ∀ F' H' σ', BS bq F1 H1 F' H' → Ex F2 F' → (∃ t2 t3 t4 t5 t6 t7 t8 t9 t10 t11 t12 t13 t14 t15 t16, σ' = [some (.ref a), some (.ref bq), t2, t3, t4, t5, t6, t7, t8, t9, t10, t11, t12, t13, t14, t15, t16]) → N σ' H' := fun F' H' σ' S e ⟨t2, t3, t4, t5, t6, t7, t8, t9, t10, t11, t12, t13, t14, t15, t16, h⟩ => k F' σ' H' (g2.ff.trans e) S.fh ⟨S, t2, t3, t4, t5, t6, t7, t8, t9, t10, t11, t12, t13, t14, t15, t16, h⟩
    clear k
    dsimp only [gName, tSeq, tAsg]
    refine tup_go ?_
    refine cons_go ?_
    refine call_b (args := (7, ())) S2 rfl (ea1 (et_nat (i := 7) (n := 7))) (by show 7 ≤ 7; decide) fun w3 F3 H3 c3 ⟨d, i3, hd⟩ => ?_
    have S3 := S2.call c3
    refine cons_go ?_
    refine call_b (args := ()) S3 rfl ea_nil trivial fun w4 F4 H4 c4 ⟨lb, i4, hlb⟩ => ?_
    have S4 := S3.call c4
    refine cons_go ?_
    refine call_b (args := ()) S4 rfl ea_nil trivial fun w5 F5 H5 c5 ⟨tl, i5, htl⟩ => ?_
    have S5 := S4.call c5
    refine cons_go ?_
    refine call_b (args := ()) S5 rfl ea_nil trivial fun w6 F6 H6 c6 ⟨gp, i6, hgp⟩ => ?_
    have S6 := S5.call c6
    refine ⟨(by decide : 4 ≤ sizeLine), fun tp htp => ?_⟩
    have gn : Grow F6 H6 _ _ := .new (o := .tup [w3, w4, w5, w6]) S6.fh htp
    have S7 := S6.step gn
    refine ⟨tp, [w3, w4, w5, w6], rfl, SqT.of upd_same, rfl, w3, _, rfl, w4, _, rfl, w5, _, rfl, w6, [], rfl, rfl, ?_⟩
    have e27 : Ex F2 (upd F6 tp (.tup [w3, w4, w5, w6])) := c3.ff.trans (c4.ff.trans (c5.ff.trans (c6.ff.trans gn.ff)))
    have i3 := Rep.mono (c4.ff.trans (c5.ff.trans (c6.ff.trans gn.ff))) i3
    have i4 := Rep.mono (c5.ff.trans (c6.ff.trans gn.ff)) i4
    have i5 := Rep.mono (c6.ff.trans gn.ff) i5
    have i6 := Rep.mono gn.ff i6
    generalize upd F6 tp (.tup [w3, w4, w5, w6]) = F7 at *
    generalize upd H6 tp (.tup [w3, w4, w5, w6]) = H7 at *
    obtain ⟨hd1, hd2, hd3⟩ := hd
    have hps := psD_len d
    have hms : (msD d).length = d.2.length := by unfold msD; rw [List.length_map]
    dsimp only [tSeq, tPar]
    refine cons_go ?_
    refine call_b (args := (d, ())) S7 rfl (ea1 (et_var rfl i3)) ⟨hd1, hd2, hd3⟩ fun w7 F8 H8 c8 i7 => ?_
    have i7 : Is F8 w7 (Bk.mk (C := cBook K) d.1 d.2) := i7
    have S8 := S7.call c8
    have i3 := Rep.mono c8.ff i3
    have i4 := Rep.mono c8.ff i4
    have i5 := Rep.mono c8.ff i5
    have i6 := Rep.mono c8.ff i6
    refine cons_go ?_
    refine call_b (args := (d, lb, tl, gp, ())) S8 rfl (ea_cons (et_var rfl i3) (ea_cons (et_var rfl i4) (ea2 (et_var rfl i5) (et_var rfl i6)))) hd3 fun w8 F9 H9 c9 ⟨pl, i8, hs1, hs2⟩ => ?_
    have S9 := S8.call c9
    have i4 := Rep.mono c9.ff i4
    have i5 := Rep.mono c9.ff i5
    have i6 := Rep.mono c9.ff i6
    have i7 := Rep.mono c9.ff i7
    have e29 : Ex F2 F9 := e27.trans (c8.ff.trans c9.ff)
    have hp1 : pl.1.length = d.2.length := hs1.len.trans hms
    have hp2 : pl.2.length = d.2.length := hs2.len.trans hms
    refine ⟨w7, w8, rfl, ?_⟩
    try dsimp only
    refine st_if (b := !someMeet (psD d) lb tl gp pl) (eb_B (et_call (A := HmArgs K) (args := (Bk.mk (C := cBook K) d.1 d.2, lb, tl, gp, pl, ())) (ea_cons (et_var rfl i7) (ea_cons (et_var rfl i4) (ea_cons (et_var rfl i5) (ea2 (et_var rfl i6) (et_var rfl i8))))) ⟨hd3, hp1, hp2⟩)) S9.fh (fun hsafe F10 H10 g10 => ?_) fun hsafe F10 H10 g10 => ?_
    rotate_left
    · /- not safe -/
      have hno : someMeet (psD d) lb tl gp pl = true := by revert hsafe; cases someMeet (psD d) lb tl gp pl <;> simp
      have S10 := S9.step g10
      have i4 := Rep.mono g10.ff i4
      have i5 := Rep.mono g10.ff i5
      have i6 := Rep.mono g10.ff i6
      have i7 := Rep.mono g10.ff i7
      have i8 := Rep.mono g10.ff i8
      have hval : oFol d.2.length (psD d) lb tl gp pl = none := by unfold oFol; rw [if_pos hno]
      refine st_no (eb_B (er_notN (b := true) (er_call (A := HmArgs K) (args := (Bk.mk (C := cBook K) d.1 d.2, lb, tl, gp, pl, ())) (ea_cons (et_var rfl i7) (ea_cons (et_var rfl i4) (ea_cons (et_var rfl i5) (ea2 (et_var rfl i6) (et_var rfl i8))))) ⟨hd3, hp1, hp2⟩) fun G v hv => ?_)) S10.fh fun F11 H11 g11 => fin F11 H11 _ (S10.step g11) (e29.trans (g10.ff.trans g11.ff)) ⟨_, _, _, _, _, _, _, _, _, _, _, _, _, _, _, rfl⟩
      have hv : Is G v (oFol d.2.length (psD d) lb tl gp pl) := hv
      rw [hval] at hv
      rw [show v = .non from hv]
      rfl
    have hno : someMeet (psD d) lb tl gp pl = false := by revert hsafe; cases someMeet (psD d) lb tl gp pl <;> simp
    have S10 := S9.step g10
    have i4 := Rep.mono g10.ff i4
    have i5 := Rep.mono g10.ff i5
    have i6 := Rep.mono g10.ff i6
    have i7 := Rep.mono g10.ff i7
    have i8 := Rep.mono g10.ff i8
    have hval : oFol d.2.length (psD d) lb tl gp pl = some (Od.mk (leastO d.2.length (psD d) lb tl gp pl)) := by
      unfold oFol
      rw [if_neg (by rw [hno]; exact Bool.false_ne_true)]
    dsimp only [tSeq]
    refine st_par (R := fun G v => Is G v (((⟨Bk.mk d.1 d.2, lb, pl.1⟩, ⟨Bk.mk d.1 d.2, tl, pl.2⟩) : LnK K × LnK K))) (S := fun G v => Is G v (oFol d.2.length (psD d) lb tl gp pl)) ?x1 (fun G e => ?x2) (fun e i => Rep.mono e i) S10.fh fun w9 w10 F11 H11 g11 i9 i10 => ?_
    case x1 => exact et_call (args := (Bk.mk (C := cBook K) d.1 d.2, lb, tl, pl, ())) (ea_cons (et_var rfl i7) (ea_cons (et_var rfl i4) (ea2 (et_var rfl i5) (et_var rfl i8)))) ⟨⟨hd1, hd2⟩, bd_board hlb, bd_board htl, hs1, hs2⟩
    case x2 => exact et_call (A := HmArgs K) (args := (Bk.mk (C := cBook K) d.1 d.2, lb, tl, gp, pl, ())) (ea_cons (et_var rfl (Rep.mono e i7)) (ea_cons (et_var rfl (Rep.mono e i4)) (ea_cons (et_var rfl (Rep.mono e i5)) (ea2 (et_var rfl (Rep.mono e i6)) (et_var rfl (Rep.mono e i8)))))) ⟨hd3, hp1, hp2⟩
    rw [hval] at i10
    have i10 : Is F11 w10 (Od.mk (leastO d.2.length (psD d) lb tl gp pl)) := i10
    have S11 := S10.step g11
    have i4 := Rep.mono g11.ff i4
    have i5 := Rep.mono g11.ff i5
    have i6 := Rep.mono g11.ff i6
    have i7 := Rep.mono g11.ff i7
    have i8 := Rep.mono g11.ff i8
    have e211 : Ex F2 F11 := e29.trans (g10.ff.trans g11.ff)
    refine st_loop (xs := List.range 4) (fun j Fj σ' H' => Ex F11 Fj ∧ BS bq F1 H1 Fj H' ∧ ∃ t11 t12 t13 t14 t15 t16, σ' = [some (.ref a), some (.ref bq), some vt, some w3, some w4, some w5, some w6, some w7, some w8, some w9, some w10, t11, t12, t13, t14, t15, t16])
      (ei_rngN (ea1 (et_nat (i := 4) (n := 4))) (by decide)) S11.fh (fun F12 H12 g12 => ⟨g12.ff, S11.step g12, _, _, _, _, _, _, rfl⟩) ?_ ?_
    rotate_left
    · rintro F12 σ' H12 e12 e12' ⟨_, S12, t11, t12, t13, t14, t15, t16, rfl⟩
      exact fin F12 H12 _ S12 (e211.trans e12) ⟨_, _, _, _, _, _, _, _, _, _, _, _, _, _, _, rfl⟩
    rintro N2 j y Fj σ' H' v11 F12 H12 hx12 e12 ⟨e11j, Sj, t11, t12, t13, t14, t15, t16, rfl⟩ g12 i11 k2
    have S12 := Sj.step g12
    have eA : Ex F11 F12 := e11j.trans g12.ff
    have i4 := Rep.mono eA i4
    have i5 := Rep.mono eA i5
    have i6 := Rep.mono eA i6
    have i7 := Rep.mono eA i7
    have i8 := Rep.mono eA i8
    have i9 := Rep.mono eA i9
    have i10 := Rep.mono eA i10
    dsimp only [gName, tSeq, tPar]
    refine cons_go ?_
    refine call_b (t := tCons (tOp (rIx K) (tVar 8) (tC (.int 0))) (tCons (tVar 4) tNil)) (args := (pl.1, lb, ())) S12 rfl (ea2 (et_fst (et_var rfl i8)) (et_var rfl i4)) ⟨by show pl.1.length ≤ 7; omega, hlb, hs1.up⟩ fun w12 F13 H13 c13 ⟨c1, i12, hc1⟩ => ?_
    have hc1 : OkCourse pl.1 lb c1 := hc1
    have S13 := S12.call c13
    have i4 := Rep.mono c13.ff i4
    have i5 := Rep.mono c13.ff i5
    have i6 := Rep.mono c13.ff i6
    have i7 := Rep.mono c13.ff i7
    have i8 := Rep.mono c13.ff i8
    have i9 := Rep.mono c13.ff i9
    have i10 := Rep.mono c13.ff i10
    have i11 := Rep.mono c13.ff i11
    refine cons_go ?_
    refine call_b (t := tCons (tOp (rIx K) (tVar 8) (tC (.int 1))) (tCons (tVar 5) tNil)) (args := (pl.2, tl, ())) S13 rfl (ea2 (et_snd (et_var rfl i8)) (et_var rfl i5)) ⟨by show pl.2.length ≤ 7; omega, htl, hs2.up⟩ fun w13 F14 H14 c14 ⟨c2, i13, hc2⟩ => ?_
    have hc2 : OkCourse pl.2 tl c2 := hc2
    have S14 := S13.call c14
    have i4 := Rep.mono c14.ff i4
    have i5 := Rep.mono c14.ff i5
    have i6 := Rep.mono c14.ff i6
    have i7 := Rep.mono c14.ff i7
    have i8 := Rep.mono c14.ff i8
    have i9 := Rep.mono c14.ff i9
    have i10 := Rep.mono c14.ff i10
    have i11 := Rep.mono c14.ff i11
    have i12 := Rep.mono c14.ff i12
    have hcl1 := hc1.len
    have hcl2 := hc2.len
    refine ⟨w12, w13, rfl, ?_⟩
    try dsimp only
    refine st_no (eb_or (a := false) (b := false) (eb_not (b := true) (eb_B (et_meth (m := "is_course") (x := (⟨Bk.mk d.1 d.2, lb, pl.1⟩ : LnK K)) (args := (c1, ())) (et_fst (et_var rfl i9)) (ea1 (et_var rfl i12)) ⟨by show pl.1.length ≤ 1000; omega, hc1⟩ (by rfl)))) fun _ => eb_not (b := true) (eb_B (et_meth (m := "is_course") (x := (⟨Bk.mk d.1 d.2, tl, pl.2⟩ : LnK K)) (args := (c2, ())) (et_snd (et_var rfl i9)) (ea1 (et_var rfl i13)) ⟨by show pl.2.length ≤ 1000; omega, hc2⟩ (by rfl)))) S14.fh fun F15 H15 g15 => ?_
    have S15 := S14.step g15
    have i4 := Rep.mono g15.ff i4
    have i5 := Rep.mono g15.ff i5
    have i6 := Rep.mono g15.ff i6
    have i7 := Rep.mono g15.ff i7
    have i8 := Rep.mono g15.ff i8
    have i9 := Rep.mono g15.ff i9
    have i10 := Rep.mono g15.ff i10
    have i11 := Rep.mono g15.ff i11
    have i12 := Rep.mono g15.ff i12
    have i13 := Rep.mono g15.ff i13
    dsimp only [tNext, tSeq, tAsg]
    refine op_go ?_
    refine et_fst (K := K) (ta := tVar 6) (x := gp) (et_var rfl i6) H15 S15.fh _ fun z1 F16 H16 g16 j1 => ?_
    have S16 := S15.step g16
    have i4 := Rep.mono g16.ff i4
    have i5 := Rep.mono g16.ff i5
    have i6 := Rep.mono g16.ff i6
    have i7 := Rep.mono g16.ff i7
    have i8 := Rep.mono g16.ff i8
    have i9 := Rep.mono g16.ff i9
    have i10 := Rep.mono g16.ff i10
    have i11 := Rep.mono g16.ff i11
    have i12 := Rep.mono g16.ff i12
    have i13 := Rep.mono g16.ff i13
    have hg1 := hgp.lo
    have hg2 := hgp.le
    have hg3 := hgp.wid
    refine call_b (t := tCons (tOp (rI0 fun i j => .int (i + j)) (tOp (rI0 fun i j => .int (i - j)) (tOp (rIx K) (tVar 6) (tC (.int 1))) (tOp (rIx K) (tVar 6) (tC (.int 0)))) (tC (.int 1))) tNil) (args := (gp.2 - gp.1 + 1, ())) S16 rfl (ea1 (et_add (et_sub (et_snd (et_var rfl i6)) (et_fst (et_var rfl i6))) et_int)) (okM (by omega) (by omega)) fun z2 F17 H17 c17 ⟨k17, j2, hk17⟩ => ?_
    have hk17 : (k17 : Int) < gp.2 - gp.1 + 1 := hk17
    have S17 := S16.call c17
    have i4 := Rep.mono c17.ff i4
    have i5 := Rep.mono c17.ff i5
    have i6 := Rep.mono c17.ff i6
    have i7 := Rep.mono c17.ff i7
    have i8 := Rep.mono c17.ff i8
    have i9 := Rep.mono c17.ff i9
    have i10 := Rep.mono c17.ff i10
    have i11 := Rep.mono c17.ff i11
    have i12 := Rep.mono c17.ff i12
    have i13 := Rep.mono c17.ff i13
    refine ⟨gp.1, k17, Rep.mono c17.ff j1, j2, ?_⟩
    obtain ⟨wt, hwt⟩ : ∃ m : Int, m = gp.1 + k17 := ⟨_, rfl⟩
    have i14 : Is F17 (.int (gp.1 + (k17 : Int))) wt := congrArg V.int hwt.symm
    dsimp only [gName]
    obtain ⟨tf, htf⟩ : ∃ b : Bool, b = decide (y = 1) := ⟨_, rfl⟩
    refine st_set (R := fun G v => Is G v (Od.mk (ordOf c1 c2 wt tf))) ?x3 S17.fh fun w15 F18 H18 g18 i15 => ?_
    case x3 => exact et_call (args := (c1, c2, wt, tf, ())) (ea_cons (et_var rfl i12) (ea_cons (et_var rfl i13) (ea2 (et_var rfl i14) ((et_eqN (et_var rfl i11) (et_nat (i := 1) (n := 1))).to htf.symm)))) ⟨by show c1.length ≤ 100; omega, by show c2.length ≤ 100; omega⟩
    have S18 := S17.step g18
    have i4 := Rep.mono g18.ff i4
    have i5 := Rep.mono g18.ff i5
    have i6 := Rep.mono g18.ff i6
    have i7 := Rep.mono g18.ff i7
    have i8 := Rep.mono g18.ff i8
    have i10 := Rep.mono g18.ff i10
    have hsep := sep_of (tf := tf) hps hp1 hp2 hno hc1 hc2 (show gp.1 ≤ wt by omega) (show wt ≤ gp.2 by omega)
    generalize ordOf c1 c2 wt tf = l at i15 hsep
    have hgood := sep_good hps hsep
    have hfol := sep_follows hps hsep
    have hpok := good_pl hps hgood
    have hlgood := least_good hps hsep
    try dsimp only
    refine st_no (eb_or (a := false) (b := false) (eb_not (b := true) (eb_B (et_call (args := (Bk.mk (C := cBook K) d.1 d.2, Od.mk l, ())) (ea2 (et_var rfl i7) (et_var rfl i15)) ⟨hd3, hgood⟩))) fun _ => eb_not (b := true) (eb_B (et_call (A := FlArgs K) (args := (Bk.mk (C := cBook K) d.1 d.2, lb, tl, gp, pl, Od.mk l, ())) (ea_cons (et_var rfl i7) (ea_cons (et_var rfl i4) (ea_cons (et_var rfl i5) (ea_cons (et_var rfl i6) (ea2 (et_var rfl i8) (et_var rfl i15)))))) ⟨hd3, hp1, hp2, hfol⟩))) S18.fh fun F19 H19 g19 => ?_
    have S19 := S18.step g19
    have i4 := Rep.mono g19.ff i4
    have i5 := Rep.mono g19.ff i5
    have i6 := Rep.mono g19.ff i6
    have i7 := Rep.mono g19.ff i7
    have i8 := Rep.mono g19.ff i8
    have i10 := Rep.mono g19.ff i10
    have i15 := Rep.mono g19.ff i15
    dsimp only [tNext, tSeq]
    refine st_no (eb_or (a := false) (b := false) (eb_test ((et_gtO (et_var rfl i10) (et_var rfl i15)).to (decide_eq_false (least_le hps hsep)))) fun _ => eb_test ((et_gtN (et_call (args := (Bk.mk (C := cBook K) d.1 d.2, Od.mk (leastO d.2.length (psD d) lb tl gp pl), ())) (ea2 (et_var rfl i7) (et_var rfl i10)) ⟨hd3, hlgood⟩) (et_call (args := (Bk.mk (C := cBook K) d.1 d.2, Od.mk l, ())) (ea2 (et_var rfl i7) (et_var rfl i15)) ⟨hd3, hgood⟩)).to (decide_eq_false (Nat.not_lt.mpr (least_idx hps hsep))))) S19.fh fun F20 H20 g20 => ?_
    have S20 := S19.step g20
    have i4 := Rep.mono g20.ff i4
    have i5 := Rep.mono g20.ff i5
    have i6 := Rep.mono g20.ff i6
    have i7 := Rep.mono g20.ff i7
    have i8 := Rep.mono g20.ff i8
    have i15 := Rep.mono g20.ff i15
    dsimp only [tNext, tSeq]
    refine st_set (er_call (A := FoArgs K) (args := (Bk.mk (C := cBook K) d.1 d.2, lb, tl, gp, Od.mk l, ())) (ea_cons (et_var rfl i7) (ea_cons (et_var rfl i4) (ea_cons (et_var rfl i5) (ea2 (et_var rfl i6) (et_var rfl i15))))) ⟨hd3, hgood, hpok⟩) S20.fh fun w16 F21 H21 g21 hM => ?_
    obtain ⟨Ms, i16, hMs⟩ := hM
    have i16 : Is F21 w16 (pick l Ms true, pick l Ms false) := i16
    have hMs : Least (psD d) lb tl gp (msD d) l Ms := hMs
    obtain ⟨p1, p2⟩ := pick_le hps hms hsep hs1 hs2 hMs true
    obtain ⟨p3, p4⟩ := pick_le hps hms hsep hs1 hs2 hMs false
    have p1 : (pick l Ms true).length = pl.1.length := p1
    have p3 : (pick l Ms false).length = pl.2.length := p3
    have S21 := S20.step g21
    have i8 := Rep.mono g21.ff i8
    try dsimp only
    refine st_no (eb_or (a := false) (b := false) (eb_not (b := true) (eb_B (et_call (args := (pick l Ms true, pl.1, ())) (ea2 (et_fst (et_var rfl i16)) (et_fst (et_var rfl i8))) ⟨by show (pick l Ms true).length ≤ 100; omega, p1, p2⟩))) fun _ => eb_not (b := true) (eb_B (et_call (args := (pick l Ms false, pl.2, ())) (ea2 (et_snd (et_var rfl i16)) (et_snd (et_var rfl i8))) ⟨by show (pick l Ms false).length ≤ 100; omega, p3, p4⟩))) S21.fh fun F22 H22 g22 => ?_
    have e22 : Ex F12 F22 := c13.ff.trans (c14.ff.trans (g15.ff.trans (g16.ff.trans (c17.ff.trans (g18.ff.trans (g19.ff.trans (g20.ff.trans (g21.ff.trans g22.ff))))))))
    exact k2 F22 _ H22 (g12.ff.trans e22) g22.fh ⟨eA.trans e22, S21.step g22, _, _, _, _, _, _, rfl⟩
  rintro F2 σ' H2 e2 e2' ⟨S2, t2, t3, t4, t5, t6, t7, t8, t9, t10, t11, t12, t13, t14, t15, t16, rfl⟩
  dsimp only
  exact q _

end
end LT
/-! ## LEnd -/
set_option Elab.async false
set_option linter.all false
set_option maxRecDepth 100000
set_option maxHeartbeats 0
/-! The join. -/
namespace LT
open PySem PySem.Spec PyProof.Rows L2
theorem facts {P : Program} {w : World} {K : PySem.W.Frag} {h : Heap} {mg : Str → Option Value} {f : Addr} (X : K.In h) (G : h.Ns mainGlobals mg) (hfa : mg ("law" : Str) = some (.ref f)) (c : LHk.SaysZ exB fa fn K) :
    ∃ fd : FuncData, (∀ (s : Shared) (v : Value), BindsTo s fd ⟨[v], []⟩ [("_law_script", v)]) ∧ ∀ base : Heap, K.In base → base.Ns mainGlobals mg → FnOk P w K mg base CX0 9 f fd ["_law_script"] (spLaw K) := by
  have T : Top K mg := ⟨c, h, X, G⟩
  obtain ⟨fd, F, _⟩ := T.f_law
  have e := hfa.symm.trans T.g_law
  cases e
  have b := FunD.bindsA (ps := ["_law_script"]) F fun _ _ _ _ _ _ us hl => match us, hl with | [_], _ => rfl
  exact ⟨fd, fun s v => b s [v] rfl, fun base _ _ => fn_law T F⟩
end LT
open PySem PySem.W PySem.Calls PyProof.Rows
theorem PySem.Challenge.cw_labeltill_k01_whole_courses_and_orders_holds : PySem.Challenge.rw_labeltill_k01_whole_courses_and_orders.Holds := by
  w_on; o_law
  refine HandSHeadRun.head_any (r := OpenLaw.row PySem.Challenge.rw_labeltill_k01_whole_courses_and_orders) (q := view (OpenLaw.row PySem.Challenge.rw_labeltill_k01_whole_courses_and_orders).prog [70]) (H := LT.hk) (ob := LT.ob) (M := 20000) (loose := LT.names) (d := HandSHeadRun.topDef (OpenLaw.row PySem.Challenge.rw_labeltill_k01_whole_courses_and_orders).prog 70) (kwd := []) LT.ob_eq
    (by kernel_rfl) (fun s => by kernel_rfl) LT.run (by kernel_rfl) (by kernel_rfl) (by kernel_rfl) (by rfl) (by first | assumption | decide +kernel) (by decide +kernel) ⟨rfl, rfl, rfl, rfl, rfl, by decide +kernel⟩ ?hw ?hc
  case hw => w_witness2
  case hc =>
    refine L2.walk_ofE (l := PySem.Challenge.rw_labeltill_k01_whole_courses_and_orders) (n := 63) (k := 9) (x := "_law_script") (CX := L2.CX0) rfl (by decide) (by kernel_rfl) ⟨rfl, by decide, by decide⟩ ?F (fun _ _ _ _ z => z)
    intro w mg fa h Y G hmg0
    obtain ⟨K, KX, c⟩ := Y
    have hmg : mg ("law" : PySem.Str) = some (.ref fa) := by
      have e : (HandSHeadRun.topDef (OpenLaw.row PySem.Challenge.rw_labeltill_k01_whole_courses_and_orders).prog 70).name = ("law" : PySem.Str) := by kernel_rfl
      rw [← e]
      exact hmg0
    obtain ⟨fd, hb, hF⟩ := LT.facts (P := (PySem.Challenge.rw_labeltill_k01_whole_courses_and_orders).prog) (w := w) KX G hmg c
    exact ⟨K, fd, LT.spLaw K, KX, hb, fun H a ns hl _ hS => ⟨a, ns, rfl, hS, by omega, fun _ => rfl⟩, hF⟩
