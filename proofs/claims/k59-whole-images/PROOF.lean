import PyProof.Rows.All
import Wide.All
import OpenK.AllK
import Wide.FinOn
import HandS.ForMost
import HandS.Conv
import HandS.Gcd
import HandS.Deep
import HandS.IsInst
import HandS.SetKeys
import HandS.Defaults
import HandS.TupLen
import HandS.Zip
import KE.KMathGC
import KE.GoesNew
import KE.GoesEnum
import HandS.Strs
import HandS.TupSets
import HandS.HeadHook2
import PyProof.WalkLemmas
import HandS.RepeatKit
import HandS.SetBool
import KE.SortData
import KE.KDictList
import HandS.Sort
import HandS.BoundDict
import HandS.MethStar
import HandS.Star
import KE.OsSorts
import HandS.Walk
import KE.KStateDown
import Lean
import HandS.Exc
import HandS.More
import HandS.WordsExc
import HandS.Head0
import HandS.Head1
import HandS.Head2
import HandS.HeadEnd
import HandS.HeadHook1
import PySem.Challenge.RW_peermend_k59_whole_images_counted_by_wri
section
set_option Elab.async false
set_option maxRecDepth 100000
set_option maxHeartbeats 4000000
namespace Pm
open PySem L2

/-! ### the text by places -/
def top (i : Nat) : Stmt := PySem.Challenge.pw_peermend_k59_whole_images_counted_by_wri.main.body.getD i (.Pass ⟨0, 0, 0, 0⟩)

/-! ### heaps: what is tracked stays -/
abbrev Av := Addr → Prop
/-- all that is tracked stays, but what M holds -/
def ExA (M : Av) (H H' : Hp) : Prop := ∀ a o, ¬ M a → H a = some o → H' a = some o
def Ex (H H' : Hp) : Prop := ∀ a o, H a = some o → H' a = some o
def Dom (H : Hp) : Av := fun a => H a ≠ none
theorem Ex.refl (H : Hp) : Ex H H := fun _ _ h => h
theorem Ex.trans {H H1 H2 : Hp} (a : Ex H H1) (b : Ex H1 H2) : Ex H H2 := fun x o h => b x o (a x o h)
theorem Ex.a {H H' : Hp} (e : Ex H H') {M : Av} : ExA M H H' := fun a o _ h => e a o h
theorem Ex.new {H : Hp} {p : Addr} {o : HO} (h : H p = none) : Ex H (upd H p o) := fun a u e => by
  rw [upd_ne (ne_of_none e h)]
  exact e
theorem Ex.mut {H H' : Hp} {p : Addr} {o : HO} (e : Ex H H') (h : H p = none) : Ex H (upd H' p o) := fun a u ha => by
  rw [upd_ne (ne_of_none ha h)]
  exact e a u ha
theorem Ex.none {H H' : Hp} {p : Addr} (e : Ex H H') (h : H' p = none) : H p = none := by
  cases h1 : H p with
  | none => rfl
  | some o => rw [e p o h1] at h; cases h
theorem Ex.dom {H H' : Hp} (e : Ex H H') {a : Addr} (h : Dom H a) : Dom H' a := fun q => h (e.none q)
theorem dom_of {H : Hp} {a : Addr} {o : HO} (h : H a = some o) : Dom H a := fun q => by rw [h] at q; cases q
theorem Ex.rd {H H' : Hp} {a : Addr} {u : HO} (e : Ex H H') (h : Rd H a u) : Rd H' a u := by
  rcases h with h | ⟨o, h⟩
  · exact Or.inl (e a _ h)
  · exact Or.inr ⟨o, e a _ h⟩
theorem Ex.l {K : PySem.W.Frag} {H H' : Hp} {a : Addr} {xs : List V} (e : Ex H H') (h : SqL K H a xs) : SqL K H' a xs := by
  rcases h with h | h
  · exact Or.inl (e.rd h)
  · exact Or.inr h
theorem Ex.t {K : PySem.W.Frag} {H H' : Hp} {a : Addr} {xs : List V} (e : Ex H H') (h : SqT K H a xs) : SqT K H' a xs := by
  rcases h with h | h
  · exact Or.inl (e.rd h)
  · exact Or.inr h
theorem ExA.rd {M : Av} {H H' : Hp} {a : Addr} {u : HO} (e : ExA M H H') (m : ¬ M a) (h : Rd H a u) : Rd H' a u := by
  rcases h with h | ⟨o, h⟩
  · exact Or.inl (e a _ m h)
  · exact Or.inr ⟨o, e a _ m h⟩
theorem ExA.trans {M : Av} {H H1 H2 : Hp} (a : ExA M H H1) (b : ExA M H1 H2) : ExA M H H2 := fun x o m h => b x o m (a x o m h)
/-- an object of M is stored -/
theorem ExA.put {M : Av} {H : Hp} {p : Addr} {o : HO} (h : M p) : ExA M H (upd H p o) := fun a u m e => by
  have ne : a ≠ p := fun q => m (by rw [q]; exact h)
  rw [upd_ne ne]
  exact e

/-! ### what stands for what -/
/-- a list, a tuple that is read, none of M's: of the heap, or of the module -/
def LstA (K : PySem.W.Frag) (M : Av) (H : Hp) (a : Addr) (us : List V) : Prop := (¬ M a ∧ Rd H a (.lst us)) ∨ SqL K (fun _ => none) a us
def TupA (K : PySem.W.Frag) (M : Av) (H : Hp) (a : Addr) (us : List V) : Prop := (¬ M a ∧ Rd H a (.tup us)) ∨ SqT K (fun _ => none) a us
section
variable {K : PySem.W.Frag} {M M' : Av} {H H' : Hp} {a : Addr} {us : List V}
theorem ex_none (H : Hp) : Ex (fun _ => Option.none) H := fun _ _ h => by cases h
theorem LstA.sq (h : LstA K M H a us) : SqL K H a us := by
  rcases h with ⟨_, h⟩ | h
  · exact Or.inl h
  · exact (ex_none H).l h
theorem TupA.sq (h : TupA K M H a us) : SqT K H a us := by
  rcases h with ⟨_, h⟩ | h
  · exact Or.inl h
  · exact (ex_none H).t h
theorem LstA.mono (e : ExA M H H') (h : LstA K M H a us) : LstA K M H' a us := by
  rcases h with ⟨m, h⟩ | h
  · exact .inl ⟨m, e.rd m h⟩
  · exact .inr h
theorem TupA.mono (e : ExA M H H') (h : TupA K M H a us) : TupA K M H' a us := by
  rcases h with ⟨m, h⟩ | h
  · exact .inl ⟨m, e.rd m h⟩
  · exact .inr h
theorem LstA.weak (w : ∀ a, M' a → M a) (h : LstA K M H a us) : LstA K M' H a us := by
  rcases h with ⟨m, h⟩ | h
  · exact .inl ⟨fun q => m (w _ q), h⟩
  · exact .inr h
theorem TupA.weak (w : ∀ a, M' a → M a) (h : TupA K M H a us) : TupA K M' H a us := by
  rcases h with ⟨m, h⟩ | h
  · exact .inl ⟨fun q => m (w _ q), h⟩
  · exact .inr h
theorem LstA.new {H0 : Hp} (h : H a = some (.lst us)) (h0 : H0 a = none) : LstA K (Dom H0) H a us := .inl ⟨fun q => q h0, Rd.of h⟩
theorem TupA.new {H0 : Hp} (h : H a = some (.tup us)) (h0 : H0 a = none) : TupA K (Dom H0) H a us := .inl ⟨fun q => q h0, Rd.of h⟩
end
/-- how data of Lean's stand for values in a heap; none of M's objects is used -/
structure Rp (K : PySem.W.Frag) (α : Type) where
  rel : Av → Hp → V → α → Prop
  mono : ∀ {M : Av} {H H' : Hp} {v : V} {x : α}, ExA M H H' → rel M H v x → rel M H' v x
  weak : ∀ {M M' : Av} {H : Hp} {v : V} {x : α}, (∀ a, M' a → M a) → rel M H v x → rel M' H v x
theorem pmono {α β : Type} {F G : α → β → Prop} {xs : List α} {ys : List β} (h : Paired F xs ys) (k : ∀ a b, F a b → G a b) : Paired G xs ys := Paired.mapP h k
abbrev vn (n : Nat) : V := .int (n : Int)
def none_ : Av := fun _ => False
section
variable (K : PySem.W.Frag)
def rNat : Rp K Nat := ⟨fun _ _ v n => v = vn n, fun _ h => h, fun _ h => h⟩
def rInt : Rp K Int := ⟨fun _ _ v n => v = .int n, fun _ h => h, fun _ h => h⟩
def rBool : Rp K Bool := ⟨fun _ _ v n => v = .bl n, fun _ h => h, fun _ h => h⟩
variable {K}
def rL {α : Type} (r : Rp K α) : Rp K (List α) :=
  ⟨fun M H v xs => ∃ a us, v = .ref a ∧ LstA K M H a us ∧ Paired (r.rel M H) us xs,
   fun e ⟨a, us, h1, h2, h3⟩ => ⟨a, us, h1, h2.mono e, pmono h3 fun _ _ q => r.mono e q⟩,
   fun w ⟨a, us, h1, h2, h3⟩ => ⟨a, us, h1, h2.weak w, pmono h3 fun _ _ q => r.weak w q⟩⟩
/-- the same as a tuple -/
def rT {α : Type} (r : Rp K α) : Rp K (List α) :=
  ⟨fun M H v xs => ∃ a us, v = .ref a ∧ TupA K M H a us ∧ Paired (r.rel M H) us xs,
   fun e ⟨a, us, h1, h2, h3⟩ => ⟨a, us, h1, h2.mono e, pmono h3 fun _ _ q => r.mono e q⟩,
   fun w ⟨a, us, h1, h2, h3⟩ => ⟨a, us, h1, h2.weak w, pmono h3 fun _ _ q => r.weak w q⟩⟩
/-- a tuple of two, a list of two, None or more -/
def rP {α β : Type} (r : Rp K α) (s : Rp K β) : Rp K (α × β) :=
  ⟨fun M H v x => ∃ a u w, v = .ref a ∧ TupA K M H a [u, w] ∧ r.rel M H u x.1 ∧ s.rel M H w x.2,
   fun e ⟨a, u, w, h1, h2, h3, h4⟩ => ⟨a, u, w, h1, h2.mono e, r.mono e h3, s.mono e h4⟩,
   fun k ⟨a, u, w, h1, h2, h3, h4⟩ => ⟨a, u, w, h1, h2.weak k, r.weak k h3, s.weak k h4⟩⟩
def rP3 {α β γ : Type} (r : Rp K α) (s : Rp K β) (t : Rp K γ) : Rp K (α × β × γ) :=
  ⟨fun M H v x => ∃ a u w z, v = .ref a ∧ TupA K M H a [u, w, z] ∧ r.rel M H u x.1 ∧ s.rel M H w x.2.1 ∧ t.rel M H z x.2.2,
   fun e ⟨a, u, w, z, h1, h2, h3, h4, h5⟩ => ⟨a, u, w, z, h1, h2.mono e, r.mono e h3, s.mono e h4, t.mono e h5⟩,
   fun k ⟨a, u, w, z, h1, h2, h3, h4, h5⟩ => ⟨a, u, w, z, h1, h2.weak k, r.weak k h3, s.weak k h4, t.weak k h5⟩⟩
def rL2 {α β : Type} (r : Rp K α) (s : Rp K β) : Rp K (α × β) :=
  ⟨fun M H v x => ∃ a u w, v = .ref a ∧ LstA K M H a [u, w] ∧ r.rel M H u x.1 ∧ s.rel M H w x.2,
   fun e ⟨a, u, w, h1, h2, h3, h4⟩ => ⟨a, u, w, h1, h2.mono e, r.mono e h3, s.mono e h4⟩,
   fun k ⟨a, u, w, h1, h2, h3, h4⟩ => ⟨a, u, w, h1, h2.weak k, r.weak k h3, s.weak k h4⟩⟩
def rO {α : Type} (r : Rp K α) : Rp K (Option α) :=
  ⟨fun M H v x => match x with | none => v = .non | some y => r.rel M H v y,
   fun {M H H' v x} e h => by cases x with | none => exact h | some y => exact r.mono e h,
   fun {M M' H v x} w h => by cases x with | none => exact h | some y => exact r.weak w h⟩
end
section
variable {K : PySem.W.Frag} {α β : Type} {r : Rp K α} {s : Rp K β} {M M' : Av} {H H' : Hp} {v : V}
theorem Rp.ex (r : Rp K α) {x : α} (e : Ex H H') (h : r.rel M H v x) : r.rel M H' v x := r.mono e.a h
theorem Rp.none_ (r : Rp K α) {x : α} (h : r.rel M H v x) : r.rel none_ H v x := r.weak (fun _ q => q.elim) h
theorem pair_nat {xs : List Nat} {us : List V} (h : Paired ((rNat K).rel M H) us xs) : us = xs.map vn := by
  induction h with
  | nil => rfl
  | cons h _ ih =>
    have e : _ = vn _ := h
    rw [e, ih]
    rfl
theorem nat_pair (xs : List Nat) : Paired ((rNat K).rel M H) (xs.map vn) xs := by
  induction xs with
  | nil => exact .nil
  | cons x r ih => exact .cons rfl ih
theorem pair_int {xs : List Int} {us : List V} (h : Paired ((rInt K).rel M H) us xs) : us = xs.map V.int := by
  induction h with
  | nil => rfl
  | cons h _ ih =>
    have e : _ = V.int _ := h
    rw [e, ih]
    rfl
theorem int_pair (xs : List Int) : Paired ((rInt K).rel M H) (xs.map V.int) xs := by
  induction xs with
  | nil => exact .nil
  | cons x r ih => exact .cons rfl ih
theorem vn_int (xs : List Nat) : xs.map vn = (xs.map fun (n : Nat) => (n : Int)).map V.int := by
  rw [List.map_map]
  rfl
/-- a list of naturals -/
theorem rLn {xs : List Nat} (h : (rL (rNat K)).rel M H v xs) : ∃ a, v = .ref a ∧ LstA K M H a (xs.map vn) := by
  obtain ⟨a, us, h1, h2, h3⟩ := h
  rw [pair_nat h3] at h2
  exact ⟨a, h1, h2⟩
theorem rLn' {xs : List Nat} {a : Addr} (h : LstA K M H a (xs.map vn)) : (rL (rNat K)).rel M H (.ref a) xs := ⟨a, _, rfl, h, nat_pair xs⟩
theorem rTn {xs : List Nat} (h : (rT (rNat K)).rel M H v xs) : ∃ a, v = .ref a ∧ TupA K M H a (xs.map vn) := by
  obtain ⟨a, us, h1, h2, h3⟩ := h
  rw [pair_nat h3] at h2
  exact ⟨a, h1, h2⟩
theorem rTn' {xs : List Nat} {a : Addr} (h : TupA K M H a (xs.map vn)) : (rT (rNat K)).rel M H (.ref a) xs := ⟨a, _, rfl, h, nat_pair xs⟩
theorem pair_at {F : V → α → Prop} : ∀ {us : List V} {xs : List α}, Paired F us xs → ∀ {i : Nat} {x : α}, xs[i]? = some x → ∃ u, us[i]? = some u ∧ F u x
  | _, _, .nil, i, x, h => by simp at h
  | _, _, .cons (a := u) (b := y) q t, 0, x, h => by
    have e : y = x := Option.some.inj h
    exact ⟨u, rfl, e ▸ q⟩
  | _, _, .cons q t, i + 1, x, h => pair_at t (by simpa using h)
theorem at_pair {F : V → α → Prop} : ∀ {us : List V} {xs : List α}, Paired F us xs → ∀ {i : Nat} {u : V}, us[i]? = some u → ∃ x, xs[i]? = some x ∧ F u x
  | _, _, .nil, i, x, h => by simp at h
  | _, _, .cons (a := u) (b := y) q t, 0, x, h => by
    have e : u = x := Option.some.inj h
    exact ⟨y, rfl, e ▸ q⟩
  | _, _, .cons q t, i + 1, x, h => at_pair t (by simpa using h)
theorem at_pairX {α β : Type} {F : α → β → Prop} : ∀ {us : List α} {xs : List β}, Paired F us xs → ∀ {i : Nat} {u : α}, us[i]? = some u → ∃ x, xs[i]? = some x ∧ F u x
  | _, _, .nil, i, x, h => by simp at h
  | _, _, .cons (a := u) (b := y) q t, 0, x, h => by
    have e : u = x := Option.some.inj h
    exact ⟨y, rfl, e ▸ q⟩
  | _, _, .cons q t, i + 1, x, h => at_pairX t (by simpa using h)
theorem pair_snoc {F : V → α → Prop} : ∀ {us : List V} {xs : List α}, Paired F us xs → ∀ {u : V} {x : α}, F u x → Paired F (us ++ [u]) (xs ++ [x])
  | _, _, .nil, _, _, q => .cons q .nil
  | _, _, .cons p t, _, _, q => .cons p (pair_snoc t q)
end

/-! ### promises -/
/-- what a def hands back: new data, all that stood stands -/
def Ret {K : PySem.W.Frag} {α : Type} (r : Rp K α) (y : α) (H : Hp) (Q : VK) : Prop := ∀ v H', Ex H H' → r.rel (Dom H) H' v y → Q v H'
/-- a def of the text that keeps its promise, as its callers find it -/
structure Df (P : Program) (w : World) (K : PySem.W.Frag) (mg : Str → Option Value) (base : Heap) (x : Str) (k : Nat) (ps : List Str) (sp : Sp) : Prop where
  ex : ∃ f fd, FnOk P w K mg base CX0 k f fd ps sp ∧ mg x = some (.ref f) ∧ PySem.W.keepIn K (.ref f) = true ∧ Binds K fd ps []
theorem pe_callD {X : Cx} {x : Str} {k : Nat} {ps : List Str} {sp : Sp} {e : Expr} {es : List Expr} {t : TA} {p pos : Pos} (F : Df X.prog X.w X.K X.mg X.base x k ps sp) (hr : Room k X.A) (hg : Gl X x) (ha : PA X (e :: es) t)
    (hdb : (x == ("__debug__" : Str)) = false := by decide) (he : starEach (e :: es) X.env = (false, eval e X.env) :: starEach es X.env := by rfl) (hpl : (backTo pos (starEach es X.env)).any (·.1) = false := by rfl) :
    PE X (.Call (.Name x p) (e :: es) [] pos) (tCall sp [] E0 t) := by
  obtain ⟨f, fd, F, hm, hk, hb⟩ := F.ex
  exact pe_call F hr hg hm hk hb .nil pass0 ha hdb he hpl
/-! ### names of the module -/
structure GInt (mg : Str → Option Value) (x : Str) (i : Int) : Prop where
  ex : ∃ t, mg x = some (.int i t)
theorem pe_globI {X : Cx} {x : Str} {i : Int} {pos : Pos} (hg : Gl X x) (h : GInt X.mg x i) (hd : (x == ("__debug__" : Str)) = false := by decide) : PE X (.Name x pos) (tC (.int i)) := by
  obtain ⟨t, h⟩ := h.ex
  exact pe_glob hg h ⟨t, rfl⟩ hd
theorem pe_globR {X : Cx} {x : Str} {a : Addr} {pos : Pos} (hg : Gl X x) (h : X.mg x = some (.ref a)) (hd : (x == ("__debug__" : Str)) = false := by decide) : PE X (.Name x pos) (tC (.ref a)) := pe_glob hg h rfl hd

/-! ### the built-in names that the text leaves as they are -/
structure Txt (mg : Str → Option Value) : Prop where
  b_len : mg "len" = none
  b_min : mg "min" = none
  b_max : mg "max" = none
  b_range : mg "range" = none
  b_enumerate : mg "enumerate" = none
  b_sum : mg "sum" = none
  b_zip : mg "zip" = none
  b_sorted : mg "sorted" = none
  b_tuple : mg "tuple" = none
  b_list : mg "list" = none
  b_divmod : mg "divmod" = none
  b_int : mg "int" = none
  b_isinstance : mg "isinstance" = none
  b_bool : mg "bool" = none
/-! ### readings, step by step -/
section
variable {σ : L2.St} {H : Hp} {Q : VK} {v x y : V} {i j : Int} {ta tb te : TE} {D : Ends} {K : PySem.W.Frag}
theorem x_var {i : Nat} (h : σ[i]? = some (some v)) (q : Q v H) : tVar i σ H Q := ⟨v, h, q⟩
theorem x_c (q : Q v H) : tC v σ H Q := q
theorem x_op {r : R2} (q : ta σ H fun x H1 => tb σ H1 fun y H2 => r x y H2 Q) : tOp r ta tb σ H Q := q
theorem x_un {r : V → Hp → VK → Prop} (q : ta σ H fun x H1 => r x H1 Q) : tUn r ta σ H Q := q
theorem x_I0 {g : Int → Int → V} (q : Q (g i j) H) : rI0 g (.int i) (.int j) H Q := ⟨i, j, rfl, rfl, q⟩
theorem x_I {C : Int → Int → Prop} {g : Int → Int → V} (c : C i j) (q : Q (g i j) H) : rI C g (.int i) (.int j) H Q := ⟨i, j, rfl, rfl, c, q⟩
theorem x_U {g : Int → V} (q : Q (g i) H) : rU g (.int i) H Q := ⟨i, rfl, q⟩
theorem x_eq (h : scal x y = true) (q : Q (.bl (decide (x = y))) H) : rEq x y H Q := ⟨h, q⟩
theorem x_ne (h : scal x y = true) (q : Q (.bl (!decide (x = y))) H) : rNe x y H Q := ⟨h, q⟩
theorem x_cb {r : List V → Hp → VK → Prop} {t : TA} (q : t σ H fun vs H1 => r vs H1 Q) : tCB r t σ H Q := q
theorem x_call {sp : Sp} {E : XK} {t : TA} (q : t σ H fun vs H1 => sp (vs ++ []) H1 Q E) : tCall sp [] E t σ H Q := q
theorem x_nil {Q : List V → Hp → Prop} (q : Q [] H) : tNil σ H Q := q
theorem x_cons {Q : List V → Hp → Prop} {tr : TA} (q : ta σ H fun x H1 => tr σ H1 fun xs H2 => Q (x :: xs) H2) : tCons ta tr σ H Q := q
theorem x_test {Q : Bool → Hp → Prop} (q : te σ H fun x H1 => ∃ k, x = .bl k ∧ Q k H1) : tTest te σ H Q := q
theorem x_tB {Q : Bool → Hp → Prop} (q : te σ H fun x H1 => ∃ k, x = .bl k ∧ Q k H1) : tB te σ H Q := q
theorem x_bl {b : Bool} {R : Bool → Prop} (q : R b) : ∃ k, V.bl b = V.bl k ∧ R k := ⟨b, rfl, q⟩
theorem x_or {t u : TT} {Q : Bool → Hp → Prop} (q : t σ H fun c H1 => if c = true then Q true H1 else u σ H1 Q) : tOr t u σ H Q := q
theorem x_and {t u : TT} {Q : Bool → Hp → Prop} (q : t σ H fun c H1 => if c = true then u σ H1 Q else Q false H1) : tAnd t u σ H Q := q
theorem x_not {t : TT} {Q : Bool → Hp → Prop} (q : t σ H fun c H1 => Q (!c) H1) : tNot t σ H Q := q
theorem x_seq {t u : TS} (q : t { D with nx := u D } σ H) : tSeq t u D σ H := q
theorem x_next (q : D.nx σ H) : tNext D σ H := q
theorem x_asg {g : TG} (q : te σ H fun x H1 => g x σ H1 D.nx) : tAsg te g D σ H := q
theorem x_name {i : Nat} {Q : L2.St → Hp → Prop} (q : Q (σ.set i (some v)) H) : gName i v σ H Q := q
theorem x_drop (q : te σ H fun _ H1 => D.nx σ H1) : tDrop te D σ H := q
theorem x_ret (q : te σ H D.rt) : tRet te D σ H := q
theorem x_if {c : TT} {t u : TS} (q : c σ H fun b H1 => if b = true then t D σ H1 else u D σ H1) : tIfS c t u D σ H := q
theorem x_ifE {c : TT} (q : c σ H fun b H1 => if b = true then ta σ H1 Q else tb σ H1 Q) : tIf c ta tb σ H Q := q
theorem x_lst {t : TA} (q : t σ H fun xs H1 => xs.length ≤ sizeLine ∧ ∀ p, H1 p = none → Q (.ref p) (upd H1 p (.lst xs))) : tLst t σ H Q := q
theorem x_tup {t : TA} (q : t σ H fun xs H1 => xs.length ≤ sizeLine ∧ ∀ p, H1 p = none → Q (.ref p) (upd H1 p (.tup xs))) : tTup t σ H Q := q
theorem x_ixL {p : Addr} {xs : List V} (h : SqL K H p xs) (ha : atI xs i = some v) (q : Q v H) : rIxL K (.ref p) (.int i) H Q := ⟨p, xs, i, v, rfl, rfl, h, ha, q⟩
theorem x_ixT {p : Addr} {xs : List V} (h : SqT K H p xs) (ha : atI xs i = some v) (q : Q v H) : rIxT K (.ref p) (.int i) H Q := ⟨p, xs, i, v, rfl, rfl, h, ha, q⟩
/-- an item at a natural place -/
theorem at_n {xs : List V} {n : Nat} (e : i = (n : Int)) (h : xs[n]? = some v) : atI xs i = some v := by
  rw [e]
  exact atI_nat h
end
theorem x_dec {p : Prop} [Decidable p] {A B : Prop} (a : p → A) (b : ¬ p → B) : if decide p = true then A else B := by
  by_cases h : p
  · rw [decide_eq_true h]
    exact iteT (a h)
  · rw [decide_eq_false h]
    exact iteF (b h)
theorem x_start {N : List Str} {vs : List V} {σ : L2.St} {t : TS} {D : Ends} {H : Hp} (e : L2.start N vs = σ) (h : t D σ H) : t D (L2.start N vs) H := by
  rw [e]
  exact h
theorem dec_t {p : Prop} [Decidable p] {A B : Prop} (h : p) (a : A) : if decide p = true then A else B := by
  rw [decide_eq_true h]
  exact iteT a
theorem dec_f {p : Prop} [Decidable p] {A B : Prop} (h : ¬ p) (b : B) : if decide p = true then A else B := by
  rw [decide_eq_false h]
  exact iteF b

/-! ### loops -/
def LoopR (lo : Int) (n : Nat) (g : TG) (tb : TS) (D : Ends) (σ : L2.St) (H : Hp) : Prop :=
  ∃ W : Nat → Nat → L2.St → Hp → Prop, (∃ m, W 0 m σ H) ∧ ∀ i m σ H, W i m σ H →
    ((Itr lo n).stop i H ∧ D.nx σ H) ∨ ((Itr lo n).go i H ∧ ∃ N : L2.St → Hp → Prop, (∀ σ' H', N σ' H' → ∃ m', m' < m ∧ W (i + 1) m' σ' H') ∧ ∀ x H', (Itr lo n).yld i H x H' → g x σ H' fun σ2 H2 => tb { D with nx := N, ct := N, bk := D.nx } σ2 H2)
def LoopL (K : PySem.W.Frag) (a : Addr) (g : TG) (tb : TS) (D : Ends) (σ : L2.St) (H : Hp) : Prop :=
  ∃ W : Nat → Nat → L2.St → Hp → Prop, (∃ m, W 0 m σ H) ∧ ∀ i m σ H, W i m σ H →
    ((Itl K a).stop i H ∧ D.nx σ H) ∨ ((Itl K a).go i H ∧ ∃ N : L2.St → Hp → Prop, (∀ σ' H', N σ' H' → ∃ m', m' < m ∧ W (i + 1) m' σ' H') ∧ ∀ x H', (Itl K a).yld i H x H' → g x σ H' fun σ2 H2 => tb { D with nx := N, ct := N, bk := D.nx } σ2 H2)
def LoopT (K : PySem.W.Frag) (a : Addr) (g : TG) (tb : TS) (D : Ends) (σ : L2.St) (H : Hp) : Prop :=
  ∃ W : Nat → Nat → L2.St → Hp → Prop, (∃ m, W 0 m σ H) ∧ ∀ i m σ H, W i m σ H →
    ((Itt K a).stop i H ∧ D.nx σ H) ∨ ((Itt K a).go i H ∧ ∃ N : L2.St → Hp → Prop, (∀ σ' H', N σ' H' → ∃ m', m' < m ∧ W (i + 1) m' σ' H') ∧ ∀ x H', (Itt K a).yld i H x H' → g x σ H' fun σ2 H2 => tb { D with nx := N, ct := N, bk := D.nx } σ2 H2)
section
variable {σ : L2.St} {H : Hp} {g : TG} {tb : TS} {D : Ends} {K : PySem.W.Frag} {ta : TA} {tl : TE}
theorem x_forR1 (q : ta σ H fun vs H1 => ∃ j : Int, vs = [.int j] ∧ -(2 ^ 62) ≤ j ∧ j < 2 ^ 62 ∧ LoopR 0 j.toNat g tb D σ H1) : tFor (iRng1 ta) g tb D σ H := q
theorem x_forR2 (q : ta σ H fun vs H1 => ∃ i j : Int, vs = [.int i, .int j] ∧ (-(2 ^ 62) ≤ i ∧ i < 2 ^ 62 ∧ -(2 ^ 62) ≤ j ∧ j < 2 ^ 62) ∧ LoopR i (j - i).toNat g tb D σ H1) : tFor (iRng2 ta) g tb D σ H := q
theorem x_forL (q : tl σ H fun x H1 => ∃ a, x = .ref a ∧ (∃ xs, SqL K H1 a xs) ∧ LoopL K a g tb D σ H1) : tFor (iList K tl) g tb D σ H := q
theorem x_forT (q : tl σ H fun x H1 => ∃ a, x = .ref a ∧ (∃ xs, SqT K H1 a xs) ∧ LoopT K a g tb D σ H1) : tFor (iTup K tl) g tb D σ H := q
theorem fold_pre {α S : Type} {f : S → α → Option S} {xs : List α} {s0 sN : S} (h : xs.foldlM f s0 = some sN) {i : Nat} {x : α} {s : S} (hx : xs[i]? = some x) (hp : (xs.take i).foldlM f s0 = some s) :
    ∃ s', f s x = some s' ∧ (xs.take (i + 1)).foldlM f s0 = some s' := by
  obtain ⟨hi, ex⟩ := List.getElem?_eq_some_iff.mp hx
  have e1 : xs.take (i + 1) = xs.take i ++ [x] := by rw [List.take_add_one, hx]; rfl
  have e2 : xs = xs.take (i + 1) ++ xs.drop (i + 1) := (List.take_append_drop _ _).symm
  rw [e2, List.foldlM_append, e1, List.foldlM_append, hp] at h
  have h2 : ((f s x >>= fun s' => some s') >>= fun s' => (xs.drop (i + 1)).foldlM f s') = some sN := h
  cases hf : f s x with
  | none => rw [hf] at h2; cases h2
  | some s' =>
    refine ⟨s', rfl, ?_⟩
    rw [e1, List.foldlM_append, hp]
    show (f s x >>= fun s' => some s') = some s'
    rw [hf]
    rfl
theorem foldlM_some {α S : Type} (f : S → α → S) : ∀ (xs : List α) (s : S), xs.foldlM (fun s x => some (f s x)) s = some (xs.foldl f s)
  | [], _ => rfl
  | x :: r, s => by
    rw [List.foldlM_cons, List.foldl_cons]
    exact foldlM_some f r (f s x)
/-- a loop over a range that folds -/
theorem loopR_fold {S : Type} {lo : Int} {n : Nat} (f : S → Nat → Option S) (I : S → L2.St → Hp → Prop) {s0 sN : S} (hN : (List.range n).foldlM f s0 = some sN) (h0 : I s0 σ H)
    (hs : ∀ s i s' σ H, i < n → f s i = some s' → I s σ H → g (.int (lo + (i : Nat))) σ H fun σ2 H2 => tb { D with nx := I s', ct := I s', bk := D.nx } σ2 H2) (hd : ∀ σ H, I sN σ H → D.nx σ H) : LoopR lo n g tb D σ H := by
  refine for_range (fun i σ H => ∃ s, ((List.range n).take i).foldlM f s0 = some s ∧ I s σ H) ⟨s0, rfl, h0⟩ (fun i σ H hi ⟨s, e, p⟩ => ?_) (fun σ H ⟨s, e, p⟩ => ?_)
  · obtain ⟨s', e1, e2⟩ := fold_pre hN (List.getElem?_range hi) e
    have q := hs s i s' σ H hi e1 p
    have e3 : ∀ σ H, I s' σ H → ∃ s, ((List.range n).take (i + 1)).foldlM f s0 = some s ∧ I s σ H := fun σ H z => ⟨s', e2, z⟩
    have e4 : (fun σ H => ∃ s, ((List.range n).take (i + 1)).foldlM f s0 = some s ∧ I s σ H) = I s' := by
      funext σ H
      exact propext ⟨fun ⟨s, a, b⟩ => by rw [e2] at a; cases a; exact b, e3 σ H⟩
    rw [e4]
    exact q
  · rw [List.take_of_length_le (by rw [List.length_range]; exact Nat.le_refl _), hN] at e
    cases e
    exact hd σ H p
/-- the same, a total fold -/
theorem loopR_foldl {S : Type} {lo : Int} {n : Nat} (f : S → Nat → S) (I : S → L2.St → Hp → Prop) (s0 : S) (h0 : I s0 σ H)
    (hs : ∀ s i σ H, i < n → I s σ H → g (.int (lo + (i : Nat))) σ H fun σ2 H2 => tb { D with nx := I (f s i), ct := I (f s i), bk := D.nx } σ2 H2) (hd : ∀ σ H, I ((List.range n).foldl f s0) σ H → D.nx σ H) : LoopR lo n g tb D σ H := by
  refine loopR_fold (fun s i => some (f s i)) I (s0 := s0) (sN := (List.range n).foldl f s0) ?_ h0 (fun s i s' σ H hi e p => ?_) hd
  · exact foldlM_some _ _ _
  · cases e
    exact hs s i σ H hi p
theorem loopL_fold {S α : Type} {a : Addr} {us : List V} {xs : List α} (hl : us.length = xs.length) (f : S → α → Option S) (I : S → L2.St → Hp → Prop) {s0 sN : S} (hN : xs.foldlM f s0 = some sN) (h0 : I s0 σ H) (hS : ∀ s σ H, I s σ H → SqL K H a us)
    (hs : ∀ (s : S) (i : Nat) (x : α) (u : V) (s' : S) (σ : L2.St) (H : Hp), xs[i]? = some x → us[i]? = some u → f s x = some s' → I s σ H → g u σ H fun σ2 H2 => tb { D with nx := I s', ct := I s', bk := D.nx } σ2 H2) (hd : ∀ σ H, I sN σ H → D.nx σ H) : LoopL K a g tb D σ H := by
  refine for_list (xs := us) (fun i σ H => ∃ s, (xs.take i).foldlM f s0 = some s ∧ I s σ H) ⟨s0, rfl, h0⟩ (fun i σ H _ ⟨s, _, p⟩ => hS s σ H p) (fun i u σ H hu ⟨s, e, p⟩ => ?_) (fun σ H ⟨s, e, p⟩ => ?_)
  · have hi : i < xs.length := by
      rw [← hl]
      exact (List.getElem?_eq_some_iff.mp hu).1
    have hx : xs[i]? = some xs[i] := List.getElem?_eq_getElem hi
    obtain ⟨s', e1, e2⟩ := fold_pre hN hx e
    have q := hs s i xs[i] u s' σ H hx hu e1 p
    have e4 : (fun σ H => ∃ s, (xs.take (i + 1)).foldlM f s0 = some s ∧ I s σ H) = I s' := by
      funext σ H
      exact propext ⟨fun ⟨s, a, b⟩ => by rw [e2] at a; cases a; exact b, fun z => ⟨s', e2, z⟩⟩
    rw [e4]
    exact q
  · rw [hl, List.take_of_length_le (Nat.le_refl _), hN] at e
    cases e
    exact hd σ H p
theorem loopL_foldl {S α : Type} {a : Addr} {us : List V} {xs : List α} (hl : us.length = xs.length) (f : S → α → S) (I : S → L2.St → Hp → Prop) (s0 : S) (h0 : I s0 σ H) (hS : ∀ s σ H, I s σ H → SqL K H a us)
    (hs : ∀ (s : S) (i : Nat) (x : α) (u : V) (σ : L2.St) (H : Hp), xs[i]? = some x → us[i]? = some u → I s σ H → g u σ H fun σ2 H2 => tb { D with nx := I (f s x), ct := I (f s x), bk := D.nx } σ2 H2) (hd : ∀ σ H, I (xs.foldl f s0) σ H → D.nx σ H) : LoopL K a g tb D σ H := by
  refine loopL_fold hl (fun s i => some (f s i)) I (s0 := s0) (sN := xs.foldl f s0) ?_ h0 hS (fun s i x u s' σ H hx hu e p => ?_) hd
  · exact foldlM_some _ _ _
  · cases e
    exact hs s i x u σ H hx hu p
theorem loopT_fold {S α : Type} {a : Addr} {us : List V} {xs : List α} (hl : us.length = xs.length) (f : S → α → Option S) (I : S → L2.St → Hp → Prop) {s0 sN : S} (hN : xs.foldlM f s0 = some sN) (h0 : I s0 σ H) (hS : ∀ s σ H, I s σ H → SqT K H a us)
    (hs : ∀ (s : S) (i : Nat) (x : α) (u : V) (s' : S) (σ : L2.St) (H : Hp), xs[i]? = some x → us[i]? = some u → f s x = some s' → I s σ H → g u σ H fun σ2 H2 => tb { D with nx := I s', ct := I s', bk := D.nx } σ2 H2) (hd : ∀ σ H, I sN σ H → D.nx σ H) : LoopT K a g tb D σ H := by
  refine for_tup (xs := us) (fun i σ H => ∃ s, (xs.take i).foldlM f s0 = some s ∧ I s σ H) ⟨s0, rfl, h0⟩ (fun i σ H _ ⟨s, _, p⟩ => hS s σ H p) (fun i u σ H hu ⟨s, e, p⟩ => ?_) (fun σ H ⟨s, e, p⟩ => ?_)
  · have hi : i < xs.length := by
      rw [← hl]
      exact (List.getElem?_eq_some_iff.mp hu).1
    have hx : xs[i]? = some xs[i] := List.getElem?_eq_getElem hi
    obtain ⟨s', e1, e2⟩ := fold_pre hN hx e
    have q := hs s i xs[i] u s' σ H hx hu e1 p
    have e4 : (fun σ H => ∃ s, (xs.take (i + 1)).foldlM f s0 = some s ∧ I s σ H) = I s' := by
      funext σ H
      exact propext ⟨fun ⟨s, a, b⟩ => by rw [e2] at a; cases a; exact b, fun z => ⟨s', e2, z⟩⟩
    rw [e4]
    exact q
  · rw [hl, List.take_of_length_le (Nat.le_refl _), hN] at e
    cases e
    exact hd σ H p
end

/-! ### comprehensions -/
def CompR (lo : Int) (n : Nat) (g : TG) (tt : TT) (te : TE) (vs : List Nat) (σ : L2.St) (H1 : Hp) (Q : VK) : Prop :=
  ∀ Dl, H1 Dl = none → ∃ W : Nat → Nat → Hp → Prop, (∃ m, W 0 m (upd H1 Dl (.lst []))) ∧ ∀ i m H, W i m H →
  ((Itr lo n).stop i H ∧ Q (.ref Dl) H) ∨ ((Itr lo n).go i H ∧ ∃ Nx : Hp → Prop, (∀ H', Nx H' → ∃ m', m' < m ∧ W (i + 1) m' H') ∧ ∀ x H', (Itr lo n).yld i H x H' → g x (wipe σ vs) H' fun σ2 H2 => wipe σ2 vs = wipe σ vs ∧ tt σ2 H2 fun b H3 =>
    if b = true then te σ2 H3 fun y H4 => ∃ acc, H4 Dl = some (.lst acc) ∧ acc.length < sizeLine ∧ Nx (upd H4 Dl (.lst (acc ++ [y]))) else Nx H3)
def CompL (K : PySem.W.Frag) (a : Addr) (g : TG) (tt : TT) (te : TE) (vs : List Nat) (σ : L2.St) (H1 : Hp) (Q : VK) : Prop :=
  ∀ Dl, H1 Dl = none → ∃ W : Nat → Nat → Hp → Prop, (∃ m, W 0 m (upd H1 Dl (.lst []))) ∧ ∀ i m H, W i m H →
  ((Itl K a).stop i H ∧ Q (.ref Dl) H) ∨ ((Itl K a).go i H ∧ ∃ Nx : Hp → Prop, (∀ H', Nx H' → ∃ m', m' < m ∧ W (i + 1) m' H') ∧ ∀ x H', (Itl K a).yld i H x H' → g x (wipe σ vs) H' fun σ2 H2 => wipe σ2 vs = wipe σ vs ∧ tt σ2 H2 fun b H3 =>
    if b = true then te σ2 H3 fun y H4 => ∃ acc, H4 Dl = some (.lst acc) ∧ acc.length < sizeLine ∧ Nx (upd H4 Dl (.lst (acc ++ [y]))) else Nx H3)
def CompT (K : PySem.W.Frag) (a : Addr) (g : TG) (tt : TT) (te : TE) (vs : List Nat) (σ : L2.St) (H1 : Hp) (Q : VK) : Prop :=
  ∀ Dl, H1 Dl = none → ∃ W : Nat → Nat → Hp → Prop, (∃ m, W 0 m (upd H1 Dl (.lst []))) ∧ ∀ i m H, W i m H →
  ((Itt K a).stop i H ∧ Q (.ref Dl) H) ∨ ((Itt K a).go i H ∧ ∃ Nx : Hp → Prop, (∀ H', Nx H' → ∃ m', m' < m ∧ W (i + 1) m' H') ∧ ∀ x H', (Itt K a).yld i H x H' → g x (wipe σ vs) H' fun σ2 H2 => wipe σ2 vs = wipe σ vs ∧ tt σ2 H2 fun b H3 =>
    if b = true then te σ2 H3 fun y H4 => ∃ acc, H4 Dl = some (.lst acc) ∧ acc.length < sizeLine ∧ Nx (upd H4 Dl (.lst (acc ++ [y]))) else Nx H3)
section
variable {σ : L2.St} {H : Hp} {g : TG} {tt : TT} {te : TE} {vs : List Nat} {Q : VK} {K : PySem.W.Frag} {ta : TA} {tl : TE}
theorem x_lcR1 (q : ta σ H fun us H1 => ∃ j : Int, us = [.int j] ∧ -(2 ^ 62) ≤ j ∧ j < 2 ^ 62 ∧ CompR 0 j.toNat g tt te vs σ H1 Q) : tLc (iRng1 ta) g tt te vs σ H Q := q
theorem x_lcR2 (q : ta σ H fun us H1 => ∃ i j : Int, us = [.int i, .int j] ∧ (-(2 ^ 62) ≤ i ∧ i < 2 ^ 62 ∧ -(2 ^ 62) ≤ j ∧ j < 2 ^ 62) ∧ CompR i (j - i).toNat g tt te vs σ H1 Q) : tLc (iRng2 ta) g tt te vs σ H Q := q
theorem x_lcL (q : tl σ H fun x H1 => ∃ a, x = .ref a ∧ (∃ xs, SqL K H1 a xs) ∧ CompL K a g tt te vs σ H1 Q) : tLc (iList K tl) g tt te vs σ H Q := q
theorem x_lcT (q : tl σ H fun x H1 => ∃ a, x = .ref a ∧ (∃ xs, SqT K H1 a xs) ∧ CompT K a g tt te vs σ H1 Q) : tLc (iTup K tl) g tt te vs σ H Q := q
/-- one turn, the list so far being told -/
theorem comp_turn {σ2 : L2.St} {H1 H' : Hp} {Dl : Addr} {acc : List V} {b : Bool} {v : V} {R : Hp → Prop} (h1 : H1 Dl = none) (e : Ex H1 H') (hl : H' Dl = some (.lst acc)) (hz : acc.length < 100000)
    (ht : ∀ Qt : Bool → Hp → Prop, (∀ H3, Ex H' H3 → Qt b H3) → tt σ2 H' Qt) (he : b = true → ∀ H3, Ex H' H3 → ∀ Qe : VK, (∀ H4, Ex H3 H4 → Qe v H4) → te σ2 H3 Qe)
    (hR : ∀ H4, Ex H1 H4 → H4 Dl = some (.lst (if b = true then acc ++ [v] else acc)) → R H4) :
    tt σ2 H' fun b H3 => if b = true then te σ2 H3 fun y H4 => ∃ acc, H4 Dl = some (.lst acc) ∧ acc.length < sizeLine ∧ R (upd H4 Dl (.lst (acc ++ [y]))) else R H3 := by
  refine ht _ fun H3 e3 => ?_
  cases b with
  | true =>
    refine iteT (he rfl H3 e3 _ fun H4 e4 => ⟨acc, e4 _ _ (e3 _ _ hl), Nat.lt_of_lt_of_le hz (by decide), hR _ (Ex.mut ((e.trans e3).trans e4) h1) ?_⟩)
    rw [if_pos rfl]
    exact upd_same
  | false =>
    refine iteF (hR H3 (e.trans e3) ?_)
    rw [if_neg Bool.false_ne_true]
    exact e3 _ _ hl
def accOf {α : Type} (p : α → Bool) (v : α → V) (xs : List α) : List V := (xs.filter p).map v
theorem accOf_snoc {α : Type} (p : α → Bool) (v : α → V) (xs : List α) (x : α) : accOf p v (xs ++ [x]) = if p x = true then accOf p v xs ++ [v x] else accOf p v xs := by
  unfold accOf
  rw [List.filter_append, List.map_append]
  cases h : p x with
  | true => rw [if_pos rfl, List.filter_cons_of_pos h]; rfl
  | false => rw [if_neg Bool.false_ne_true, List.filter_cons_of_neg (by rw [h]; exact Bool.false_ne_true)]; exact List.append_nil _
theorem accOf_len {α : Type} (p : α → Bool) (v : α → V) (xs : List α) : (accOf p v xs).length ≤ xs.length := by
  unfold accOf
  rw [List.length_map]
  exact List.length_filter_le _ _
/-- a comprehension over a range: tests and elements by the turn's number -/
theorem compR_map {j : Nat} {lo : Int} {n : Nat} (hn : n < 100000) (p : Nat → Bool) (v : Nat → V) (hw : ∀ x, wipe ((wipe σ vs).set j (some x)) vs = wipe σ vs)
    (ht : ∀ i H', i < n → Ex H H' → ∀ Qt : Bool → Hp → Prop, (∀ H3, Ex H' H3 → Qt (p i) H3) → tt ((wipe σ vs).set j (some (.int (lo + (i : Nat))))) H' Qt)
    (he : ∀ i H', i < n → p i = true → Ex H H' → ∀ Qe : VK, (∀ H4, Ex H' H4 → Qe (v i) H4) → te ((wipe σ vs).set j (some (.int (lo + (i : Nat))))) H' Qe)
    (hQ : ∀ Dl H', H Dl = none → Ex H H' → H' Dl = some (.lst (accOf p v (List.range n))) → Q (.ref Dl) H') : CompR lo n (gName j) tt te vs σ H Q := fun Dl hD => by
  refine lc_range (fun i H' => Ex H H' ∧ H' Dl = some (.lst (accOf p v (List.range i)))) ⟨Ex.new hD, upd_same⟩ (fun i H' hi ⟨e, hl⟩ => ?_) (fun H' ⟨e, hl⟩ => hQ Dl H' hD e hl)
  refine ⟨hw _, comp_turn (b := p i) (v := v i) hD e hl ?_ (ht i H' hi e) (fun hb H3 e3 => he i H3 hi hb (e.trans e3)) fun H4 e4 h4 => ⟨e4, ?_⟩⟩
  · have := accOf_len p v (List.range i)
    rw [List.length_range] at this
    omega
  · rw [List.range_succ, accOf_snoc]
    exact h4
theorem compL_map {α : Type} {j : Nat} {a : Addr} {us : List V} {xs : List α} (hS : SqL K H a us) (hl : us.length = xs.length) (hn : xs.length < 100000) (p : α → Bool) (v : α → V) (hw : ∀ x, wipe ((wipe σ vs).set j (some x)) vs = wipe σ vs)
    (ht : ∀ (i : Nat) (x : α) (u : V) (H' : Hp), xs[i]? = some x → us[i]? = some u → Ex H H' → ∀ Qt : Bool → Hp → Prop, (∀ H3, Ex H' H3 → Qt (p x) H3) → tt ((wipe σ vs).set j (some u)) H' Qt)
    (he : ∀ (i : Nat) (x : α) (u : V) (H' : Hp), xs[i]? = some x → us[i]? = some u → p x = true → Ex H H' → ∀ Qe : VK, (∀ H4, Ex H' H4 → Qe (v x) H4) → te ((wipe σ vs).set j (some u)) H' Qe)
    (hQ : ∀ Dl H', H Dl = none → Ex H H' → H' Dl = some (.lst (accOf p v xs)) → Q (.ref Dl) H') : CompL K a (gName j) tt te vs σ H Q := fun Dl hD => by
  refine lc_list (xs := us) (fun i H' => Ex H H' ∧ H' Dl = some (.lst (accOf p v (xs.take i)))) ⟨Ex.new hD, upd_same⟩ (fun i H' _ ⟨e, _⟩ => e.l hS) (fun i u H' hu ⟨e, hl'⟩ => ?_) (fun H' ⟨e, hl'⟩ => hQ Dl H' hD e ?_)
  · have hi : i < xs.length := by
      rw [← hl]
      exact (List.getElem?_eq_some_iff.mp hu).1
    have hx : xs[i]? = some xs[i] := List.getElem?_eq_getElem hi
    refine ⟨hw _, comp_turn (b := p xs[i]) (v := v xs[i]) hD e hl' ?_ (ht i _ u H' hx hu e) (fun hb H3 e3 => he i _ u H3 hx hu hb (e.trans e3)) fun H4 e4 h4 => ⟨e4, ?_⟩⟩
    · have := accOf_len p v (xs.take i)
      rw [List.length_take] at this
      omega
    · rw [List.take_add_one, hx]
      show H4 Dl = some (.lst (accOf p v (xs.take i ++ [xs[i]])))
      rw [accOf_snoc]
      exact h4
  · rw [hl, List.take_of_length_le (Nat.le_refl _)] at hl'
    exact hl'
theorem compT_map {α : Type} {j : Nat} {a : Addr} {us : List V} {xs : List α} (hS : SqT K H a us) (hl : us.length = xs.length) (hn : xs.length < 100000) (p : α → Bool) (v : α → V) (hw : ∀ x, wipe ((wipe σ vs).set j (some x)) vs = wipe σ vs)
    (ht : ∀ (i : Nat) (x : α) (u : V) (H' : Hp), xs[i]? = some x → us[i]? = some u → Ex H H' → ∀ Qt : Bool → Hp → Prop, (∀ H3, Ex H' H3 → Qt (p x) H3) → tt ((wipe σ vs).set j (some u)) H' Qt)
    (he : ∀ (i : Nat) (x : α) (u : V) (H' : Hp), xs[i]? = some x → us[i]? = some u → p x = true → Ex H H' → ∀ Qe : VK, (∀ H4, Ex H' H4 → Qe (v x) H4) → te ((wipe σ vs).set j (some u)) H' Qe)
    (hQ : ∀ Dl H', H Dl = none → Ex H H' → H' Dl = some (.lst (accOf p v xs)) → Q (.ref Dl) H') : CompT K a (gName j) tt te vs σ H Q := fun Dl hD => by
  refine lc_tup (xs := us) (fun i H' => Ex H H' ∧ H' Dl = some (.lst (accOf p v (xs.take i)))) ⟨Ex.new hD, upd_same⟩ (fun i H' _ ⟨e, _⟩ => e.t hS) (fun i u H' hu ⟨e, hl'⟩ => ?_) (fun H' ⟨e, hl'⟩ => hQ Dl H' hD e ?_)
  · have hi : i < xs.length := by
      rw [← hl]
      exact (List.getElem?_eq_some_iff.mp hu).1
    have hx : xs[i]? = some xs[i] := List.getElem?_eq_getElem hi
    refine ⟨hw _, comp_turn (b := p xs[i]) (v := v xs[i]) hD e hl' ?_ (ht i _ u H' hx hu e) (fun hb H3 e3 => he i _ u H3 hx hu hb (e.trans e3)) fun H4 e4 h4 => ⟨e4, ?_⟩⟩
    · have := accOf_len p v (xs.take i)
      rw [List.length_take] at this
      omega
    · rw [List.take_add_one, hx]
      show H4 Dl = some (.lst (accOf p v (xs.take i ++ [xs[i]])))
      rw [accOf_snoc]
      exact h4
  · rw [hl, List.take_of_length_le (Nat.le_refl _)] at hl'
    exact hl'
theorem x_yes {Qt : Bool → Hp → Prop} (q : Qt true H) : tYes σ H Qt := q
end
end Pm
end
section
set_option Elab.async false
namespace Pm
/-! ### what the defs compute, in plain Lean -/
abbrev gt (xs : List Nat) (i : Nat) : Nat := xs.getD i 0
/-- the names are records of the table -/
def Img (im : List Nat) : Prop := ∀ x ∈ im, x < im.length
def mergeStep (im : List Nat) (ls : List Nat) (i : Nat) : List Nat := ls.map fun l => if l = max (gt ls i) (gt ls (gt im i)) then min (gt ls i) (gt ls (gt im i)) else l
def labelsOf (im : List Nat) : List Nat := (List.range im.length).foldl (mergeStep im) (List.range im.length)
def putIn (fs : List (Nat × List Nat)) (l r : Nat) : List (Nat × List Nat) := if fs.any (fun p => decide (p.1 = l)) then fs.map fun p => if p.1 = l then (p.1, p.2 ++ [r]) else p else fs ++ [(l, [r])]
def foundOf (ls : List Nat) : List (Nat × List Nat) := (List.range ls.length).foldl (fun f r => putIn f (gt ls r) r) []
def groupsOf (im : List Nat) : List (List Nat) := (foundOf (labelsOf im)).map (·.2)
def walkN (im : List Nat) : Nat → List Nat → List Nat
  | 0, p => p
  | f + 1, p => if gt im (p.getLastD 0) ∈ p then p else walkN im f (p ++ [gt im (p.getLastD 0)])
def shapesN : List (List Nat) := [[0], [1, 0], [1, 1], [1, 2, 1], [1, 2, 2], [1, 2, 1, 2], [1, 2, 3, 2], [1, 2, 3, 0]]
def unshownOf (im g : List Nat) : List Nat := g.filter fun r => decide (r ∉ g.map (gt im))
def pathOf (im g : List Nat) : List Nat := walkN im im.length [if unshownOf im g = [] then gt g 0 else gt (unshownOf im g) 0]
def recsOf (im g : List Nat) : List Nat := pathOf im g ++ g.filter fun r => decide (r ∉ pathOf im g)
def shapeOf (im g : List Nat) : List Nat := (recsOf im g).map fun r => (recsOf im g).idxOf (gt im r)
/-- the word by its place among the shapes -/
def formOf (im g : List Nat) : Option (Nat × List Nat) := if 4 < g.length then none else (shapesN.findIdx? fun s => decide (s = shapeOf im g)).map fun w => (w, recsOf im g)
def repairable (im : List Nat) : Bool := (groupsOf im).all fun g => (formOf im g).isSome
def piecesOf (im : List Nat) : List (Nat × List Nat) := (groupsOf im).filterMap (formOf im)
def tornOf (im : List Nat) : List (Nat × List Nat) := (piecesOf im).filter fun p => decide (2 ≤ p.1)
def ins (x : Nat) : List Nat → List Nat
  | [] => [x]
  | y :: t => if x ≤ y then x :: y :: t else y :: ins x t
def srt : List Nat → List Nat
  | [] => []
  | x :: t => ins x (srt t)
def cN : Nat → Nat → Nat
  | _, 0 => 1
  | 0, _ + 1 => 0
  | n + 1, k + 1 => cN n k + cN n (k + 1)
def fcN (many : Nat) : Nat := [0, 1, 3, 12, 42].getD many 0
def blockI (counts : List Nat) (n many : Nat) : Nat := cN (n - 1) (many - 1) * [0, 1, 3, 12, 42].getD many 0 * counts.getD (n - many) 0
def totStep (found : List Nat) (n : Nat) : List Nat := found ++ [((List.range (min n 4)).map fun i => blockI found n (i + 1)).sum]
def totalsN (size : Nat) : List Nat := (List.range size).foldl (fun f i => totStep f (i + 1)) [1]
def snIn (places : List Nat) (n i : Nat) (s j : Nat) : Nat := s + cN (n - 1 - (places.getD i 0 + 1 + j)) (places.length - 1 - (i + 1))
def snOut (places : List Nat) (n : Nat) (s i : Nat) : Nat := (List.range (places.getD (i + 1) 0 - (places.getD i 0 + 1))).foldl (snIn places n i) s
def setNumber (places : List Nat) (n : Nat) : Nat := (List.range (places.length - 1)).foldl (snOut places n) 0
/-- the inner loop of _set_at: C(n - 1 - place, k), n - 1 - place not below 0 -/
def saIn (n k : Nat) : Nat → Nat → Nat → Option (Nat × Nat)
  | 0, _, _ => none
  | f + 1, number, place => if n ≤ place then none else if cN (n - 1 - place) k ≤ number then saIn n k f (number - cN (n - 1 - place) k) (place + 1) else some (number, place)
def saOut (n many : Nat) (s : Nat × List Nat) (i : Nat) : Option (Nat × List Nat) := (saIn n (many - 1 - (i + 1)) 10 s.1 (s.2.getLastD 0 + 1)).map fun z => (z.1, s.2 ++ [z.2])
def setAt (number n many : Nat) : Option (List Nat) := ((List.range (many - 1)).foldlM (saOut n many) (number, [0])).map (·.2)
def namesN (shape recs : List Nat) : List Nat := (recs.zip shape).foldl (fun ns p => ns.set p.1 (gt recs p.2)) (List.replicate recs.length 0)
def patsN : Nat → List (List Nat)
  | 1 => [[0]]
  | 2 => [[0, 0], [1, 0], [1, 1]]
  | 3 => [[0, 0, 1], [0, 2, 0], [1, 0, 0], [1, 0, 1], [1, 1, 0], [1, 2, 1], [1, 2, 2], [2, 0, 0], [2, 0, 2], [2, 1, 1], [2, 2, 0], [2, 2, 1]]
  | 4 => [[1, 0, 0, 1], [1, 0, 0, 2], [1, 0, 1, 0], [1, 0, 1, 2], [1, 0, 3, 0], [1, 0, 3, 1], [1, 2, 1, 0], [1, 2, 1, 2], [1, 2, 3, 0], [1, 2, 3, 2], [1, 3, 0, 1], [1, 3, 0, 2], [1, 3, 3, 1], [1, 3, 3, 2], [2, 0, 0, 1], [2, 0, 0, 2], [2, 0, 3, 1], [2, 0, 3, 2], [2, 2, 0, 0], [2, 2, 0, 1], [2, 2, 1, 0], [2, 2, 1, 1], [2, 3, 0, 0], [2, 3, 0, 2], [2, 3, 1, 0], [2, 3, 1, 1], [2, 3, 3, 1], [2, 3, 3, 2], [3, 0, 1, 0], [3, 0, 1, 2], [3, 0, 3, 0], [3, 0, 3, 2], [3, 2, 0, 0], [3, 2, 0, 1], [3, 2, 1, 1], [3, 2, 1, 2], [3, 2, 3, 0], [3, 2, 3, 2], [3, 3, 0, 0], [3, 3, 0, 1], [3, 3, 1, 0], [3, 3, 1, 1]]
  | _ => []
/-- one piece of image_number -/
def inStep (im counts : List Nat) (s : Nat × List Nat) (recs : List Nat) : Option (Nat × List Nat) :=
  let n := s.2.length
  let asc := srt recs
  let many := asc.length
  let nm := asc.map fun a => asc.idxOf (gt im a)
  if asc.all (fun a => decide (a ∈ s.2) && decide (gt im a ∈ asc)) && decide (nm ∈ patsN many) && decide (many ≤ n) && decide (1 ≤ many) && decide (many ≤ 4) then
    some (s.1 + ((List.range (many - 1)).map fun i => blockI counts n (i + 1)).sum + (setNumber (asc.map s.2.idxOf) n * fcN many + (patsN many).idxOf nm) * gt counts (n - many), s.2.filter fun r => decide (r ∉ asc))
  else none
def imageNumber (im : List Nat) : Option Nat := if repairable im then (((piecesOf im).map (·.2)).foldlM (inStep im (totalsN im.length)) (0, List.range im.length)).map (·.1) else none
def iaIn (counts : List Nat) (n : Nat) : Nat → Nat → Nat → Option (Nat × Nat)
  | 0, _, _ => none
  | f + 1, behind, many => if n < many then none else if blockI counts n many ≤ behind then iaIn counts n f (behind - blockI counts n many) (many + 1) else some (behind, many)
/-- one turn of image_at -/
def iaStep (counts : List Nat) (s : Nat × List Nat × List Nat) : Option (Nat × List Nat × List Nat) :=
  let (behind, image, left) := s
  let n := left.length
  (iaIn counts n 4 behind 1).bind fun (b1, many) =>
    let c := gt counts (n - many)
    if c = 0 then none else
    let earlier := b1 / c
    let sets := earlier / fcN many
    let place := earlier % fcN many
    (setAt sets n many).bind fun ats =>
      let recs := ats.map (gt left)
      if ats.all (fun a => decide (a < n)) && decide (place < (patsN many).length) && recs.all (fun r => decide (r < image.length)) && decide (ats.length = many) && decide (((patsN many).getD place []).length = many) && ((patsN many).getD place []).all (fun p => decide (p < many)) then
        some (b1 % c, ((recs.zip ((patsN many).getD place [])).foldl (fun im p => im.set p.1 (gt recs p.2)) image), left.filter fun r => decide (r ∉ recs))
      else none
def iaLoop (counts : List Nat) : Nat → Nat × List Nat × List Nat → Option (List Nat)
  | 0, s => if s.2.2 = [] then some s.2.1 else none
  | f + 1, s => if s.2.2 = [] then some s.2.1 else (iaStep counts s).bind (iaLoop counts f)
def imageAt (size number : Nat) : Option (List Nat) := iaLoop (totalsN size) size (number, List.replicate size 0, List.range size)
/-! the counts by torn pieces -/
def tcRow (most m : Nat) (one two three four : List Nat) : List Nat :=
  (List.range most).foldl (fun row i => row ++ [gt one (i + 1) + m * gt two (i + 1) + (2 * m * gt two i + 12 * cN m 2 * gt three i + 42 * cN m 3 * gt four i)]) [gt one 0 + m * gt two 0]
def tcStep (most : Nat) (s : List Nat × List Nat × List Nat × List Nat) (m : Nat) : List Nat × List Nat × List Nat × List Nat := (tcRow most m s.1 s.2.1 s.2.2.1 s.2.2.2, s.1, s.2.1, s.2.2.1)
def tornCounts (size most : Nat) : List Nat := ((List.range size).foldl (tcStep most) (1 :: List.replicate most 0, List.replicate (most + 1) 0, List.replicate (most + 1) 0, List.replicate (most + 1) 0)).1
def countImages (size : Nat) : Option Int → Nat
  | none => gt (totalsN size) size
  | some t => if t < 0 ∨ 2 * t > (size : Int) then 0 else gt (tornCounts size t.toNat) t.toNat
/-! ### the law's defs -/
abbrev Flip := List (List Nat)
def lawFlipsAt (st units : List Nat) (found : List Flip) (k : Nat) : List Flip :=
  let p := gt units k
  let q := gt st p
  let found := if p ≠ q then found ++ [[[p, q], [q, p], [p, q]]] else found
  (units.take k).foldl (fun found r =>
    let s := gt st r
    if p = q ∧ r = s then found ++ [[[r, p], [r, p], [p, r]]]
    else if p ≠ q ∧ r ≠ s then (found ++ [[[p, q, r, s], [q, p, s, r], [s, r, q, p]]]) ++ [[[p, q, s, r], [q, p, r, s], [r, s, q, p]]]
    else if p ≠ q then (found ++ [[[p, q, r], [q, p, r], [r, q, p]]]) ++ [[[q, p, r], [p, q, r], [r, p, q]]]
    else (found ++ [[[r, s, p], [s, r, p], [p, s, r]]]) ++ [[[s, r, p], [r, s, p], [p, r, s]]]) found
def unitsOf (st : List Nat) : List Nat := (List.range st.length).filter fun x => decide (x ≤ gt st x)
def lawFlips (st : List Nat) : List Flip := (List.range (unitsOf st).length).foldl (lawFlipsAt st (unitsOf st)) []
def busyOf (one : List Flip) : List Nat := one.foldl (fun b f => b ++ f.getD 0 []) []
def lawSets (st : List Nat) : List (List Flip) := (lawFlips st).foldl (fun sets f => sets.foldl (fun acc one => if (f.getD 0 []).filter (fun x => decide (x ∈ busyOf one)) = [] then acc ++ [one ++ [f]] else acc) sets) [[]]
def maskImage (f : Flip) (im : List Nat) (mask : Nat) : List Nat × Nat :=
  (List.range (f.getD 0 []).length).foldl (fun s j => if mask / 2 ^ j % 2 = 1 then (s.1.set (gt (f.getD 0 []) j) (gt (f.getD 2 []) j), s.2 + 1) else s) (im, 0)
def lawPartsAt (f : Flip) (shapes : List (List Nat × Nat)) : List (List Nat × Nat) :=
  shapes.foldl (fun longer sh => (List.range (2 ^ (f.getD 0 []).length)).foldl (fun longer mask =>
    longer ++ [((maskImage f sh.1 mask).1, sh.2 + if 0 < (maskImage f sh.1 mask).2 ∧ (maskImage f sh.1 mask).2 < (f.getD 0 []).length then 1 else 0)]) longer) []
def lawParts (st : List Nat) (fs : List Flip) : List (List Nat × Nat) := fs.foldl (fun sh f => lawPartsAt f sh) [(st, 0)]
def put (met : List (List Nat × Nat)) (k : List Nat) (v : Nat) : List (List Nat × Nat) := if met.any (fun p => decide (p.1 = k)) then met.map fun p => if p.1 = k then (k, v) else p else met ++ [(k, v)]
def look (met : List (List Nat × Nat)) (k : List Nat) : Option Nat := (met.find? fun p => decide (p.1 = k)).map (·.2)
def statesN : Nat → List (List Nat)
  | 0 => [[]]
  | 1 => [[0]]
  | 2 => [[0, 1], [1, 0]]
  | 3 => [[0, 1, 2], [0, 2, 1], [1, 0, 2], [2, 1, 0]]
  | 4 => [[0, 1, 2, 3], [0, 1, 3, 2], [0, 2, 1, 3], [0, 3, 2, 1], [1, 0, 2, 3], [1, 0, 3, 2], [2, 1, 0, 3], [2, 3, 0, 1], [3, 1, 2, 0], [3, 2, 1, 0]]
  | _ => []
def lawMet (size : Nat) : List (List Nat × Nat) := (statesN size).foldl (fun met st => (lawSets st).foldl (fun met fs => (lawParts st fs).foldl (fun met sh => put met sh.1 sh.2) met) met) []
def lawTotal (size : Nat) : Nat := gt ((List.range size).foldl (fun row m => row ++ [gt row m + (if 0 < m then 3 * m * gt row (m - 1) else 0) + (if 1 < m then 6 * m * (m - 1) * gt row (m - 2) else 0) + (if 2 < m then 7 * m * (m - 1) * (m - 2) * gt row (m - 3) else 0)]) [1]) size
def codeImage (size code : Nat) : List Nat := ((List.range size).foldl (fun (s : List Nat × Nat) _ => (s.1 ++ [s.2 % size], s.2 / size)) ([], code)).1
end Pm
end
section
set_option Elab.async false
set_option linter.all false
namespace Pm
/-! ### the groups, in plain Lean -/
def Closed (im g : List Nat) : Prop := ∀ r ∈ g, r < im.length ∧ gt im r ∈ g
theorem gt_map {f : Nat → Nat} {xs : List Nat} {i : Nat} (h : i < xs.length) : gt (xs.map f) i = f (gt xs i) := by
  show (xs.map f).getD i 0 = f (xs.getD i 0)
  rw [List.getD_eq_getElem?_getD, List.getD_eq_getElem?_getD, List.getElem?_map, List.getElem?_eq_getElem h]
  rfl
theorem gt_memN {xs : List Nat} {n : Nat} (h : n < xs.length) : gt xs n ∈ xs := by
  show xs.getD n 0 ∈ xs
  rw [List.getD_eq_getElem?_getD, List.getElem?_eq_getElem h]
  exact List.getElem_mem h
/-- records of one label stay so, and record i comes to its name -/
theorem merge_ok {im ls : List Nat} (hI : Img im) (hl : ls.length = im.length) {k : Nat} (hk : k < im.length) (h : ∀ i, i < k → gt ls i = gt ls (gt im i)) : ∀ i, i < k + 1 → gt (mergeStep im ls k) i = gt (mergeStep im ls k) (gt im i) := by
  intro i hi
  have hn : ∀ i, i < im.length → gt im i < im.length := fun i hi => hI _ (gt_memN hi)
  unfold mergeStep
  rw [gt_map (by omega), gt_map (by have := hn i (by omega); omega)]
  by_cases e : i = k
  · subst e
    have e1 : gt ls i = max (gt ls i) (gt ls (gt im i)) ∨ gt ls i = min (gt ls i) (gt ls (gt im i)) := by omega
    split <;> split <;> omega
  · rw [h i (by omega)]
theorem labels_ok {im : List Nat} (hI : Img im) : ∀ k, k ≤ im.length → ((List.range k).foldl (mergeStep im) (List.range im.length)).length = im.length ∧ ∀ i, i < k → gt ((List.range k).foldl (mergeStep im) (List.range im.length)) i = gt ((List.range k).foldl (mergeStep im) (List.range im.length)) (gt im i)
  | 0, _ => ⟨List.length_range, fun i hi => by omega⟩
  | k + 1, hk => by
    obtain ⟨h1, h2⟩ := labels_ok hI k (by omega)
    rw [List.range_succ, List.foldl_append]
    refine ⟨?_, merge_ok hI h1 (by omega) h2⟩
    show (mergeStep im _ k).length = _
    unfold mergeStep
    rw [List.length_map]
    exact h1
theorem labels_len {im : List Nat} (hI : Img im) : (labelsOf im).length = im.length := (labels_ok hI im.length (Nat.le_refl _)).1
theorem labels_eq {im : List Nat} (hI : Img im) {i : Nat} (h : i < im.length) : gt (labelsOf im) i = gt (labelsOf im) (gt im i) := (labels_ok hI im.length (Nat.le_refl _)).2 i h
/-- what the dict of groups holds before record i -/
structure FInv (ls : List Nat) (i : Nat) (fs : List (Nat × List Nat)) : Prop where
  nd : (fs.map (·.1)).Nodup
  row : ∀ p ∈ fs, p.2 ≠ [] ∧ p.2.Pairwise (· < ·) ∧ ∀ r, r ∈ p.2 ↔ r < i ∧ gt ls r = p.1
  all : ∀ r, r < i → ∃ p ∈ fs, p.1 = gt ls r
  ord : fs.Pairwise fun p q => gt p.2 0 < gt q.2 0
theorem putIn_ok {ls : List Nat} {i : Nat} {fs : List (Nat × List Nat)} (F : FInv ls i fs) : FInv ls (i + 1) (putIn fs (gt ls i) i) := by
  unfold putIn
  by_cases h : fs.any (fun p => decide (p.1 = gt ls i)) = true
  · rw [if_pos h]
    have key : ∀ p : Nat × List Nat, (if p.1 = gt ls i then (p.1, p.2 ++ [i]) else p).1 = p.1 := fun p => by split <;> rfl
    refine ⟨?_, fun p hp => ?_, fun r hr => ?_, ?_⟩
    · rw [List.map_map, show ((·.1) ∘ fun p : Nat × List Nat => if p.1 = gt ls i then (p.1, p.2 ++ [i]) else p) = (·.1) from funext key]
      exact F.nd
    · obtain ⟨q, hq, rfl⟩ := List.mem_map.mp hp
      obtain ⟨h1, h2, h3⟩ := F.row q hq
      split
      · rename_i e
        refine ⟨by simp, ?_, fun r => ?_⟩
        · rw [List.pairwise_append]
          exact ⟨h2, by simp, fun a ha b hb => by rw [List.mem_singleton.mp hb]; exact ((h3 a).mp ha).1⟩
        · show r ∈ q.2 ++ [i] ↔ _
          rw [List.mem_append, h3, List.mem_singleton]
          constructor
          · rintro (⟨a, b⟩ | rfl)
            · exact ⟨by omega, b⟩
            · exact ⟨by omega, e.symm⟩
          · rintro ⟨a, b⟩
            by_cases z : r = i
            · exact .inr z
            · exact .inl ⟨by omega, b⟩
      · rename_i e
        refine ⟨h1, h2, fun r => ?_⟩
        rw [h3]
        constructor
        · rintro ⟨a, b⟩
          exact ⟨by omega, b⟩
        · rintro ⟨a, b⟩
          refine ⟨?_, b⟩
          by_cases z : r = i
          · subst z; exact absurd b.symm e
          · omega
    · by_cases z : r = i
      · subst z
        obtain ⟨p, hp, e⟩ := List.any_eq_true.mp h
        have e := of_decide_eq_true e
        exact ⟨_, List.mem_map.mpr ⟨p, hp, rfl⟩, by rw [key]; exact e⟩
      · obtain ⟨p, hp, e⟩ := F.all r (by omega)
        exact ⟨_, List.mem_map.mpr ⟨p, hp, rfl⟩, by rw [key]; exact e⟩
    · rw [List.pairwise_map]
      refine List.Pairwise.imp_of_mem (fun {p q} hp hq hlt => ?_) F.ord
      have hd : ∀ p ∈ fs, gt (if p.1 = gt ls i then (p.1, p.2 ++ [i]) else p).2 0 = gt p.2 0 := fun p hp => by
        obtain ⟨h1, _⟩ := F.row p hp
        split
        · cases e : p.2 with
          | nil => exact absurd e h1
          | cons x t => rfl
        · rfl
      rw [hd p hp, hd q hq]
      exact hlt
  · rw [if_neg h]
    have no : ∀ p ∈ fs, p.1 ≠ gt ls i := fun p hp e => h (List.any_eq_true.mpr ⟨p, hp, decide_eq_true e⟩)
    refine ⟨?_, fun p hp => ?_, fun r hr => ?_, ?_⟩
    · rw [List.map_append, List.nodup_append]
      refine ⟨F.nd, by simp, fun a ha b hb => ?_⟩
      obtain ⟨p, hp, rfl⟩ := List.mem_map.mp ha
      simp at hb
      subst hb
      exact no p hp
    · rcases List.mem_append.mp hp with hp | hp
      · obtain ⟨h1, h2, h3⟩ := F.row p hp
        refine ⟨h1, h2, fun r => ?_⟩
        rw [h3]
        constructor
        · rintro ⟨a, b⟩
          exact ⟨by omega, b⟩
        · rintro ⟨a, b⟩
          refine ⟨?_, b⟩
          by_cases z : r = i
          · rw [z] at b; exact absurd b.symm (no p hp)
          · omega
      · rw [List.mem_singleton.mp hp]
        refine ⟨by simp, by simp, fun r => ?_⟩
        show r ∈ [i] ↔ r < i + 1 ∧ gt ls r = gt ls i
        rw [List.mem_singleton]
        constructor
        · rintro rfl
          exact ⟨by omega, rfl⟩
        · rintro ⟨a, b⟩
          by_cases z : r = i
          · exact z
          · obtain ⟨p, hp, e⟩ := F.all r (by omega)
            exact absurd (e.trans b) (no p hp)
    · by_cases z : r = i
      · subst z
        exact ⟨_, List.mem_append_right _ (List.mem_singleton.mpr rfl), rfl⟩
      · obtain ⟨p, hp, e⟩ := F.all r (by omega)
        exact ⟨p, List.mem_append_left _ hp, e⟩
    · rw [List.pairwise_append]
      refine ⟨F.ord, by simp, fun p hp q hq => ?_⟩
      rw [List.mem_singleton.mp hq]
      obtain ⟨h1, h2, h3⟩ := F.row p hp
      show gt p.2 0 < i
      exact ((h3 _).mp (gt_memN (List.length_pos_iff.mpr h1))).1
theorem found_ok (ls : List Nat) : ∀ i, FInv ls i ((List.range i).foldl (fun f r => putIn f (gt ls r) r) [])
  | 0 => ⟨List.nodup_nil, fun p hp => (by cases hp), fun r hr => (by omega), List.Pairwise.nil⟩
  | i + 1 => by
    rw [List.range_succ, List.foldl_append]
    exact putIn_ok (found_ok ls i)
/-- the groups: closed, not empty, ascending, each record in one, in the order of their least records -/
theorem groups_row {im : List Nat} (hI : Img im) {g : List Nat} (hg : g ∈ groupsOf im) : ∃ l, g ≠ [] ∧ g.Pairwise (· < ·) ∧ ∀ r, r ∈ g ↔ r < im.length ∧ gt (labelsOf im) r = l := by
  obtain ⟨p, hp, rfl⟩ := List.mem_map.mp hg
  have F := found_ok (labelsOf im) (labelsOf im).length
  rw [labels_len hI] at F
  have e : foundOf (labelsOf im) = (List.range im.length).foldl (fun f r => putIn f (gt (labelsOf im) r) r) [] := by
    unfold foundOf
    rw [labels_len hI]
  rw [e] at hp
  exact ⟨p.1, F.row p hp⟩
theorem groups_closed {im : List Nat} (hI : Img im) {g : List Nat} (hg : g ∈ groupsOf im) : Closed im g ∧ g ≠ [] := by
  obtain ⟨l, h1, h2, h3⟩ := groups_row hI hg
  refine ⟨fun r hr => ?_, h1⟩
  obtain ⟨a, b⟩ := (h3 r).mp hr
  refine ⟨a, (h3 _).mpr ⟨hI _ (gt_memN a), ?_⟩⟩
  rw [← labels_eq hI a]
  exact b
end Pm
end
section
set_option Elab.async false
set_option linter.all false
namespace Pm
/-! ### states and flips -/
/-- a pairing of the records with themselves -/
structure StOk (n : Nat) (st : List Nat) : Prop where
  len : st.length = n
  inv : ∀ i, i < n → gt st i < n ∧ gt st (gt st i) = i
/-- the busy records come with their partners -/
def BusyOk (n : Nat) (st busy : List Nat) : Prop := ∀ r ∈ busy, r < n ∧ gt st r ∈ busy
/-- the records of a flip, what the state names there, what the flip names -/
def FlipAt (st R new : List Nat) : Prop :=
  (∃ a b, R = [a, b] ∧ gt st a = b ∧ gt st b = a ∧ new = [a, b]) ∨ (∃ a c, R = [a, c] ∧ gt st a = a ∧ gt st c = c ∧ new = [c, a]) ∨
  (∃ a b c d, R = [a, b, c, d] ∧ gt st a = b ∧ gt st b = a ∧ gt st c = d ∧ gt st d = c ∧ new = [d, c, b, a]) ∨ (∃ a b c, R = [a, b, c] ∧ gt st a = b ∧ gt st b = a ∧ gt st c = c ∧ new = [c, b, a])
structure FlipOk (n : Nat) (st busy R new : List Nat) : Prop where
  nd : R.Nodup
  free : ∀ r ∈ R, r < n ∧ r ∉ busy
  form : FlipAt st R new
abbrev unitB (st busy : List Nat) (x : Nat) : Bool := decide (x ≤ gt st x) && decide (x ∉ busy)
section
variable {n : Nat} {st busy : List Nat} (S : StOk n st) (B : BusyOk n st busy)
include S B
theorem free_mate {p : Nat} (hp : p < n) (h : p ∉ busy) : gt st p < n ∧ gt st p ∉ busy := by
  obtain ⟨h1, h2⟩ := S.inv p hp
  refine ⟨h1, fun z => h ?_⟩
  have := (B _ z).2
  rw [h2] at this
  exact this
theorem flip_single {p : Nat} (hp : p < n) (h : p ∉ busy) (ne : p ≠ gt st p) : FlipOk n st busy [p, gt st p] [p, gt st p] := by
  obtain ⟨h1, h2⟩ := S.inv p hp
  have f := free_mate S B hp h
  refine ⟨List.nodup_cons.mpr ⟨fun z => ne (List.mem_singleton.mp z), by simp⟩, fun r hr => ?_, .inl ⟨p, gt st p, rfl, rfl, h2, rfl⟩⟩
  rcases List.mem_cons.mp hr with e | e
  · rw [e]; exact ⟨hp, h⟩
  · rw [List.mem_singleton.mp e]; exact f
theorem flip_two {p r : Nat} (hp : p < n) (hr : r < n) (h : p ∉ busy) (h' : r ∉ busy) (ne : p ≠ r) (fp : p = gt st p) (fr : r = gt st r) : FlipOk n st busy [p, r] [r, p] := by
  refine ⟨by simp [ne], fun x hx => ?_, .inr (.inl ⟨p, r, rfl, fp.symm, fr.symm, rfl⟩)⟩
  rcases List.mem_cons.mp hx with e | e
  · rw [e]; exact ⟨hp, h⟩
  · rw [List.mem_singleton.mp e]; exact ⟨hr, h'⟩
/-- two units, each the lesser of its pair -/
theorem units_apart {p r : Nat} (hp : p < n) (hr : r < n) (ne : p ≠ r) (lp : p ≤ gt st p) (lr : r ≤ gt st r) : gt st p ≠ r ∧ gt st p ≠ gt st r ∧ p ≠ gt st r := by
  obtain ⟨p1, p2⟩ := S.inv p hp
  obtain ⟨r1, r2⟩ := S.inv r hr
  refine ⟨fun z => ?_, fun z => ?_, fun z => ?_⟩
  · rw [z] at p2
    rw [p2] at lr
    omega
  · rw [z, r2] at p2
    exact ne p2.symm
  · rw [← z] at r2
    rw [r2] at lp
    omega
theorem flip_four {p q r s : Nat} (hp : p < n) (hr : r < n) (h : p ∉ busy) (h' : r ∉ busy) (hq : gt st p = q) (hs : gt st r = s) (n1 : p ≠ q) (n2 : r ≠ s) (n3 : p ≠ r) (n4 : p ≠ s) (n5 : q ≠ r) (n6 : q ≠ s) : FlipOk n st busy [p, q, r, s] [s, r, q, p] := by
  have fp := free_mate S B hp h
  have fr := free_mate S B hr h'
  have p2 := (S.inv p hp).2
  have r2 := (S.inv r hr).2
  rw [hq] at fp p2
  rw [hs] at fr r2
  refine ⟨by simp [n1, n2, n3, n4, n5, n6], fun x hx => ?_, .inr (.inr (.inl ⟨p, q, r, s, rfl, hq, p2, hs, r2, rfl⟩))⟩
  rcases List.mem_cons.mp hx with e | hx
  · rw [e]; exact ⟨hp, h⟩
  rcases List.mem_cons.mp hx with e | hx
  · rw [e]; exact fp
  rcases List.mem_cons.mp hx with e | hx
  · rw [e]; exact ⟨hr, h'⟩
  · rw [List.mem_singleton.mp hx]; exact fr
theorem flip_three {p q c : Nat} (hp : p < n) (hc : c < n) (h : p ∉ busy) (h' : c ∉ busy) (hq : gt st p = q) (fc : gt st c = c) (n1 : p ≠ q) (n2 : p ≠ c) (n3 : q ≠ c) : FlipOk n st busy [p, q, c] [c, q, p] := by
  have fp := free_mate S B hp h
  have p2 := (S.inv p hp).2
  rw [hq] at fp p2
  refine ⟨by simp [n1, n2, n3], fun x hx => ?_, .inr (.inr (.inr ⟨p, q, c, rfl, hq, p2, fc, rfl⟩))⟩
  rcases List.mem_cons.mp hx with e | hx
  · rw [e]; exact ⟨hp, h⟩
  rcases List.mem_cons.mp hx with e | hx
  · rw [e]; exact fp
  · rw [List.mem_singleton.mp hx]; exact ⟨hc, h'⟩
end
/-- the flip's entries below j are written where the mask says -/
def amask (R new : List Nat) (f : Nat → Bool) : Nat → List Nat → List Nat
  | 0, im => im
  | j + 1, im => if f j = true then (amask R new f j im).set (gt R j) (gt new j) else amask R new f j im
def wmask (f : Nat → Bool) : Nat → Nat
  | 0 => 0
  | j + 1 => if f j = true then wmask f j + 1 else wmask f j
theorem amask_congr {R new : List Nat} {f g : Nat → Bool} {im : List Nat} : ∀ {j : Nat}, (∀ x, x < j → f x = g x) → amask R new f j im = amask R new g j im
  | 0, _ => rfl
  | j + 1, h => by
    show (if f j = true then _ else _) = (if g j = true then _ else _)
    rw [h j (Nat.lt_succ_self j), amask_congr (j := j) fun x hx => h x (Nat.lt_succ_of_lt hx)]
theorem wmask_congr {f g : Nat → Bool} : ∀ {j : Nat}, (∀ x, x < j → f x = g x) → wmask f j = wmask g j
  | 0, _ => rfl
  | j + 1, h => by
    show (if f j = true then _ else _) = (if g j = true then _ else _)
    rw [h j (Nat.lt_succ_self j), wmask_congr (j := j) fun x hx => h x (Nat.lt_succ_of_lt hx)]
theorem amask_len {R new : List Nat} {f : Nat → Bool} {im : List Nat} : ∀ j, (amask R new f j im).length = im.length
  | 0 => rfl
  | j + 1 => by
    show (if f j = true then _ else _ : List Nat).length = _
    split
    · rw [List.length_set]; exact amask_len j
    · exact amask_len j
theorem wmask_le (f : Nat → Bool) : ∀ j, wmask f j ≤ j
  | 0 => Nat.le_refl _
  | j + 1 => by
    show (if f j = true then _ else _ : Nat) ≤ _
    have := wmask_le f j
    split <;> omega
/-- a store of a state under flips that stood in part: the busy records, the image, the number of torn flips -/
inductive Built (n : Nat) (st : List Nat) : List Nat → List Nat → Nat → Prop
  | start : Built n st [] st 0
  | flip {busy im : List Nat} {h : Nat} {R new : List Nat} {f : Nat → Bool} (b : Built n st busy im h) (ok : FlipOk n st busy R new) :
      Built n st (busy ++ R) (amask R new f R.length im) (if 0 < wmask f R.length ∧ wmask f R.length < R.length then h + 1 else h)
theorem flip_closed {n : Nat} {st busy R new : List Nat} (F : FlipOk n st busy R new) : ∀ r ∈ R, gt st r ∈ R := by
  intro r hr
  rcases F.form with ⟨a, b, rfl, h1, h2, _⟩ | ⟨a, c, rfl, h1, h2, _⟩ | ⟨a, b, c, d, rfl, h1, h2, h3, h4, _⟩ | ⟨a, b, c, rfl, h1, h2, h3, _⟩ <;> simp only [List.mem_cons, List.not_mem_nil, or_false] at hr ⊢
  · rcases hr with rfl | rfl
    · exact .inr h1
    · exact .inl h2
  · rcases hr with rfl | rfl
    · exact .inl h1
    · exact .inr h2
  · rcases hr with rfl | rfl | rfl | rfl
    · exact .inr (.inl h1)
    · exact .inl h2
    · exact .inr (.inr (.inr h3))
    · exact .inr (.inr (.inl h4))
  · rcases hr with rfl | rfl | rfl
    · exact .inr (.inl h1)
    · exact .inl h2
    · exact .inr (.inr h3)
theorem flip_lens {n : Nat} {st busy R new : List Nat} (F : FlipOk n st busy R new) : R.length ≤ 4 ∧ new.length = R.length ∧ 2 ≤ R.length := by
  rcases F.form with ⟨a, b, rfl, h1, h2, rfl⟩ | ⟨a, c, rfl, h1, h2, rfl⟩ | ⟨a, b, c, d, rfl, h1, h2, h3, h4, rfl⟩ | ⟨a, b, c, rfl, h1, h2, h3, rfl⟩ <;> simp
theorem built_ok {n : Nat} {st : List Nat} (S : StOk n st) {busy im : List Nat} {h : Nat} (b : Built n st busy im h) : BusyOk n st busy ∧ busy.Nodup ∧ im.length = n := by
  induction b with
  | start => exact ⟨fun r hr => (by cases hr), List.nodup_nil, S.len⟩
  | flip b ok ih =>
    obtain ⟨h1, h2, h3⟩ := ih
    refine ⟨fun r hr => ?_, ?_, by rw [amask_len]; exact h3⟩
    · rcases List.mem_append.mp hr with z | z
      · exact ⟨(h1 r z).1, List.mem_append_left _ (h1 r z).2⟩
      · exact ⟨(ok.free r z).1, List.mem_append_right _ (flip_closed ok r z)⟩
    · rw [List.nodup_append]
      exact ⟨h2, ok.nd, fun x hx y hy e => (ok.free y hy).2 (e ▸ hx)⟩
end Pm
end
section
set_option Elab.async false
set_option maxRecDepth 100000
set_option maxHeartbeats 4000000
set_option linter.unusedVariables false
/-! zip of a list and a tuple -/
namespace Pm
open PySem L2
/-- the list at a and the tuple at b, side by side -/
def ItzM (K : PySem.W.Frag) (a b : Addr) : It :=
  ⟨fun i H => ∃ (xs ys : List V) (x y : V), SqL K H a xs ∧ SqT K H b ys ∧ xs[i]? = some x ∧ ys[i]? = some y,
    fun i H v H' => ∃ t x y, v = .ref t ∧ H t = none ∧ H' = upd H t (.tup [x, y]) ∧ (∀ xs, SqL K H a xs → xs[i]? = some x) ∧ ∀ ys, SqT K H b ys → ys[i]? = some y,
    fun i H => ∃ xs ys : List V, SqL K H a xs ∧ SqT K H b ys ∧ xs.length = ys.length ∧ i = xs.length⟩
def stM (a b z ti tw i1 i2 : Addr) (i : Nat) (h : Heap) : Prop :=
  IsZip h z ti tw .none ∧ IsTupOf2 h ti (.ref i1) (.ref i2) ∧ (∃ x y, IsTupOf2 h tw x y) ∧ h.IsListIter i1 a i ∧ h.IsTupleIter i2 b i
end Pm
namespace Pm
open PySem L2
theorem turn_zm {P : Program} {w : World} {K : PySem.W.Frag} {elts : List Expr} {kk : Nat} {tpos : Pos} {a b z ti tw i1 i2 : Addr} (S : ZipSep2 z ti tw i1 i2 [i1, a] [i2, b]) (na : a ≠ i1) (nb : b ≠ i2) :
    Turn P w K (.Tuple elts kk tpos) (ItzM K a b) [z, ti, tw, i1, i2] z (stM a b z ti tw i1 i2) where
  mem := by simp
  obj := fun i h st c hc => by
    obtain ⟨s1, s2, ⟨x, y, s3⟩, ⟨o1, e1, _, d1⟩, ⟨o2, e2, _, d2⟩⟩ := st
    have cs : c = z ∨ c = ti ∨ c = tw ∨ c = i1 ∨ c = i2 := by simpa using hc
    rcases cs with q | q | q | q | q <;> rw [q]
    · exact ⟨_, s1, fun v q => nomatch q⟩
    · exact ⟨_, s2, fun v q => nomatch q⟩
    · exact ⟨_, s3, fun v q => nomatch q⟩
    · exact ⟨o1, e1, fun v q => by rw [d1] at q; cases q⟩
    · exact ⟨o2, e2, fun v q => by rw [d2] at q; cases q⟩
  keep := fun i h h' st k => by
    obtain ⟨s1, s2, ⟨x, y, s3⟩, s4, s5⟩ := st
    exact ⟨k z (by simp) _ s1, k ti (by simp) _ s2, ⟨x, y, k tw (by simp) _ s3⟩, s4.at fun o q => k i1 (by simp) o q, s5.at fun o q => k i2 (by simp) o q⟩
  item := by
    intro X hP hw hK hc i pins s σ H E I hf st hg
    subst hP; subst hw; subst hK
    obtain ⟨xs, ys, x, y, lx, ly, ex, ey⟩ := hg
    obtain ⟨its, r1, p1, _⟩ := I.list lx
    obtain ⟨jts, r2, p2, _⟩ := I.tuple ly
    obtain ⟨u1, g1, v1⟩ := r1.get ex
    obtain ⟨u2, g2, v2⟩ := r2.get ey
    have hh : X.A.handled = none := I.ok.hd hc
    obtain ⟨s1, s2, s3, s4, s5⟩ := st
    have W := GoesN.zip2 (prog := X.prog) (w := X.w) (A := X.A) (elts := elts) (x1 := kk) (pos := tpos) S (Draws.list (A := X.A.in1) hh i1 a na its.toArray) (Draws.tuple (A := X.A.in1) hh i2 b nb jts.toArray)
    have t1 : i < its.toArray.size := by
      have := (List.getElem?_eq_some_iff.mp g1).1
      simpa using this
    have t2 : i < jts.toArray.size := by
      have := (List.getElem?_eq_some_iff.mp g2).1
      simpa using this
    have sub : ∀ c ∈ [z, tw, i1, i2], c ∈ [z, ti, tw, i1, i2] := fun c hc => by
      have : c = z ∨ c = tw ∨ c = i1 ∨ c = i2 := by simpa using hc
      rcases this with q | q | q | q <;> simp [q]
    have old : ∀ c ∈ [z, ti, tw, i1, i2], c < s.heap.objs.size := fun c hc => by
      obtain ⟨x0, y0, s3⟩ := s3
      have cs : c = z ∨ c = ti ∨ c = tw ∨ c = i1 ∨ c = i2 := by simpa using hc
      rcases cs with q | q | q | q | q <;> rw [q]
      · exact Heap.lt_size s1
      · exact Heap.lt_size s2
      · exact Heap.lt_size s3
      · obtain ⟨_, e1, _⟩ := s4
        exact Heap.lt_size e1
      · obtain ⟨_, e2, _⟩ := s5
        exact Heap.lt_size e2
    refine W.goes i s _ E (Nat.lt_min.mpr ⟨t1, t2⟩) ⟨s1, s2, s3, ⟨s4, p1.isList⟩, ⟨s5, p2⟩⟩ fun v h' tk hY st' hk _ => ?_
    obtain ⟨t, q1, q2, rfl, nt, f1, f2, ht⟩ := hY
    obtain ⟨z1, z2, z3, ⟨z4, _⟩, ⟨z5, _⟩⟩ := st'
    have ea : q1 = u1 := by
      have g1' : its.toArray[i]? = some u1 := by simpa using g1
      rw [g1'] at f1
      exact (Option.some.inj f1).symm
    have eb : q2 = u2 := by
      have g2' : jts.toArray[i]? = some u2 := by simpa using g2
      rw [g2'] at f2
      exact (Option.some.inj f2).symm
    subst ea eb
    have new : ObjOk X.prog X.w (upd H t (.tup [x, y])) h' t (.tup [x, y]) := ⟨by show 2 ≤ sizeLine; decide, [q1, q2], .cons v1 (.cons v2 .nil), ht⟩
    have kk : ∀ c o, c ∉ [z, ti, tw, i1, i2] → s.heap.get? c = some o → h'.get? c = some o := fun c o hc e => hk c o (fun q => hc (sub c q)) e
    have I1 : Inv X pins σ (upd H t (.tup [x, y])) { s with heap := h', toks := tk } := I.turnedNew (ch := [z, ti, tw, i1, i2]) kk hf nt new
    refine ⟨.ref t, _, I1, rfl, ⟨t, x, y, rfl, I.hok.fresh nt, rfl, fun l hl => by rw [I.list_inj hl lx]; exact ex, fun l hl => by rw [I.tuple_inj hl ly]; exact ey⟩, ⟨z1, z2, z3, z4, z5⟩, fun c hc => ?_⟩
    rw [upd_ne (Nat.ne_of_lt (Nat.lt_of_lt_of_le (old c hc) nt))]
    exact (hf c hc).1
  done := by
    intro X hP hw hK hc i pins s σ H E I hf st hg
    subst hP; subst hw; subst hK
    obtain ⟨xs, ys, lx, ly, el, ei⟩ := hg
    obtain ⟨its, r1, p1, _⟩ := I.list lx
    obtain ⟨jts, r2, p2, _⟩ := I.tuple ly
    have hh : X.A.handled = none := I.ok.hd hc
    obtain ⟨s1, s2, s3, s4, s5⟩ := st
    have W := GoesN.zip2 (prog := X.prog) (w := X.w) (A := X.A) (elts := elts) (x1 := kk) (pos := tpos) S (Draws.list (A := X.A.in1) hh i1 a na its.toArray) (Draws.tuple (A := X.A.in1) hh i2 b nb jts.toArray)
    have l1 := r1.length
    have l2 := r2.length
    have e0 : min its.toArray.size jts.toArray.size = i := by
      simp only [List.size_toArray]
      omega
    rw [e0] at W
    have sub : ∀ c ∈ [z, tw, i1, i2], c ∈ [z, ti, tw, i1, i2] := fun c hc => by
      have : c = z ∨ c = tw ∨ c = i1 ∨ c = i2 := by simpa using hc
      rcases this with q | q | q | q <;> simp [q]
    exact W.stops s (fun s1 => Inv X pins σ H s1) E ⟨s1, s2, s3, ⟨s4, p1.isList⟩, ⟨s5, p2⟩⟩ fun h' tk hk _ => I.turnedL (ch := [z, ti, tw, i1, i2]) (fun c o hc e => hk c o (fun q => hc (sub c q)) e) hf
  self := fun A i s Q E st h => wpAny_pyIter_zip st.1 h
def iZipM (K : PySem.W.Frag) (ta : TA) : TI := fun σ H R => ta σ H fun vs H1 => ∃ a b xs ys, vs = [.ref a, .ref b] ∧ SqL K H1 a xs ∧ SqT K H1 b ys ∧ R (ItzM K a b) H1
theorem pi_zipM {X : Cx} {e e2 : Expr} {ta : TA} {p pos tpos : Pos} {elts : List Expr} {kk : Nat} (hg : Gl X "zip") (hm : X.mg "zip" = none) (ha : PA X [e, e2] ta)
    (hs : starEach [e, e2] X.env = (false, eval e X.env) :: starEach [e2] X.env := by rfl) (hpl : (backTo pos (starEach [e2] X.env)).any (·.1) = false := by rfl) :
    PI X (.Tuple elts kk tpos) (.Call (.Name "zip" p) [e, e2] [] pos) (iZipM X.K ta) := by
  refine ⟨fun pins s σ H R I hw => ?_⟩
  refine PyProof.Rows.Call_ (ld_blt I hg hm PyProof.Rows.boot_zip (PyProof.Rows.callWith_type1 (thn (ha.run pos pins s σ H _ I hw) fun us s1 ⟨vs, H1, I1, r1, q1⟩ => ?_) hs hpl))
  obtain ⟨a, b, xs, ys, ex, lx, ly, q⟩ := q1
  subst ex
  obtain ⟨u, u', rfl, ra, rb⟩ : ∃ u u', us = [u, u'] ∧ RelV (.ref a) u ∧ RelV (.ref b) u' := by
    cases r1 with
    | cons r rr => cases rr with
      | cons r' r2 => cases r2; exact ⟨_, _, rfl, r, r'⟩
  cases ra
  cases rb
  obtain ⟨its, _, p1, _⟩ := I1.list lx
  obtain ⟨jts, _, p2, _⟩ := I1.tuple ly
  have la : a < s1.heap.objs.size := p1.lt
  have lb : b < s1.heap.objs.size := p2.lt
  refine zip_begins2 (begins_list a its.toArray) (begins_tuple b jts.toArray) p1.isList p2 fun h' hz hT1 hT2 g1 g2 _ hk => wpAny_pyIter_zip hz ?_
  have I2 : Inv X pins σ H1 { s1 with heap := h' } := I1.kept (t' := s1.toks) hk
  refine ⟨s1.heap.objs.size + 4, [s1.heap.objs.size + 4, s1.heap.objs.size + 2, s1.heap.objs.size + 3, s1.heap.objs.size, s1.heap.objs.size + 1], _, _, H1, rfl, I2, turn_zm (a := a) (b := b) (zip_sep2 (N := s1.heap.objs.size) (fun c hc => ?_) (fun c hc => ?_)) ?_ ?_, ⟨hz, hT1, ⟨_, _, hT2⟩, ⟨_, g1, rfl, rfl⟩, ⟨_, g2, rfl, rfl⟩⟩, fun c hc => ?_, q⟩
  · rw [List.mem_singleton.mp hc]; exact la
  · rw [List.mem_singleton.mp hc]; exact lb
  · exact Nat.ne_of_lt la
  · exact Nat.ne_of_lt (Nat.lt_of_lt_of_le lb (Nat.le_add_right _ 1))
  · have cs : c = s1.heap.objs.size + 4 ∨ c = s1.heap.objs.size + 2 ∨ c = s1.heap.objs.size + 3 ∨ c = s1.heap.objs.size ∨ c = s1.heap.objs.size + 1 := by simpa using hc
    have le : s1.heap.objs.size ≤ c := by
      rcases cs with q | q | q | q | q <;> rw [q] <;> first | exact Nat.le_refl _ | exact Nat.le_add_right _ _
    exact I1.fpOk le (I1.hok.fresh le)
/-- a loop over such a zip, both of one length -/
def LoopM (K : PySem.W.Frag) (a b : Addr) (g : TG) (tb : TS) (D : Ends) (σ : L2.St) (H : Hp) : Prop :=
  ∃ W : Nat → Nat → L2.St → Hp → Prop, (∃ m, W 0 m σ H) ∧ ∀ i m σ H, W i m σ H →
    ((ItzM K a b).stop i H ∧ D.nx σ H) ∨ ((ItzM K a b).go i H ∧ ∃ N : L2.St → Hp → Prop, (∀ σ' H', N σ' H' → ∃ m', m' < m ∧ W (i + 1) m' σ' H') ∧ ∀ x H', (ItzM K a b).yld i H x H' → g x σ H' fun σ2 H2 => tb { D with nx := N, ct := N, bk := D.nx } σ2 H2)
theorem x_forZM {K : PySem.W.Frag} {ta : TA} {g : TG} {tb : TS} {D : Ends} {σ : L2.St} {H : Hp} (q : ta σ H fun vs H1 => ∃ a b xs ys, vs = [.ref a, .ref b] ∧ SqL K H1 a xs ∧ SqT K H1 b ys ∧ LoopM K a b g tb D σ H1) : tFor (iZipM K ta) g tb D σ H := q
theorem loopM_by {K : PySem.W.Frag} {a b : Addr} {xs ys : List V} {g : TG} {tb : TS} {D : Ends} {σ : L2.St} {H : Hp} (hl : xs.length = ys.length) (Pv : Nat → L2.St → Hp → Prop) (h0 : Pv 0 σ H) (hS : ∀ i σ H, Pv i σ H → SqL K H a xs ∧ SqT K H b ys)
    (hs : ∀ (i : Nat) (x y : V) (t : Addr) (σ : L2.St) (H : Hp), xs[i]? = some x → ys[i]? = some y → Pv i σ H → H t = none → g (.ref t) σ (upd H t (.tup [x, y])) fun σ2 H2 => tb { D with nx := Pv (i + 1), ct := Pv (i + 1), bk := D.nx } σ2 H2)
    (hd : ∀ σ H, Pv xs.length σ H → D.nx σ H) : LoopM K a b g tb D σ H := by
  refine ⟨fun i m σ H => m = xs.length - i ∧ i ≤ xs.length ∧ Pv i σ H, ⟨_, rfl, Nat.zero_le _, h0⟩, ?_⟩
  rintro i m σ H ⟨rfl, hi, p⟩
  obtain ⟨q1, q2⟩ := hS i σ H p
  by_cases hlt : i < xs.length
  · have hlt2 : i < ys.length := by omega
    refine .inr ⟨⟨xs, ys, xs[i], ys[i], q1, q2, List.getElem?_eq_getElem hlt, List.getElem?_eq_getElem hlt2⟩, Pv (i + 1), fun σ' H' p' => ⟨xs.length - (i + 1), by omega, rfl, hlt, p'⟩, fun v H' y => ?_⟩
    obtain ⟨t, x, y, rfl, ht, rfl, h1, h2⟩ := y
    exact hs i x y t σ H (h1 xs q1) (h2 ys q2) p ht
  · have e : i = xs.length := by omega
    subst e
    exact .inl ⟨⟨xs, ys, q1, q2, hl, rfl⟩, hd σ H p⟩
end Pm
end
section
set_option Elab.async false
set_option maxRecDepth 100000
set_option maxHeartbeats 4000000
set_option linter.unusedVariables false
/-! tuples whose one object is told, their index; methods of such objects -/
namespace Pm
open PySem L2
section
variable {X : Cx}
/-- tuple(l), the new object told -/
def rTupF (K : PySem.W.Frag) : List V → Hp → VK → Prop := fun xs H Q => ∃ p ys, xs = [.ref p] ∧ SqL K H p ys ∧ ∀ l o, H l = none → o.cls = .type "tuple" → o.dict = none → Q (.ref l) (upd H l (.frz o (.tup ys)))
theorem call_tupF : CallR X (.type "tuple") (rTupF X.K) := by
  intro pins s σ H xs us Q I r hw
  obtain ⟨p, ys, rfl, hq, q⟩ := hw
  cases r with
  | cons rx rr =>
    cases rr
    cases rx
    obtain ⟨its, r', pl, hz⟩ := I.list hq
    have hlen := r'.length
    refine call_tuple_list pl.isList (fun h' kp => ?_) (by simp only [List.size_toArray]; omega)
    have I1 : Inv X pins σ H { s with heap := h' } := I.kept (t' := s.toks) kp
    have no : (upd H h'.objs.size (.frz { cls := .type "tuple", data := .seq its.toArray } (.tup ys))) h'.objs.size = some (.frz { cls := .type "tuple", data := .seq its.toArray } (.tup ys)) := upd_same
    have I2 : Inv X pins σ (upd H h'.objs.size (.frz { cls := .type "tuple", data := .seq its.toArray } (.tup ys))) { s with heap := h'.push { cls := .type "tuple", data := .seq its.toArray } } :=
      I1.laid (t' := s.toks) (fun b o e => Heap.get?_push_of_some _ e) (Nat.le_refl _) ⟨Heap.get?_push_size _ rfl, hz, its, r', PyProof.Rows.IsTup.new _ _⟩
    exact ⟨.ref h'.objs.size, _, I2, rfl, q _ _ (I1.hok.fresh (Nat.le_refl _)) rfl rfl⟩
/-- the place of an item in a tuple -/
def rIndexT (K : PySem.W.Frag) : V → List V → Hp → VK → Prop := fun x xs H Q => ∃ (a : Addr) (ys : List V) (y : V) (j : Nat) (z : V), x = V.ref a ∧ xs = [y] ∧ SqT K H a ys ∧ flatV y = true ∧ ys.all flatV = true ∧ ys[j]? = some z ∧ eqV z y = true ∧
  (∀ (m : Nat) (z' : V), m < j → ys[m]? = some z' → eqV z' y = false) ∧ Q (.int (j : Nat)) H
theorem mt_tupIndex : MtR X "tuple.index" (rIndexT X.K) := by
  intro pins s σ H x xs v us Q I rx rxs hw
  obtain ⟨a, ys, y, j, z, rfl, rfl, hs, fy, fys, hz, hzj, hno, q⟩ := hw
  cases rx
  obtain ⟨uy, rfl, ry⟩ : ∃ uy, us = [uy] ∧ RelV y uy := by
    cases rxs with
    | cons r1 r2 => cases r2; exact ⟨_, rfl, r1⟩
  obtain ⟨its, rv, pl, hlen⟩ := I.tuple hs
  obtain ⟨⟨cls, dd, data, sl⟩, ho, hc, n, hd⟩ := pl
  dsimp only at hc hd
  subst hc
  subst hd
  obtain ⟨u, hu, ru⟩ := rv.get hz
  obtain ⟨hjl, hje⟩ := List.getElem?_eq_some_iff.mp hu
  have hvl := rv.length
  have hj : j < its.toArray.size := by simpa using hjl
  refine call_meets PySem.F.slot_tuple_index ⟨_, ho, rfl⟩ PySem.F.entry_tuple_index (PySem.F.args_tuple_index_2 _ _) (TI.tuple_indexAt a its.toArray n dd sl uy (eqU y) j hj ?_ ?_)
    ⟨ho, fun w hw => mem_eqAt ry fy rv fys w (by simpa using hw), ⟨.int (j : Nat), H, I.tok _, ⟨_, rfl⟩, q⟩⟩
  · have e1 : its.toArray[j] = u := by simpa using hje
    rw [e1, eqU_of ru (List.all_eq_true.mp fys z (List.mem_of_getElem? hz))]
    exact hzj
  · intro m hm hmj
    have hmy : m < ys.length := by
      have : m < its.length := by simpa using hm
      omega
    obtain ⟨u2, hu2, ru2⟩ := rv.get (List.getElem?_eq_getElem hmy)
    obtain ⟨_, hme⟩ := List.getElem?_eq_some_iff.mp hu2
    have e1 : its.toArray[m] = u2 := by simpa using hme
    rw [e1, eqU_of ru2 (List.all_eq_true.mp fys _ (List.getElem_mem hmy))]
    exact hno m _ hmj (List.getElem?_eq_getElem hmy)
/-! ### a built-in's method of an object that is told -/
/-- the value is an object of the built-in type T, without a dict of its own -/
def TyO (T : String) (K : PySem.W.Frag) (x : V) (H : Hp) : Prop := ∃ p o, x = .ref p ∧ ((∃ u, H p = some (.frz o u)) ∨ K.lookup p = some o) ∧ o.cls = .type T ∧ o.dict = none
def tBMG (K : PySem.W.Frag) (T : String) (r : V → List V → Hp → VK → Prop) (to : TE) (t : TA) : TE := fun σ H Q => to σ H fun x H1 => TyO T K x H1 ∧ t σ H1 fun xs H2 => r x xs H2 Q
theorem pe_bmG {o e : Expr} {es : List Expr} {to : TE} {t : TA} {name : Str} {apos cpos : Pos} {T id : String} {r : V → List V → Hp → VK → Prop} (pa : PlainAttrs T) (slot : Slot T name id) (hty : typeOf (.builtin id) = pure (.type "method_descriptor")) (hm : MtR X id r) (ho : PE X o to) (ha : PA X (e :: es) t)
    (hbase : attributeBase o name X.env (eval o X.env) = eval o X.env := by rfl)
    (hfew : ((backTo cpos (starEach (e :: es) X.env)).all (fun x => !x.1) && (backToKw cpos (keywordEach [] X.env)).all (fun x => x.1.isSome) && decide ((e :: es).length + ([] : List Keyword).length + (if ([] : List Keyword).isEmpty then 0 else 1) < 30)) = true := by rfl)
    (hline : (apos.endLine == cpos.line) = true := by rfl) (hs : starEach (e :: es) X.env = (false, eval e X.env) :: starEach es X.env := by rfl) (hplain : (backTo cpos (starEach es X.env)).any (·.1) = false := by rfl) :
    PE X (.Call (.Attribute o name apos) (e :: es) [] cpos) (tBMG X.K T r to t) := by
  refine ⟨fun pins s σ H Q I hw => ?_⟩
  refine wpAny_Call_method_late hbase hfew hline rfl (thn (ho.run pins s σ H _ I hw) fun v s1 ⟨x, H1, I1, r1, ty, q1⟩ => ?_)
  obtain ⟨p, ob, rfl, hob, hcl, hdi⟩ := ty
  have hget : s1.heap.get? p = some ob := by
    rcases hob with ⟨u, hu⟩ | hk
    · exact (I1.hok p _ hu).1
    · exact I1.kIn _ _ hk
  cases r1
  refine ⟨T, id, pa, slot, hty, ⟨ob, hget, hcl⟩, fun a ea => ?_, ?_⟩
  · cases ea
    exact ⟨ob, hget, hdi⟩
  · have hA := ha.run cpos pins s1 σ H1 _ I1 q1
    rw [hs] at hA ⊢
    refine Calls.callWith_builtin (by show (false || (backTo cpos (starEach es X.env)).any (·.1)) = false; rw [hplain]; rfl) (Calls.evalArgs_plain ?_)
    exact thn hA fun us s2 ⟨vs, H2, I2, r2, q2⟩ => hm pins s2 σ H2 (.ref p) vs _ us Q I2 rfl r2 q2
end
end Pm
end
section
set_option Elab.async false
set_option maxRecDepth 100000
set_option maxHeartbeats 4000000
set_option linter.unusedVariables false
/-! the bag of the draws: a list that its own def alone reads and writes; for all others it is one steady thing -/
namespace Pm
open PySem L2
def GoodBag (c : Addr) (xs : List V) : Prop := ∃ i r m : Int, xs = [.ref c, .int i, .int r, .int m] ∧ 0 ≤ i ∧ 0 ≤ m ∧ m < 2147483647
def bagPhi (b c : Addr) (h : Heap) : Prop := ∃ (xs : List V) (its : List Value) (n : Nat), GoodBag c xs ∧ Vals xs its ∧ h.get? b = some { cls := .type "list", data := .seq its.toArray n }
def BagO (b c : Addr) : HO := .ext (bagPhi b c)
section
variable {P : Program} {w : World} {H H' : Hp} {h h' : Heap} {b c : Addr} {xs : List V} {o : HO}
theorem good_len (g : GoodBag c xs) : xs.length ≤ sizeLine := by
  obtain ⟨i, r, m, rfl, _⟩ := g
  show 4 ≤ sizeLine
  decide
/-- one object told otherwise: no tuple, no dict of an instance -/
theorem hok_swap {u : HO} (k : HOk P w H h) (hb : H b = some u) (hu : (∀ a, u ≠ .own a) ∧ ∀ us, u ≠ .tup us) (new : ObjOk P w (upd H b o) h b o) : HOk P w (upd H b o) h := fun a q e => by
  by_cases hab : a = b
  · subst hab
    rw [upd_same] at e
    cases e
    exact new
  · rw [upd_ne hab] at e
    refine (k a q e).stay (fun _ _ _ z => z) (fun d z => ?_) fun d us z => ?_
    · have nd : d ≠ b := fun q2 => by rw [q2, hb] at z; exact hu.1 _ (Option.some.inj z)
      rw [upd_ne nd]
      exact z
    · have nd : d ≠ b := fun q2 => by rw [q2, hb] at z; exact hu.2 _ (Option.some.inj z)
      rw [upd_ne nd]
      exact z
theorem bag_in (k : HOk P w H h) (hb : H b = some (BagO b c)) : ∃ xs, GoodBag c xs ∧ HOk P w (upd H b (.lst xs)) h := by
  obtain ⟨⟨xs, its, n, g, r, e⟩, _⟩ := k b _ hb
  exact ⟨xs, g, hok_swap k hb ⟨fun a q => (by cases q), fun us q => (by cases q)⟩ ⟨good_len g, its, n, r, e⟩⟩
theorem bag_out (k : HOk P w H h) (hb : H b = some (.lst xs)) (g : GoodBag c xs) : HOk P w (upd H b (BagO b c)) h := by
  obtain ⟨_, its, n, r, e⟩ := k b _ hb
  refine hok_swap k hb ⟨fun a q => (by cases q), fun us q => (by cases q)⟩ ⟨⟨xs, its, n, g, r, e⟩, ⟨_, e⟩, ?_⟩
  rintro h1 h2 ⟨ys, jts, m, g1, r1, e1⟩ hk
  exact ⟨ys, jts, m, g1, r1, hk _ e1⟩
theorem un_out {fs ex : List Addr} (u : Un fs ex H H' h h') (hb : H' b = some (.lst xs)) : Un fs ex H (upd H' b o) h h' where
  keep := u.keep
  slot := u.slot
  free := fun d q e n hx => by
    have z := u.free d q e n hx
    rw [upd_ne (fun q2 => by rw [q2, hb] at z; cases z)]
    exact z
  there := u.there
  tups := fun d us e => by
    have z := u.tups d us e
    rw [upd_ne (fun q2 => by rw [q2, hb] at z; cases z)]
    exact z
  frzs := fun d q us e => by
    have z := u.frzs d q us e
    rw [upd_ne (fun q2 => by rw [q2, hb] at z; cases z)]
    exact z
  tbls := fun d ps e => by
    obtain ⟨more, z⟩ := u.tbls d ps e
    exact ⟨more, by rw [upd_ne (fun q2 => by rw [q2, hb] at z; cases z)]; exact z⟩
theorem un_in {fs ex : List Addr} (u : Un fs ex (upd H b (.lst xs)) H' h h') (hb : H b = some (BagO b c)) : Un fs ex H H' h h' where
  keep := fun d q e n => u.keep d q e (by rw [upd_ne (fun q2 => by rw [q2, hb] at n; cases n)]; exact n)
  slot := fun d q e n => u.slot d q e (by rw [upd_ne (fun q2 => by rw [q2, hb] at n; cases n)]; exact n)
  free := fun d q e n => u.free d q e (by rw [upd_ne (fun q2 => by rw [q2, hb] at n; cases n)]; exact n)
  there := u.there
  tups := fun d us e => u.tups d us (by rw [upd_ne (fun q2 => by rw [q2, hb] at e; cases e)]; exact e)
  frzs := fun d q us e => u.frzs d q us (by rw [upd_ne (fun q2 => by rw [q2, hb] at e; cases e)]; exact e)
  tbls := fun d ps e => u.tbls d ps (by rw [upd_ne (fun q2 => by rw [q2, hb] at e; cases e)]; exact e)
end
section
variable {P : Program} {w : World} {K : PySem.W.Frag} {mg : Str → Option Value} {base : Heap} {k : Nat} {f : Addr} {fd : FuncData} {ps : List Str} {sp sp' : Sp}
/-- a def that opens the bag, as its callers see it -/
theorem bag_fn (F : FnOk P w K mg base CX0 k f fd ps sp) (hl : ∀ vs H Q E, sp' vs H Q E → vs.length = ps.length)
    (hs : ∀ vs H Q E, sp' vs H Q E → ∃ b c, H b = some (BagO b c) ∧ ∀ xs, GoodBag c xs → sp vs (upd H b (.lst xs)) (fun v H' => ∃ xs', H' b = some (.lst xs') ∧ GoodBag c xs' ∧ Q v (upd H' b (BagO b c))) E) :
    FnOk P w K mg base CX0 k f fd ps sp' := by
  refine ⟨hl, fun A outer s H args us vs Q E hr he hb hv hw => ?_⟩
  obtain ⟨b, c, hbag, hsp⟩ := hs vs H Q E hw
  obtain ⟨xs, g, hok⟩ := bag_in he.hok hbag
  have nb : ∀ a, H a = none → a ≠ b := fun a n q => by rw [q, hbag] at n; cases n
  have he1 : Env0 P w K mg base A outer s (upd H b (.lst xs)) := ⟨he.frames, he.mod, fun a o e => ⟨(he.bs a o e).1, by rw [upd_ne (nb a (he.bs a o e).2)]; exact (he.bs a o e).2⟩, he.bsz, he.funs, fun a ha => by rw [upd_ne (nb a (he.frf a ha))]; exact he.frf a ha, hok, he.bare⟩
  refine codeAny_mono (F.run A outer s _ args us vs _ E hr he1 hb hv (hsp xs g)) fun r s' hq => ?_
  cases r with
  | error e => exact hq
  | ok fl =>
    cases fl with
    | ret u =>
      obtain ⟨v, H', q1, q2, q3, q4, q5, xs', q6, q7, q8⟩ := hq
      exact ⟨v, _, q1, q2, un_out (un_in q3 hbag) q6, bag_out q4 q6 q7, q5, q8⟩
    | next => exact hq
    | brk => exact hq
    | cont => exact hq
/-- the def that makes the bag -/
theorem bag_mk (F : FnOk P w K mg base CX0 k f fd ps sp) (hl : ∀ vs H Q E, sp' vs H Q E → vs.length = ps.length)
    (hs : ∀ vs H Q E, sp' vs H Q E → sp vs H (fun v H' => ∃ b c xs', H' b = some (.lst xs') ∧ GoodBag c xs' ∧ Q v (upd H' b (BagO b c))) E) : FnOk P w K mg base CX0 k f fd ps sp' := by
  refine ⟨hl, fun A outer s H args us vs Q E hr he hb hv hw => ?_⟩
  refine codeAny_mono (F.run A outer s H args us vs _ E hr he hb hv (hs vs H Q E hw)) fun r s' hq => ?_
  cases r with
  | error e => exact hq
  | ok fl =>
    cases fl with
    | ret u =>
      obtain ⟨v, H', q1, q2, q3, q4, q5, b, c, xs', q6, q7, q8⟩ := hq
      exact ⟨v, _, q1, q2, un_out q3 q6, bag_out q4 q6 q7, q5, q8⟩
    | next => exact hq
    | brk => exact hq
    | cont => exact hq
end
end Pm
end
section
set_option Elab.async false
set_option maxRecDepth 100000
set_option maxHeartbeats 4000000
set_option linter.unusedVariables false
/-! the table of the shapes, which the top has laid: read and walked -/
namespace Pm
open PySem L2
def shapesL : List (List Int × Str) := [([0], "free"), ([1, 0], "pair"), ([1, 1], "claim"), ([1, 2, 1], "hook"), ([1, 2, 2], "relay"), ([1, 2, 1, 2], "clamp"), ([1, 2, 3, 2], "trail"), ([1, 2, 3, 0], "wheel")]
def tupIn (K : PySem.W.Frag) (a : Addr) (ks : List Int) : Bool := match K.lookup a with
  | some ⟨.type c, none, .seq its _, _⟩ => decide (c = "tuple") && (decide (its.size ≤ sizeLine) && He.relAll (ks.map V.int) its.toList)
  | _ => false
def hashT (ks : List Int) : Int := reduceHash (Builtin.Tuple.tupleHashOf (ks.map hashInt))
def shpB (K : PySem.W.Frag) : List DictEntry → List (List Int × Str) → Bool
  | [], [] => true
  | ⟨hh, .ref b, .str x _⟩ :: es, (ks, y) :: r => decide (hh = hashT ks) && (tupIn K b ks && (decide (x = y) && shpB K es r))
  | _, _ => false
def shapesB (K : PySem.W.Frag) : Bool := match K.lookup (He.ga K "SHAPES") with
  | some ⟨.type c, none, .dict es _, sl⟩ => decide (c = "dict") && (sl.isEmpty && (!(He.ga K "SHAPES" == sysModules) && shpB K es.toList shapesL))
  | _ => false
abbrev H0 : Hp := fun _ => none
/-- entries against their keys and words -/
def ShpEs (K : PySem.W.Frag) (xs : List (List Int × Addr × Value)) (ys : List (List Int × Str)) : Prop := Paired (fun x y => x.1 = y.1 ∧ SqT K H0 x.2.1 (x.1.map V.int) ∧ RelV (.str y.2) x.2.2) xs ys
def mkE (x : List Int × Addr × Value) : DictEntry := ⟨hashT x.1, .ref x.2.1, x.2.2⟩
structure ShpAt (K : PySem.W.Frag) (a : Addr) : Prop where
  ex : ∃ (o : Obj) (es : Array DictEntry) (ep : Nat) (xs : List (List Int × Addr × Value)), K.lookup a = some o ∧ o.ExactDict ∧ o.data = .dict es ep ∧ es.toList = xs.map mkE ∧ ShpEs K xs shapesL
  nm : (a == sysModules) = false
theorem tupIn_ok {K : PySem.W.Frag} {a : Addr} {ks : List Int} (h : tupIn K a ks = true) : SqT K H0 a (ks.map V.int) := by
  unfold tupIn at h
  cases q : K.lookup a with
  | none => rw [q] at h; cases h
  | some o =>
    obtain ⟨oc, od, dt, osl⟩ := o
    rw [q] at h
    cases oc with
    | type c => cases od with
      | none => cases dt with
        | seq its n =>
          obtain ⟨h1, h2⟩ := He.ba (show (decide (c = "tuple") && (decide (its.size ≤ sizeLine) && He.relAll (ks.map V.int) its.toList)) = true from h)
          obtain ⟨h3, h4⟩ := He.ba h2
          exact .inr ⟨_, its, n, q, congrArg Value.type (of_decide_eq_true h1), rfl, of_decide_eq_true h3, He.relAll_ok h4⟩
        | _ => cases h
      | some a => cases dt <;> cases h
    | _ => cases od <;> cases dt <;> cases h
theorem shpB_ok {K : PySem.W.Frag} : ∀ (es : List DictEntry) (ys : List (List Int × Str)), shpB K es ys = true → ∃ xs, es = xs.map mkE ∧ ShpEs K xs ys
  | [], [], _ => ⟨[], rfl, .nil⟩
  | [], _ :: _, h => by cases h
  | ⟨hh, k, v⟩ :: es, [], h => by cases k <;> cases v <;> cases h
  | ⟨hh, k, v⟩ :: es, (ks, y) :: r, h => by
    cases k with
    | ref b => cases v with
      | str x t =>
        obtain ⟨h1, h2⟩ := He.ba (show (decide (hh = hashT ks) && (tupIn K b ks && (decide (x = y) && shpB K es r))) = true from h)
        obtain ⟨h3, h4⟩ := He.ba h2
        obtain ⟨h5, h6⟩ := He.ba h4
        obtain ⟨xs, e, q⟩ := shpB_ok es r h6
        have e1 := of_decide_eq_true h1
        have e2 := of_decide_eq_true h5
        subst e1 e2
        exact ⟨(ks, b, .str x t) :: xs, by rw [e]; rfl, .cons ⟨rfl, tupIn_ok h3, ⟨t, rfl⟩⟩ q⟩
      | _ => cases h
    | _ => cases v <;> cases h
theorem shapes_ok {K : PySem.W.Frag} (h : shapesB K = true) : ShpAt K (He.ga K "SHAPES") := by
  unfold shapesB at h
  cases q : K.lookup (He.ga K "SHAPES") with
  | none => rw [q] at h; cases h
  | some o =>
    obtain ⟨oc, od, dt, osl⟩ := o
    rw [q] at h
    cases oc with
    | type c => cases od with
      | none => cases dt with
        | dict es n =>
          obtain ⟨h1, h2⟩ := He.ba (show (decide (c = "dict") && (osl.isEmpty && (!(He.ga K "SHAPES" == sysModules) && shpB K es.toList shapesL))) = true from h)
          obtain ⟨h3, h4⟩ := He.ba h2
          obtain ⟨h5, h6⟩ := He.ba h4
          obtain ⟨xs, e, z⟩ := shpB_ok _ _ h6
          refine ⟨⟨_, es, n, xs, q, ⟨congrArg Value.type (of_decide_eq_true h1), rfl, Array.isEmpty_iff.mp h3⟩, rfl, e, z⟩, ?_⟩
          cases y : He.ga K "SHAPES" == sysModules with
          | false => rfl
          | true => rw [y] at h5; cases h5
        | _ => cases h
      | some a => cases dt <;> cases h
    | _ => cases od <;> cases dt <;> cases h
section
variable {X : Cx}
theorem shp_dict {K : PySem.W.Frag} {P : Program} {w : World} {h : Heap} {a : Addr} (k : K.In h) (A : ShpAt K a) : ∃ xs, h.DictOfH (tupleKind (intKind P w)) a xs ∧ ShpEs K xs shapesL := by
  obtain ⟨o, es, ep, xs, lk, ex, hd, he, z⟩ := A.ex
  have keys : ∀ {xs : List (List Int × Addr × Value)} {ys : List (List Int × Str)}, ShpEs K xs ys → xs.map (·.1) = ys.map (·.1) ∧ ∀ x ∈ xs, IsTupleKey (intKind P w) h x.1 x.2.1 := by
    intro xs ys z
    induction z with
    | nil => exact ⟨rfl, fun _ q => by cases q⟩
    | @cons x y xs ys p _ ih =>
      refine ⟨by rw [List.map_cons, List.map_cons, p.1, ih.1], fun u hu => ?_⟩
      rcases List.mem_cons.mp hu with rfl | hu
      · rcases p.2.1 with q | ⟨o, its, n, hk, hc, hs, hz, r⟩
        · rcases q with q | ⟨_, q⟩ <;> cases q
        · exact ⟨o, its, n, k _ _ hk, hc, hs, items_of_vals r⟩
      · exact ih.2 u hu
  obtain ⟨k1, k2⟩ := keys z
  refine ⟨xs, ⟨o, es, ep, k _ _ lk, ex, hd, he, k2, ?_⟩, z⟩
  rw [k1]
  decide
/-- SHAPES.get(t) -/
def shpGet (ks : List Int) : V := match shapesL.find? (fun y => decide (y.1 = ks)) with
  | some y => .str y.2
  | none => .non
def rShpGet (K : PySem.W.Frag) : V → List V → Hp → VK → Prop := fun x xs H Q => ∃ (a p : Addr) (ks : List Int), x = .ref a ∧ xs = [.ref p] ∧ ShpAt K a ∧ SqT K H p (ks.map V.int) ∧ Q (shpGet ks) H
theorem atKey_pair {K : PySem.W.Frag} {ks : List Int} : ∀ {xs : List (List Int × Addr × Value)} {ys : List (List Int × Str)}, ShpEs K xs ys →
    RelV (match ys.find? (fun y => decide (y.1 = ks)) with | some y => V.str y.2 | none => V.non) (((atKey xs ks).map (·.2)).getD .none)
  | [], [], .nil => rfl
  | x :: xs, y :: ys, .cons p t => by
    have ih := atKey_pair (ks := ks) t
    obtain ⟨k, b, v⟩ := x
    obtain ⟨k', z⟩ := y
    obtain ⟨e, _, r⟩ := p
    dsimp only at e r
    subst e
    by_cases hk : k = ks
    · have e1 : atKey ((k, b, v) :: xs) ks = some (b, v) := by
        unfold atKey
        rw [List.find?_cons_of_pos (by simpa using hk)]
        rfl
      rw [e1, List.find?_cons_of_pos (by simpa using hk)]
      exact r
    · have e1 : atKey ((k, b, v) :: xs) ks = atKey xs ks := by
        unfold atKey
        rw [List.find?_cons_of_neg (by simpa using hk)]
      rw [e1, List.find?_cons_of_neg (by simpa using hk)]
      exact ih
theorem mt_shpGet (hu : X.A.units + 1 < cLine) : MtR X "dict.get" (rShpGet X.K) := by
  intro pins s σ H x xs v us Q I rx rxs hw
  obtain ⟨a, p, ks, rfl, rfl, A, hp, q⟩ := hw
  cases rx
  obtain ⟨uy, rfl, ry⟩ : ∃ uy, us = [uy] ∧ RelV (.ref p) uy := by
    cases rxs with
    | cons r1 r2 => cases r2; exact ⟨_, rfl, r1⟩
  cases ry
  obtain ⟨xs, D, z⟩ := shp_dict (P := X.prog) (w := X.w) I.kIn A
  refine call_meetsIn PySem.F.slot_dict_get D.typeIs PySem.F.entry_dict_get (PySem.F.args_dict_get_2 _ _) (meetsH_dict_get (tupleKind (intKind X.prog X.w)) a p A.nm) ⟨tupleKind_room_in1 hu, ks, xs, Inv.isT I hp, D, ?_⟩
  exact ⟨_, H, I.tok _, atKey_pair z, q⟩
/-! ### for shape in SHAPES -/
def ItShp (K : PySem.W.Frag) (a : Addr) : It :=
  ⟨fun i H => ShpAt K a ∧ i < 8, fun i H x H' => H' = H ∧ ∃ (p : Addr) (y : List Int × Str), x = .ref p ∧ shapesL[i]? = some y ∧ SqT K H0 p (y.1.map V.int), fun i H => ShpAt K a ∧ 8 ≤ i⟩
theorem turn_shp {P : Program} {w : World} {K : PySem.W.Frag} {tg : Expr} {d it : Addr} {o : Obj} {es : Array DictEntry} {ep : Nat} (hk : K.lookup d = some o) (hod : o.data = .dict es ep) :
    Turn P w K tg (ItShp K d) [it] it (fun i h => h.IsKeyIter it d i 8 ep) where
  mem := by simp
  obj := fun i h st b hb => by
    have e : b = it := by simpa using hb
    obtain ⟨oi, e1, _, dd⟩ := st
    exact ⟨oi, by rw [e]; exact e1, fun v z => by rw [dd] at z; cases z⟩
  keep := fun i h h' st k => st.at fun oi e => k it (by simp) oi e
  item := by
    intro X hP hw hK hc i pins s σ H E I hf st hg
    subst hP; subst hw; subst hK
    obtain ⟨A, hi⟩ := hg
    obtain ⟨f0, f1, f2, f3, f4, f5⟩ := hf it (by simp)
    obtain ⟨o2, es2, ep2, xs, lk, ex, hd, he, z⟩ := A.ex
    rw [hk] at lk
    cases lk
    obtain ⟨rfl, rfl⟩ := dict_ep hod hd
    have hlen : xs.length = 8 := Paired.length z
    have hsz : es2.size = 8 := by
      rw [← Array.length_toList, he, List.length_map, hlen]
    obtain ⟨x, hx⟩ : ∃ x, xs[i]? = some x := ⟨xs[i], List.getElem?_eq_getElem (by omega)⟩
    obtain ⟨y, hy, p1, p2, p3⟩ := (at_pairX z hx)
    have hen : es2[i]? = some (mkE x) := by
      rw [← Array.getElem?_toList, he, List.getElem?_map, hx]
      rfl
    refine next_key_item st (I.kIn _ _ hk) hd hsz hen fun h' st' sb => ?_
    have I1 : Inv X pins σ H { s with heap := h' } := I.turned (t' := s.toks) (fun b ob hb e => (sb.2 b hb).trans e) f0 f1 f3 f4 f5
    obtain ⟨oi, e, c, dd⟩ := id st'
    rw [p1] at p2
    exact ⟨.ref x.2.1, rfl, go_of (s := { s with heap := h' }) e c dd (by decide) ⟨.ref x.2.1, H, I1, rfl, ⟨rfl, x.2.1, y, rfl, hy, p2⟩, st', fun b hb => (hf b hb).1⟩⟩
  done := by
    intro X hP hw hK hc i pins s σ H E I hf st hg
    subst hP; subst hw; subst hK
    obtain ⟨A, hi⟩ := hg
    obtain ⟨f0, f1, f2, f3, f4, f5⟩ := hf it (by simp)
    obtain ⟨o2, es2, ep2, xs, lk, ex, hd, he, z⟩ := A.ex
    rw [hk] at lk
    cases lk
    obtain ⟨rfl, rfl⟩ := dict_ep hod hd
    have hsz : es2.size = 8 := by
      have hlen : xs.length = 8 := Paired.length z
      rw [← Array.length_toList, he, List.length_map, hlen]
    exact next_key_end (I.ok.hd hc) st (I.kIn _ _ hk) hd hsz hi fun h' eb => ⟨rfl, I.turned (t' := s.toks) (fun b ob hb e => eb b ob hb e) f0 f1 f3 f4 f5⟩
  self := fun A i s Q E st h => wpAny_pyIter_keyiter st h
def iShp (K : PySem.W.Frag) (te : TE) : TI := fun σ H R => te σ H fun x H1 => ∃ a, x = .ref a ∧ ShpAt K a ∧ R (ItShp K a) H1
theorem pi_shp {tg e : Expr} {te : TE} (he : PE X e te) : PI X tg e (iShp X.K te) := by
  refine ⟨fun pins s σ H R I hw => ?_⟩
  refine thn (he.run pins s σ H _ I hw) fun u s1 ⟨x, H1, I1, rx, a, ex, A, q⟩ => ?_
  subst ex
  cases rx
  obtain ⟨o, es, ep, xs, lk, xd, hd, hes, z⟩ := A.ex
  have hsz : es.size = 8 := by
    have hlen : xs.length = 8 := Paired.length z
    rw [← Array.length_toList, hes, List.length_map, hlen]
  refine iter_keys A.nm (I1.kIn _ _ lk) xd hd (pi_one (tk := s1.toks) I1 _ (turn_shp lk hd) ⟨_, Heap.get?_push_size _ rfl, rfl, ?_⟩ q)
  rw [hsz]
  rfl
end
end Pm
end
section
set_option Elab.async false
set_option maxRecDepth 100000
set_option maxHeartbeats 4000000
set_option linter.unusedVariables false
/-! itertools.permutations of a small range -/
namespace Pm
open PySem L2
theorem pq_mro : mroOf (.type "itertools.permutations") = pure [.type "itertools.permutations", .type "object"] := by rw [mroOf_type]; kernel_rfl
theorem pq_lnew : typeLookup (.type "itertools.permutations") "__new__" = pure (some (.builtin "itertools.permutations.__new__")) := by rw [typeLookup_type, builtinLookup_eq_fast]; kernel_rfl
theorem pq_sub : isSubtype (.type "itertools.permutations") (.type "itertools.permutations") = pure true := by rw [isSubtype_type]; kernel_rfl
theorem pq_init : Slot "itertools.permutations" "__init__" "object.__init__" :=
  .of (owner := "object") (n := "__init__") (by rw [typeLookup_type, builtinLookup_eq_fast]; kernel_rfl) (by decide +kernel) (by decide +kernel) (by decide +kernel) (by first | exact .inl (by decide +kernel) | exact .inr (by decide +kernel)) (by rw [isSubtype_type]; kernel_rfl)
theorem pq_called : TypeCalled "itertools.permutations" "itertools.permutations.__new__" "object.__init__" :=
  ⟨by decide +kernel, by decide +kernel, ⟨_, _, pq_mro⟩, madeBy_type pq_mro pq_lnew (by decide +kernel), by decide +kernel, pq_sub, pq_init⟩
theorem pq_tcall (a : Value) : checkTypeCall "itertools.permutations" ⟨[a], []⟩ = pure () := by kernel_rfl
theorem pq_ncall (a : Value) : checkBuiltinCall "itertools.permutations.__new__" ⟨[.type "itertools.permutations", a], []⟩ = pure () := by kernel_rfl
theorem pq_enew : entryFor table "itertools.permutations.__new__" = some Builtin.«itertools.permutations.__new__» := entryFor_of_tree (by kernel_rfl)
theorem pq_iter : Slot "itertools.permutations" "__iter__" "itertools.permutations.__iter__" :=
  .of (owner := "itertools.permutations") (n := "__iter__") (by rw [typeLookup_type, builtinLookup_eq_fast]; kernel_rfl) (by decide +kernel) (by decide +kernel) (by decide +kernel) (by first | exact .inl (by decide +kernel) | exact .inr (by decide +kernel)) pq_sub
theorem pq_next : Slot "itertools.permutations" "__next__" "itertools.permutations.__next__" :=
  .of (owner := "itertools.permutations") (n := "__next__") (by rw [typeLookup_type, builtinLookup_eq_fast]; kernel_rfl) (by decide +kernel) (by decide +kernel) (by decide +kernel) (by first | exact .inl (by decide +kernel) | exact .inr (by decide +kernel)) pq_sub
theorem pq_eiter : entryFor table "itertools.permutations.__iter__" = some Builtin.«dict_keyiterator.__iter__» :=
  entryFor_alias (id' := "dict_keyiterator.__iter__") (by kernel_rfl) (by first | rfl | decide +kernel | (unfold String.splitOn; simp +decide [String.splitOnAux])) (by decide +kernel) (by kernel_rfl)
theorem pq_enext : entryFor table "itertools.permutations.__next__" = some Builtin.«itertools.permutations.__next__» := entryFor_of_tree (by kernel_rfl)
theorem pq_aiter (a : Value) : argsOk "itertools.permutations.__iter__" ⟨[a], []⟩ := by unfold argsOk; kernel_rfl
theorem pq_anext (a : Value) : argsOk "itertools.permutations.__next__" ⟨[a], []⟩ := by unfold argsOk; kernel_rfl
theorem pq_nodict : typeHasDict (.type "itertools.permutations") = false := by decide +kernel
/-- the record: its pool at T, its flag, its numbers -/
def pqObj (T : Addr) (flag : Int) (n : Nat) (last : Value) (nums : List Nat) : Obj :=
  { cls := .type "itertools.permutations", data := .fields (([.ref T, rawInt flag, rawInt n, last] : List Value) ++ nums.map fun (k : Nat) => rawInt k).toArray }
def pqTab : Nat → List (List Nat × List Nat)
  | 1 => [([0], [1])]
  | 2 => [([0, 1], [2, 1]), ([1, 0], [1, 1])]
  | 3 => [([0, 1, 2], [3, 2, 1]), ([0, 2, 1], [3, 1, 1]), ([1, 0, 2], [2, 2, 1]), ([1, 2, 0], [2, 1, 1]), ([2, 0, 1], [1, 2, 1]), ([2, 1, 0], [1, 1, 1])]
  | 4 => [([0, 1, 2, 3], [4, 3, 2, 1]), ([0, 1, 3, 2], [4, 3, 1, 1]), ([0, 2, 1, 3], [4, 2, 2, 1]), ([0, 2, 3, 1], [4, 2, 1, 1]), ([0, 3, 1, 2], [4, 1, 2, 1]), ([0, 3, 2, 1], [4, 1, 1, 1]),
    ([1, 0, 2, 3], [3, 3, 2, 1]), ([1, 0, 3, 2], [3, 3, 1, 1]), ([1, 2, 0, 3], [3, 2, 2, 1]), ([1, 2, 3, 0], [3, 2, 1, 1]), ([1, 3, 0, 2], [3, 1, 2, 1]), ([1, 3, 2, 0], [3, 1, 1, 1]),
    ([2, 0, 1, 3], [2, 3, 2, 1]), ([2, 0, 3, 1], [2, 3, 1, 1]), ([2, 1, 0, 3], [2, 2, 2, 1]), ([2, 1, 3, 0], [2, 2, 1, 1]), ([2, 3, 0, 1], [2, 1, 2, 1]), ([2, 3, 1, 0], [2, 1, 1, 1]),
    ([3, 0, 1, 2], [1, 3, 2, 1]), ([3, 0, 2, 1], [1, 3, 1, 1]), ([3, 1, 0, 2], [1, 2, 2, 1]), ([3, 1, 2, 0], [1, 2, 1, 1]), ([3, 2, 0, 1], [1, 1, 2, 1]), ([3, 2, 1, 0], [1, 1, 1, 1])]
  | _ => []
def pqAt (n i : Nat) : List Nat × List Nat := (pqTab n).getD i ([], [])
end Pm
end
section
set_option Elab.async false
set_option maxRecDepth 100000
set_option maxHeartbeats 4000000
set_option linter.unusedVariables false
namespace Pm
open PySem L2
theorem pq_lens : ((List.range 5).all fun n => (List.range (pqTab n).length).all fun i => decide ((pqAt n i).1.length = n) && decide ((pqAt n i).2.length = n)) = true := by decide +kernel
theorem pq_both (n : Nat) (hn : 1 ≤ n ∧ n ≤ 4) (i : Nat) (hi : i < (pqTab n).length) : (pqAt n i).1.length = n ∧ (pqAt n i).2.length = n := by
  have h1 := List.all_eq_true.mp pq_lens n (List.mem_range.mpr (by omega))
  have h2 := List.all_eq_true.mp h1 i (List.mem_range.mpr hi)
  rw [Bool.and_eq_true] at h2
  exact ⟨of_decide_eq_true h2.1, of_decide_eq_true h2.2⟩
theorem pq_len (n : Nat) (hn : 1 ≤ n ∧ n ≤ 4) (i : Nat) (hi : i < (pqTab n).length) : (pqAt n i).1.length = n := (pq_both n hn i hi).1
theorem pq_len2 (n : Nat) (hn : 1 ≤ n ∧ n ≤ 4) (i : Nat) (hi : i < (pqTab n).length) : (pqAt n i).2.length = n := (pq_both n hn i hi).2
section
variable {prog : Program} {w : World} {A : Around} {E : Value → Shared → Prop} {s : Shared}
theorem pq_nums {T : Addr} {f : Int} {n : Nat} {last : Value} {nums : List Nat} {it : Addr} {Q : List Nat → Shared → Prop} (hit : s.heap.get? it = some (pqObj T f n last nums)) (h : Q nums s) : wpAny (model prog w) A (Builtin.Itertools.itNumbersFrom (.ref it) 4) Q E s := by
  unfold Builtin.Itertools.itNumbersFrom
  refine wpAny_bind (wpAny_load hit ?_)
  refine wpAny_pure ?_
  have e : (nums.map fun (k : Nat) => rawInt (k : Int)).map (fun | .int n _ => n.toNat | _ => 0) = nums := by
    rw [List.map_map]
    refine (List.map_congr_left (g := id) fun k _ => ?_).trans (List.map_id _)
    show ((k : Int)).toNat = k
    omega
  show Q ((((([.ref T, rawInt f, rawInt n, last] : List Value) ++ nums.map fun (k : Nat) => rawInt k).toArray.toList).drop 4).map (fun | .int n _ => n.toNat | _ => 0)) s
  rw [List.toList_toArray]
  show Q ((nums.map fun (k : Nat) => rawInt (k : Int)).map (fun | .int n _ => n.toNat | _ => 0)) s
  rw [e]
  exact h
theorem pq_upd (T : Addr) (f : Int) (n : Nat) (last : Value) (nums : List Nat) (i : Nat) (x : Value) : Obj.mapFields (·.setIfInBounds i x) (pqObj T f n last nums) = { cls := .type "itertools.permutations", data := .fields ((([.ref T, rawInt f, rawInt n, last] : List Value) ++ nums.map fun (k : Nat) => rawInt k).set i x).toArray } := by
  show ({ cls := .type "itertools.permutations", data := .fields ((([.ref T, rawInt f, rawInt n, last] : List Value) ++ nums.map fun (k : Nat) => rawInt k).toArray.setIfInBounds i x) } : Obj) = _
  rw [List.setIfInBounds_toArray]
/-- the tuple that is given out -/
theorem pq_res {it T : Addr} {f : Int} {n : Nat} {nums idx : List Nat} {last : Value} {pool : Array Value} {Q : PySem.Fin → Shared → Prop} (hit : s.heap.get? it = some (pqObj T f n last nums)) (hi : idx.length ≤ 100)
    (hQ : ∀ h', h'.get? it = some (pqObj T f n (.ref s.heap.objs.size) nums) → h'.get? s.heap.objs.size = some { cls := .type "tuple", data := .seq (idx.map fun i => pool.getD i .none).toArray } →
      (∀ b u, b ≠ it → s.heap.get? b = some u → h'.get? b = some u) → Q (.done (.ret (.ref s.heap.objs.size))) { s with heap := h' }) :
    wpAny (model prog w) A (do
      let t ← newTuple (idx.map fun i => pool.getD i .none)
      let before ← field (.ref it) 3
      setField (.ref it) 3 t
      letGo [before] [t]
      ret t) Q E s := by
  have lt : it < s.heap.objs.size := Heap.lt_size hit
  refine wpAny_bind (wpAny_newTuple ?_ (by rw [List.length_map, sizeLine_eq]; omega))
  have h1 : (s.heap.push { cls := .type "tuple", data := .seq (idx.map fun i => pool.getD i .none).toArray }).get? it = some (pqObj T f n last nums) := Heap.get?_push_of_some _ hit
  refine wpAny_bind (wpAny_field h1 rfl (x := last) rfl ?_)
  refine wpAny_bind (wpAny_setField h1 rfl (by simp) ?_)
  refine wpAny_bind (wpAny_letGo (wpAny_pure (hQ _ ?_ ?_ fun b u hb e => ?_)))
  · rw [Heap.get?_update_self _ h1 (by rw [pq_upd]; rfl), pq_upd]
    rfl
  · rw [Heap.get?_update_ne _ _ _ _ (Nat.ne_of_lt lt).symm]
    exact Heap.get?_push_size _ rfl
  · rw [Heap.get?_update_ne _ _ _ _ hb]
    exact Heap.get?_push_of_some _ e
/-- the builtin's beginning, up to the flag -/
theorem pq_first {it T : Addr} {n : Nat} {idx cyc : List Nat} {last : Value} {pool : List Value} {m : Nat} {o : Obj} {Q : PySem.Fin → Shared → Prop} (hit : s.heap.get? it = some (pqObj T 0 n last (idx ++ cyc)))
    (hT : s.heap.get? T = some o) (hd : o.data = .seq pool.toArray m) (hi : idx.length = n) (hne : T ≠ it) (hsz : n ≤ 100)
    (hQ : ∀ h' last', h'.get? it = some (pqObj T 1 n last' (idx ++ cyc)) → h'.get? s.heap.objs.size = some { cls := .type "tuple", data := .seq (idx.map fun i => pool.toArray.getD i .none).toArray } → (∀ b u, b ≠ it → s.heap.get? b = some u → h'.get? b = some u) → Q (.done (.ret (.ref s.heap.objs.size))) { s with heap := h' }) :
    wpAny (model prog w) A (Builtin.«itertools.permutations.__next__» ⟨[.ref it], []⟩) Q E s := by
  show wpAny _ _ (field (.ref it) 0 >>= _) _ _ s
  refine wpAny_bind (wpAny_field hit rfl (x := .ref T) rfl ?_)
  refine wpAny_bind (wpAny_bind (wpAny_seqItems hT hd ?_))
  refine wpAny_pure ?_
  show wpAny _ _ ((field (.ref it) 2 >>= _) >>= _) _ _ s
  refine wpAny_bind (wpAny_bind (wpAny_field hit rfl (x := rawInt n) rfl (wpAny_pure ?_)))
  try dsimp only
  refine wpAny_bind (pq_nums hit ?_)
  show wpAny _ _ ((field (.ref it) 1 >>= _) >>= _) _ _ s
  refine wpAny_bind (wpAny_bind (wpAny_field hit rfl (x := rawInt 0) rfl (wpAny_pure ?_)))
  try dsimp only
  refine wpAny_bind (wpAny_setField hit rfl (by simp) ?_)
  have h1 : (s.heap.update it (Obj.mapFields (·.setIfInBounds 1 (rawInt 1)))).get? it = some (pqObj T 1 n last (idx ++ cyc)) := by
    rw [Heap.get?_update_self _ hit (by rw [pq_upd]; rfl), pq_upd]
    rfl
  have et : (idx ++ cyc).take ((n : Int)).toNat = idx := by
    rw [Int.toNat_natCast, ← hi, List.take_left]
  rw [et]
  have hz : (s.heap.update it (Obj.mapFields (·.setIfInBounds 1 (rawInt 1)))).objs.size = s.heap.objs.size := Heap.size_update _ _ _
  refine pq_res (s := { s with heap := s.heap.update it (Obj.mapFields (·.setIfInBounds 1 (rawInt 1))) }) (pool := pool.toArray) h1 (by omega) fun h' g1 g2 k => ?_
  dsimp only at g1 g2 k ⊢
  rw [hz] at g1 g2 ⊢
  exact hQ h' _ g1 g2 fun b u hb e => k b u hb (by rw [Heap.get?_update_ne _ _ _ _ hb]; exact e)
/-- one turn, the next numbers being known -/
theorem pq_mid {it T : Addr} {n i : Nat} {last : Value} {pool : List Value} {m : Nat} {o : Obj} {Q : PySem.Fin → Shared → Prop} (hn : 1 ≤ n ∧ n ≤ 4) (hi : i + 1 < (pqTab n).length) (hit : s.heap.get? it = some (pqObj T 1 n last ((pqAt n i).1 ++ (pqAt n i).2)))
    (hT : s.heap.get? T = some o) (hd : o.data = .seq pool.toArray m) (hp : pool.length = n) (hne : T ≠ it)
    (hQ : ∀ h' last', h'.get? it = some (pqObj T 1 n last' ((pqAt n (i + 1)).1 ++ (pqAt n (i + 1)).2)) → h'.get? s.heap.objs.size = some { cls := .type "tuple", data := .seq ((pqAt n (i + 1)).1.map fun i => pool.toArray.getD i .none).toArray } →
      (∀ b u, b ≠ it → s.heap.get? b = some u → h'.get? b = some u) → Q (.done (.ret (.ref s.heap.objs.size))) { s with heap := h' }) :
    wpAny (model prog w) A (Builtin.«itertools.permutations.__next__» ⟨[.ref it], []⟩) Q E s := by
  show wpAny _ _ (field (.ref it) 0 >>= _) _ _ s
  refine wpAny_bind (wpAny_field hit rfl (x := .ref T) rfl ?_)
  refine wpAny_bind (wpAny_bind (wpAny_seqItems hT hd ?_))
  refine wpAny_pure ?_
  show wpAny _ _ ((field (.ref it) 2 >>= _) >>= _) _ _ s
  refine wpAny_bind (wpAny_bind (wpAny_field hit rfl (x := rawInt n) rfl (wpAny_pure ?_)))
  try dsimp only
  refine wpAny_bind (pq_nums hit ?_)
  show wpAny _ _ ((field (.ref it) 1 >>= _) >>= _) _ _ s
  refine wpAny_bind (wpAny_bind (wpAny_field hit rfl (x := rawInt 1) rfl (wpAny_pure ?_)))
  try dsimp only
  rw [List.size_toArray, hp]
  have fin : ∀ (x y : List Nat), x = (pqAt n (i + 1)).1 → y = (pqAt n (i + 1)).2 → wpAny (model prog w) A (do
      Builtin.Itertools.itSetNumbersFrom (.ref it) 4 (x ++ y)
      let t ← newTuple ((x.take ((n : Int)).toNat).map fun i => pool.toArray.getD i .none)
      let before ← field (.ref it) 3
      setField (.ref it) 3 t
      letGo [before] [t]
      ret t) Q E s := by
    intro x y ex ey
    subst ex; subst ey
    have hl : (pqAt n (i + 1)).1.length = n ∧ n ≤ 100 := by
      have a := pq_len n hn (i + 1) hi
      exact ⟨a, by omega⟩
    unfold Builtin.Itertools.itSetNumbersFrom
    have hz : (((([.ref T, rawInt 1, rawInt n, last] : List Value) ++ ((pqAt n i).1 ++ (pqAt n i).2).map fun (k : Nat) => rawInt k).toArray.extract 0 4 ++ (((pqAt n (i + 1)).1 ++ (pqAt n (i + 1)).2).map fun (k : Nat) => rawInt k).toArray)) =
        (([.ref T, rawInt 1, rawInt n, last] : List Value) ++ ((pqAt n (i + 1)).1 ++ (pqAt n (i + 1)).2).map fun (k : Nat) => rawInt k).toArray := by
      apply Array.ext'
      rw [List.extract_toArray, Array.toList_append]
      rfl
    refine wpAny_bind (wpAny_updateFields hit rfl ?_ ?_)
    · have h1 : (s.heap.update it (Obj.mapFields fun fs => fs.extract 0 4 ++ (((pqAt n (i + 1)).1 ++ (pqAt n (i + 1)).2).map fun (k : Nat) => rawInt k).toArray)).get? it = some (pqObj T 1 n last ((pqAt n (i + 1)).1 ++ (pqAt n (i + 1)).2)) := by
        refine (Heap.get?_update_self _ hit rfl).trans ?_
        exact congrArg (fun d => some ({ cls := .type "itertools.permutations", data := .fields d } : Obj)) hz
      have et : (pqAt n (i + 1)).1.take ((n : Int)).toNat = (pqAt n (i + 1)).1 := by
        rw [Int.toNat_natCast]
        exact List.take_of_length_le (Nat.le_of_eq hl.1)
      rw [et]
      have hzz : (s.heap.update it (Obj.mapFields fun fs => fs.extract 0 4 ++ (((pqAt n (i + 1)).1 ++ (pqAt n (i + 1)).2).map fun (k : Nat) => rawInt k).toArray)).objs.size = s.heap.objs.size := Heap.size_update _ _ _
      refine pq_res (s := { s with heap := _ }) (pool := pool.toArray) h1 (by rw [hl.1]; exact hl.2) fun h' g1 g2 k => ?_
      dsimp only at g1 g2 k ⊢
      rw [hzz] at g1 g2 ⊢
      exact hQ h' _ g1 g2 fun b u hb e => k b u hb (by rw [Heap.get?_update_ne _ _ _ _ hb]; exact e)
    · rw [hz, List.size_toArray, List.length_append, List.length_map, List.length_append, hl.1, sizeLine_eq]
      have := pq_len2 n hn (i + 1) hi
      rw [this]
      show 4 + (n + n) ≤ _
      omega
  split
  · rename_i heq
    exact absurd heq (by decide)
  · split
    · rename_i x y heq
      have q : some (x, y) = some (pqAt n (i + 1)) := by
        rw [← heq]
        clear heq fin hQ hit hT hd hp hne
        obtain ⟨h1, h4⟩ := hn
        rcases (by omega : n = 1 ∨ n = 2 ∨ n = 3 ∨ n = 4) with h | h | h | h
        · subst h
          exact absurd hi (by show ¬ i + 1 < 1; omega)
        · subst h
          have h2 : i < 1 := by have : i + 1 < 2 := hi; omega
          clear hi
          revert i
          decide +kernel
        · subst h
          have h2 : i < 5 := by have : i + 1 < 6 := hi; omega
          clear hi
          revert i
          decide +kernel
        · subst h
          have h2 : i < 23 := by have : i + 1 < 24 := hi; omega
          clear hi
          revert i
          decide +kernel
      have q2 := Option.some.inj q
      exact fin x y (congrArg Prod.fst q2) (congrArg Prod.snd q2)
    · rename_i heq
      have q : none = some (pqAt n (i + 1)) := by
        rw [← heq]
        clear heq fin hQ hit hT hd hp hne
        obtain ⟨h1, h4⟩ := hn
        rcases (by omega : n = 1 ∨ n = 2 ∨ n = 3 ∨ n = 4) with h | h | h | h
        · subst h
          exact absurd hi (by show ¬ i + 1 < 1; omega)
        · subst h
          have h2 : i < 1 := by have : i + 1 < 2 := hi; omega
          clear hi
          revert i
          decide +kernel
        · subst h
          have h2 : i < 5 := by have : i + 1 < 6 := hi; omega
          clear hi
          revert i
          decide +kernel
        · subst h
          have h2 : i < 23 := by have : i + 1 < 24 := hi; omega
          clear hi
          revert i
          decide +kernel
      cases q
  · rename_i h0 h1
    exact absurd rfl h1
end
end Pm
end
section
set_option Elab.async false
set_option maxRecDepth 100000
set_option maxHeartbeats 4000000
set_option linter.unusedVariables false
namespace Pm
open PySem L2
/-- before turn i -/
def pqSt (it T : Addr) (n : Nat) (i : Nat) (h : Heap) : Prop := ∃ last, h.get? it = some (pqObj T (if i = 0 then 0 else 1) n last ((pqAt n (i - 1)).1 ++ (pqAt n (i - 1)).2))
def pqPool (T : Addr) (n : Nat) (h : Heap) : Prop := ∃ pool : List Value, Vals ((List.range n).map vn) pool ∧ h.get? T = some { cls := .type "tuple", data := .seq pool.toArray }
theorem pq_idx_all : ((List.range 5).all fun n => (List.range (pqTab n).length).all fun i => (pqAt n i).1.all fun k => decide (k < n)) = true := by decide +kernel
theorem pq_idx (n : Nat) (hn : n ≤ 4) (i : Nat) (hi : i < (pqTab n).length) : ∀ k ∈ (pqAt n i).1, k < n := fun k hk => by
  have h1 := List.all_eq_true.mp pq_idx_all n (List.mem_range.mpr (by omega))
  have h2 := List.all_eq_true.mp h1 i (List.mem_range.mpr hi)
  exact of_decide_eq_true (List.all_eq_true.mp h2 k hk)
theorem pool_vals {n : Nat} {pool : List Value} (r : Vals ((List.range n).map vn) pool) : ∀ idx : List Nat, (∀ k ∈ idx, k < n) → Vals (idx.map vn) (idx.map fun i => pool.toArray.getD i .none)
  | [], _ => .nil
  | k :: l, h => by
    refine .cons ?_ (pool_vals r l fun j hj => h j (List.mem_cons_of_mem _ hj))
    have hk := h k List.mem_cons_self
    obtain ⟨u, hu, ru⟩ := r.get (i := k) (x := vn k) (by rw [List.getElem?_map, List.getElem?_range hk]; rfl)
    show RelV (vn k) (pool.toArray.getD k .none)
    have e : pool.toArray.getD k .none = u := by
      have hu' : pool.toArray[k]? = some u := by simpa using hu
      rw [Array.getD_eq_getD_getElem?, hu']
      rfl
    rw [e]
    exact ru
section
variable {prog : Program} {w : World} {A : Around} {E : Value → Shared → Prop} {s : Shared}
theorem pq_item {it T : Addr} {n i : Nat} {Q : Option Value → Shared → Prop} (hn : 1 ≤ n ∧ n ≤ 4) (hi : i < (pqTab n).length) (hit : pqSt it T n i s.heap) (hT : pqPool T n s.heap) (hne : T ≠ it)
    (hQ : ∀ h' us, pqSt it T n (i + 1) h' → Vals ((pqAt n i).1.map vn) us → h'.get? s.heap.objs.size = some { cls := .type "tuple", data := .seq us.toArray } → (∀ b u, b ≠ it → s.heap.get? b = some u → h'.get? b = some u) → Q (some (.ref s.heap.objs.size)) { s with heap := h' }) :
    wpAny (model prog w) A (pyNext (.ref it)) Q E s := by
  obtain ⟨last, hit⟩ := hit
  obtain ⟨pool, rp, hT⟩ := hT
  have ty : s.TypeIs (.ref it) "itertools.permutations" := ⟨_, hit, rfl⟩
  have hv := pool_vals rp _ (pq_idx n hn.2 i hi)
  unfold pyNext
  refine wpAny_bind (wpAny_attempt (wpAny_callSpecial?_slot (name := Str.ofString "__next__") ty pq_next (wpAny_call_entry pq_next ty pq_enext ?_ (pq_anext _))))
  cases i with
  | zero =>
    refine pq_first hit hT rfl (pq_len n hn 0 hi) hne (by omega) fun h' last' g1 g2 k => ?_
    exact ⟨_, rfl, wpAny_pure (hQ h' _ ⟨last', g1⟩ hv g2 k)⟩
  | succ j =>
    have hp : pool.length = n := by rw [← rp.length, List.length_map, List.length_range]
    refine pq_mid hn hi hit hT rfl hp hne fun h' last' g1 g2 k => ?_
    exact ⟨_, rfl, wpAny_pure (hQ h' _ ⟨last', g1⟩ hv g2 k)⟩
theorem pq_done {it T : Addr} {n i : Nat} {Q : Option Value → Shared → Prop} (hh : A.handled = none) (hn : 1 ≤ n ∧ n ≤ 4) (hi : i = (pqTab n).length) (hit : pqSt it T n i s.heap) (hT : pqPool T n s.heap) (hne : T ≠ it)
    (hQ : ∀ h', (∀ b u, b ≠ it → s.heap.get? b = some u → h'.get? b = some u) → Q none { s with heap := h' }) :
    wpAny (model prog w) A (pyNext (.ref it)) Q E s := by
  obtain ⟨last, hit⟩ := hit
  obtain ⟨pool, rp, hT⟩ := hT
  have hp : pool.length = n := by rw [← rp.length, List.length_map, List.length_range]
  have ty : s.TypeIs (.ref it) "itertools.permutations" := ⟨_, hit, rfl⟩
  have i0 : i ≠ 0 := by
    subst hi
    rcases (by omega : n = 1 ∨ n = 2 ∨ n = 3 ∨ n = 4) with h | h | h | h <;> subst h <;> decide
  rw [if_neg i0] at hit
  unfold pyNext
  refine wpAny_bind (wpAny_attempt (wpAny_callSpecial?_slot (name := Str.ofString "__next__") ty pq_next (wpAny_call_entry pq_next ty pq_enext ?_ (pq_anext _))))
  show wpAny _ _ (field (.ref it) 0 >>= _) _ _ s
  refine wpAny_bind (wpAny_field hit rfl (x := .ref T) rfl ?_)
  refine wpAny_bind (wpAny_bind (wpAny_seqItems hT rfl ?_))
  refine wpAny_pure ?_
  show wpAny _ _ ((field (.ref it) 2 >>= _) >>= _) _ _ s
  refine wpAny_bind (wpAny_bind (wpAny_field hit rfl (x := rawInt n) rfl (wpAny_pure ?_)))
  try dsimp only
  refine wpAny_bind (pq_nums hit ?_)
  show wpAny _ _ ((field (.ref it) 1 >>= _) >>= _) _ _ s
  refine wpAny_bind (wpAny_bind (wpAny_field hit rfl (x := rawInt 1) rfl (wpAny_pure ?_)))
  try dsimp only
  rw [List.size_toArray, hp]
  split
  · rename_i heq
    exact absurd heq (by decide)
  · split
    · rename_i x y heq
      have q : some (x, y) = none := by
        rw [← heq]
        clear heq hQ hit hT hp hne i0
        subst hi
        rcases (by omega : n = 1 ∨ n = 2 ∨ n = 3 ∨ n = 4) with h | h | h | h <;> subst h <;> decide +kernel
      cases q
    · refine wpAny_bind (wpAny_setField hit rfl (by simp) ?_)
      unfold Builtin.Itertools.itStop
      refine wpAny_bind ?_
      simp only [newExc, newTuple]
      refine wpAny_bind (wpAny_newObj_type ?_ (by size_fits))
      refine wpAny_bind (m := firstArgMember _ _) (wpAny_of_eq (a := Value.none) (by first | rfl | (simp only [firstArgMember]; rfl)) ?_)
      refine wpAny_newObj_type ?_ (by size_fits)
      simp only [raiseNew]
      refine wpAny_bind (wpAny_handled ?_)
      rw [show A.in1.handled = none from hh]
      refine wpAny_bind (wpAny_pure (wpAny_throw ?_))
      refine wpAny_bind (wpAny_isInstance (T := "StopIteration") (b := true) ⟨_, Heap.get?_push_size _ rfl, rfl⟩ isSubtype_stop ?_)
      refine wpAny_pure (hQ _ fun b u hb e => ?_)
      exact Heap.get?_push_of_some _ (Heap.get?_push_of_some _ (by rw [Heap.get?_update_ne _ _ _ _ hb]; exact e))
  · rename_i h0 h1
    exact absurd rfl h1
end
end Pm
end
section
set_option Elab.async false
set_option maxRecDepth 100000
set_option maxHeartbeats 4000000
set_option linter.all false
namespace Pm
open PySem L2
theorem pq_class (x : Value) : Builtin.Itertools.itClassAndRest "permutations" ⟨[.type "itertools.permutations", x], []⟩ = pure (.type "itertools.permutations", [x]) := by
  unfold Builtin.Itertools.itClassAndRest
  have e : (("itertools." ++ "permutations" : String)) = "itertools.permutations" := by decide +kernel
  simp only [e, pq_sub]
  kernel_rfl
theorem pq_bind (x : Value) : Builtin.Itertools.itBindNamed "permutations" ["iterable", "r"] 1 2 [x] [] = pure [some x, none] := by
  kernel_rfl
theorem pq_meets {r : Addr} {n : Nat} {t u v : Tok} (hn : 1 ≤ n ∧ n ≤ 4) : Meets (Builtin.«itertools.permutations.__new__» ⟨[.type "itertools.permutations", .ref r], []⟩)
    (fun A R s => A.handled = none ∧ IsRange s.heap r 0 n 1 t u v ∧ ∀ (h' h2 : Heap) (tk : Nat) (it T : Addr), (∀ b o, s.heap.get? b = some o → h'.get? b = some o) → (∀ b o, h'.get? b = some o → h2.get? b = some o) → h'.objs.size ≤ it → h'.objs.size ≤ T → T ≠ it → pqSt it T n 0 h2 → pqPool T n h2 →
      R (.ok (.ret (.ref it))) { s with heap := h2, toks := tk }) :=
  .of_wp fun prog w A R s hw => by
    obtain ⟨hh, hr, hQ⟩ := hw
    show wpAny _ _ (Builtin.Itertools.itClassAndRest "permutations" ⟨[.type "itertools.permutations", .ref r], []⟩ >>= _) _ _ _
    rw [pq_class]
    refine wpAny_bind (wpAny_pure ?_)
    show wpAny _ _ (Builtin.Itertools.itBindNamed "permutations" ["iterable", "r"] 1 2 [.ref r] [] >>= _) _ _ _
    rw [pq_bind]
    refine wpAny_bind (wpAny_pure ?_)
    show wpAny _ _ (collect (.ref r) >>= _) _ _ _
    have hs1 : Builtin.Range.small 0 n 1 = true := by
      rcases (by omega : n = 1 ∨ n = 2 ∨ n = 3 ∨ n = 4) with h | h | h | h <;> subst h <;> decide
    have hs2 : Builtin.Range.rangeSize 0 n 1 = n := by
      rcases (by omega : n = 1 ∨ n = 2 ∨ n = 3 ∨ n = 4) with h | h | h | h <;> subst h <;> decide
    refine wpAny_bind (collect_range (A := A.in1) hh hr hs1 hs2 (by omega) fun h' tk acc k hi => ?_)
    have hlen : acc.toList.length = n := by rw [Array.length_toList]; exact hi.1
    have vals : Vals ((List.range n).map vn) acc.toList := by
      have q := vals_rg (a := 0) (b := (n : Int)) (acc := acc) (by rw [show ((n : Int) - 0).toNat = n by omega]; exact hi)
      have e : rgV 0 (n : Int) = (List.range n).map vn := by
        unfold rgV
        rw [show ((n : Int) - 0).toNat = n by omega]
        refine List.map_congr_left fun k _ => ?_
        show V.int (0 + (k : Int)) = V.int (k : Int)
        rw [Int.zero_add]
      rw [e] at q
      exact q
    refine wpAny_bind (wpAny_pure ?_)
    rw [hlen]
    have d1 : ((n : Int) < 0) = False := eq_false (by omega)
    have d2 : Builtin.Itertools.itTooMany (n : Int) = false := decide_eq_false (by omega)
    simp only [d1, d2, if_false, Bool.false_eq_true, Int.toNat_natCast, pure_bind, Option.getD_none]
    refine wpAny_bind (wpAny_newTuple ?_ (by rw [hlen, sizeLine_eq]; omega))
    refine wpAny_bind ?_
    unfold Builtin.Itertools.itNewRecord
    rw [pq_nodict]
    simp only [Bool.not_false, if_true, Nat.lt_irrefl, gt_iff_lt, if_false]
    have numEq : (([.ref h'.objs.size, rawInt 0, rawInt n, Value.none] : List Value) ++ List.map (fun (i : Nat) => rawInt i) (List.range n) ++ List.map (fun (i : Nat) => rawInt ((n : Int) - i)) (List.range n)) =
        (([.ref h'.objs.size, rawInt 0, rawInt n, Value.none] : List Value) ++ ((pqAt n 0).1 ++ (pqAt n 0).2).map fun (k : Nat) => rawInt k) := by
      rcases (by omega : n = 1 ∨ n = 2 ∨ n = 3 ∨ n = 4) with h | h | h | h <;> subst h <;> rfl
    rw [numEq]
    have hl2 := pq_both n hn 0 (by
      rcases (by omega : n = 1 ∨ n = 2 ∨ n = 3 ∨ n = 4) with h | h | h | h <;> subst h <;> decide)
    refine wpAny_newObj_type ?_ ?_
    · refine wpAny_pure ⟨_, rfl, hQ h' _ tk _ h'.objs.size k (fun b o e => Heap.get?_push_of_some _ (Heap.get?_push_of_some _ e)) ?_ (Nat.le_refl _) ?_ ⟨_, Heap.get?_push_size _ rfl⟩ ⟨acc.toList, vals, ?_⟩⟩
      · show h'.objs.size ≤ (h'.push _).objs.size
        rw [Heap.size_push]
        omega
      · show h'.objs.size ≠ (h'.push _).objs.size
        rw [Heap.size_push]
        omega
      · exact Heap.get?_push_of_some _ (Heap.get?_push_size _ rfl)
    · unfold sizeOk
      show (List.toArray _).size ≤ sizeLine + 2
      rw [List.size_toArray, List.length_append, List.length_map, List.length_append, hl2.1, hl2.2, sizeLine_eq]
      show 4 + (n + n) ≤ _
      omega
end Pm
end
section
set_option Elab.async false
set_option maxRecDepth 100000
set_option maxHeartbeats 4000000
set_option linter.all false
namespace Pm
open PySem L2
open PyProof.Rows (args_cons args_nil)
/-! for records in permutations(range(n)) -/
def pqV (n i : Nat) : List V := (pqAt n i).1.map vn
def ItPq (n : Nat) : It :=
  ⟨fun i _ => i < (pqTab n).length, fun i H x H' => ∃ t, x = .ref t ∧ H t = none ∧ H' = upd H t (.tup (pqV n i)), fun i _ => i = (pqTab n).length⟩
theorem pq_ne (T it : Addr) (n : Nat) {h : Heap} (p : pqPool T n h) : ∀ v, ∀ o, h.get? T = some o → o.data ≠ .cell v := by
  obtain ⟨pool, _, e⟩ := p
  intro v o q z
  rw [e] at q
  cases q
  cases z
theorem turn_pq {P : Program} {w : World} {K : PySem.W.Frag} {tg : Expr} {it T : Addr} {n : Nat} (hn : 1 ≤ n ∧ n ≤ 4) (hne : T ≠ it) :
    Turn P w K tg (ItPq n) [it, T] it (fun i h => pqSt it T n i h ∧ pqPool T n h) where
  mem := by simp
  obj := fun i h st c hc => by
    obtain ⟨⟨l, e⟩, ⟨p, _, e2⟩⟩ := st
    have cs : c = it ∨ c = T := by simpa using hc
    rcases cs with q | q <;> rw [q]
    · exact ⟨_, e, fun v q => nomatch q⟩
    · exact ⟨_, e2, fun v q => nomatch q⟩
  keep := fun i h h' st k => by
    obtain ⟨⟨l, e⟩, ⟨p, r, e2⟩⟩ := st
    exact ⟨⟨l, k it (by simp) _ e⟩, ⟨p, r, k T (by simp) _ e2⟩⟩
  item := by
    intro X hP hw hK hc i pins s σ H E I hf st hg
    subst hP; subst hw; subst hK
    obtain ⟨s1, s2⟩ := st
    have ltT : T < s.heap.objs.size := by obtain ⟨_, _, e2⟩ := s2; exact Heap.lt_size e2
    have ltI : it < s.heap.objs.size := by obtain ⟨_, e2⟩ := s1; exact Heap.lt_size e2
    refine pq_item hn hg s1 s2 hne fun h' us st' rv ht k => ?_
    have len : (pqV n i).length ≤ sizeLine := by
      unfold pqV
      rw [List.length_map, pq_len n hn i hg, sizeLine_eq]
      omega
    have new : ObjOk X.prog X.w (upd H s.heap.objs.size (.tup (pqV n i))) h' s.heap.objs.size (.tup (pqV n i)) := ⟨len, us, rv, ⟨_, ht, rfl, _, rfl⟩⟩
    have I1 : Inv X pins σ (upd H s.heap.objs.size (.tup (pqV n i))) { s with heap := h', toks := s.toks } := I.turnedNew (ch := [it, T]) (fun b o hb e => k b o (fun z => hb (by simp [z])) e) hf (Nat.le_refl _) new
    obtain ⟨l, e⟩ := id st'
    have p' : pqPool T n h' := by
      obtain ⟨p, r, e2⟩ := s2
      exact ⟨p, r, k T _ hne e2⟩
    refine ⟨_, rfl, go_of (s := { s with heap := h' }) e rfl rfl (by decide) ⟨.ref s.heap.objs.size, _, I1, rfl, ⟨_, rfl, I.hok.fresh (Nat.le_refl _), rfl⟩, ⟨st', p'⟩, fun b hb => ?_⟩⟩
    have cs : b = it ∨ b = T := by simpa using hb
    have lt : b < s.heap.objs.size := by rcases cs with q | q <;> rw [q] <;> assumption
    rw [upd_ne (Nat.ne_of_lt lt)]
    exact (hf b hb).1
  done := by
    intro X hP hw hK hc i pins s σ H E I hf st hg
    subst hP; subst hw; subst hK
    obtain ⟨s1, s2⟩ := st
    exact pq_done (I.ok.hd hc) hn hg s1 s2 hne fun h' k => ⟨rfl, I.turnedL (t' := s.toks) (ch := [it, T]) (fun b o hb e => k b o (fun z => hb (by simp [z])) e) hf⟩
  self := fun A i s Q E st h => by
    obtain ⟨⟨l, e⟩, _⟩ := st
    have ty : s.TypeIs (.ref it) "itertools.permutations" := ⟨_, e, rfl⟩
    refine wpAny_pyIter_slot ty pq_iter (wpAny_call_entry pq_iter ty pq_eiter ?_ (pq_aiter _))
    show wpAny _ _ (ret (.ref it)) _ _ s
    exact wpAny_pure ⟨_, rfl, "itertools.permutations", _, ty, pq_next.lookup, h⟩
/-- permutations(range(n)) as what a loop walks -/
def iPq (te : St → Hp → (Int → Int → Hp → Prop) → Prop) : TI := fun σ H R => te σ H fun a b H1 => ∃ n : Nat, a = 0 ∧ b = n ∧ (1 ≤ n ∧ n ≤ 4) ∧ R (ItPq n) H1
theorem pi_pq {X : Cx} {tg e : Expr} {te : St → Hp → (Int → Int → Hp → Prop) → Prop} {p pos : Pos} (hc : X.calm = true) (hg : Gl X "permutations") (hm : X.mg "permutations" = some (.type "itertools.permutations")) (he : PRg X e te)
    (na : starEach [e] X.env = (false, eval e X.env) :: starEach [] X.env := by rfl) : PI X tg (.Call (.Name "permutations" p) [e] [] pos) (iPq te) := by
  refine ⟨fun pins s σ H R I hw => ?_⟩
  refine PyProof.Rows.Call_ (ld_glob I hg hm (PyProof.Rows.callWith_type1 (args_cons (thn (he pins s σ H _ I hw) fun u s1 ⟨r, a, b, t, tu, tv, H1, ex, hr, I1, q⟩ => ?_) na) na))
  subst ex
  obtain ⟨n, rfl, rfl, hn, q⟩ := q
  refine args_nil ?_
  refine callType_new pq_called (by decide) (pq_tcall _) (pq_ncall _) (fun obj => PySem.F.args_object_init_2 obj _) pq_enew (pq_meets (t := t) (u := tu) (v := tv) hn) ⟨I1.ok.hd hc, hr, fun h1 h2 tk it T k1 k2 g1 g2 ne st pool => ?_⟩
  have I2 : Inv X pins σ H1 { s1 with heap := h1, toks := tk } := I1.kept (t' := tk) k1
  have I3 : Inv X pins σ H1 { s1 with heap := h2, toks := tk } := I2.kept (t' := tk) k2
  obtain ⟨l, e⟩ := id st
  refine ⟨⟨_, e, rfl⟩, ?_⟩
  have tn := turn_pq (P := X.prog) (w := X.w) (K := X.K) (tg := tg) hn ne
  refine tn.self _ 0 _ _ _ ⟨st, pool⟩ ⟨it, [it, T], _, ItPq n, H1, rfl, I3, tn, ⟨st, pool⟩, fun c hc => ?_, q⟩
  have cs : c = it ∨ c = T := by simpa using hc
  have le : h1.objs.size ≤ c := by rcases cs with q | q <;> rw [q] <;> assumption
  have nn := I2.hok.fresh (a := c) le
  exact I2.fpOk le nn
end Pm
end
section
set_option Elab.async false
set_option maxRecDepth 100000
set_option maxHeartbeats 4000000
set_option linter.all false
/-! {elt for t0 in i0 for t1 in i1}, elt a tuple of ints -/
namespace Pm
open PySem L2
section
variable {prog : Program} {w : World} {A : Around} {R : Result → Shared → Prop} {s : Shared} {elt t0 i0 t1 i1 : Expr} {sc : Scope} {pos : Pos} {it acc : Value} {env : Env}
abbrev two (elt t0 i0 t1 i1 : Expr) (sc : Scope) (pos : Pos) : Expr := .SetComp elt [⟨t0, i0, [], 0⟩, ⟨t1, i1, [], 0⟩] sc pos
theorem two_out : compTurn (two elt t0 i0 t1 i1 sc pos) 0 it acc env = (standAt i0.pos >>= fun _ => pyNext it >>= fun r => match r with
    | none => pure (.done .next)
    | some v => letOwnedTupleGo t0 it v >>= fun _ => assign t0 env v >>= fun _ => eval i1 env >>= fun x => standAt i1.pos >>= fun _ => foldedSetIterable i1 env x >>= fun x =>
        holding [x] (pyIter x) >>= fun it1 => runOwn (.compStart (two elt t0 i0 t1 i1 sc pos) 1 it1 acc env) env >>= fun _ => again (.compLoop (two elt t0 i0 t1 i1 sc pos) 0 it acc env)) := by rfl
theorem two_in : compTurn (two elt t0 i0 t1 i1 sc pos) 1 it acc env = (standAt i1.pos >>= fun _ => pyNext it >>= fun r => match r with
    | none => pure (.done .next)
    | some v => letOwnedTupleGo t1 it v >>= fun _ => assign t1 env v >>= fun _ => (eval elt env >>= fun x => standAt elt.pos >>= fun _ => call (.builtin "set.add") [acc, x] >>= fun _ => pure ()) >>= fun _ => again (.compLoop (two elt t0 i0 t1 i1 sc pos) 1 it acc env)) := by rfl
abbrev wpF {α : Type} (prog : Program) (w : World) (A : Around) (t : Sem α) (Q : α → Shared → Prop) (s : Shared) : Prop := wpAny (model prog w) A t Q (fun _ _ => False) s
theorem wpF.as {α β : Type} {t : Sem α} {k : α → Sem β} {Q : α → Shared → Prop} {Q' : β → Shared → Prop} {E : Value → Shared → Prop} (h : wpF prog w A t Q s) (hk : ∀ a s', Q a s' → wpAny (model prog w) A (k a) Q' E s') : wpAny (model prog w) A (t >>= k) Q' E s :=
  wpAny_bind (thnF h hk)
/-- the outer loop -/
theorem two_loop0 (hs : ∀ x, foldedSetIterable i1 env x = pure x) (I : Nat → Shared → Prop)
    (turn : ∀ n s, I n s → wpF prog w A (pyNext it) (fun r sa => match r with
      | none => R (.ok .next) sa
      | some v => wpF prog w A (letOwnedTupleGo t0 it v) (fun _ sb => wpF prog w A (assign t0 env v) (fun _ sc' => wpF prog w A (eval i1 env) (fun x sd => wpF prog w A (pyIter x) (fun j se =>
          codeAny (model prog w) A (.compStart (two elt t0 i0 t1 i1 sc pos) 1 j acc env) (fun r sf => match r with | .ok _ => ∃ m, m < n ∧ I m sf | .error _ => False) se) sd) sc') sb) sa) s) (n : Nat) (h : I n s) :
    codeAny (model prog w) A (.compLoop (two elt t0 i0 t1 i1 sc pos) 0 it acc env) R s := by
  refine codeAny_loop rfl I (fun k u hI => ?_) n h
  show wpAny _ A ((compTurn (two elt t0 i0 t1 i1 sc pos) 0 it acc env).onRaise (fun x => do noteFrame x env; theTreesLotGoes x)) _ _ u
  refine wpAny_noted ?_
  rw [two_out]
  refine wpAny_bind (wpAny_standAt ((turn k u hI).as fun r sa ha => ?_))
  cases r with
  | none => exact wpAny_pure ha
  | some v =>
    refine wpF.as ha fun _ sb hb => wpF.as hb fun _ sc' hc => wpF.as hc fun x sd hd => wpAny_bind (wpAny_standAt (wpAny_bind (wpAny_of_eq (hs x) (wpAny_bind (wpAny_holding (thnF hd fun j se he => ?_))))))
    refine wpAny_bind (wpAny_runOwn ?_)
    rw [Around.mark_none]
    refine codeAny_mono he fun r sf hr => ?_
    cases r with
    | ok f => first | exact wpAny_pure ⟨rfl, hr⟩ | exact wpAny_bind (wpAny_pure (wpAny_pure ⟨rfl, hr⟩))
    | error e => exact hr.elim
/-- the inner loop -/
theorem two_loop1 (I : Nat → Shared → Prop)
    (turn : ∀ n s, I n s → wpF prog w A (pyNext it) (fun r sa => match r with
      | none => R (.ok .next) sa
      | some v => wpF prog w A (letOwnedTupleGo t1 it v) (fun _ sb => wpF prog w A (assign t1 env v) (fun _ sc' => wpF prog w A (eval elt env) (fun x sd => wpF prog w A (call (.builtin "set.add") [acc, x]) (fun _ se => ∃ m, m < n ∧ I m se) sd) sc') sb) sa) s)
    (n : Nat) (h : I n s) : codeAny (model prog w) A (.compLoop (two elt t0 i0 t1 i1 sc pos) 1 it acc env) R s := by
  refine codeAny_loop rfl I (fun k u hI => ?_) n h
  show wpAny _ A ((compTurn (two elt t0 i0 t1 i1 sc pos) 1 it acc env).onRaise (fun x => do noteFrame x env; theTreesLotGoes x)) _ _ u
  refine wpAny_noted ?_
  rw [two_in]
  refine wpAny_bind (wpAny_standAt ((turn k u hI).as fun r sa ha => ?_))
  cases r with
  | none => exact wpAny_pure ha
  | some v => exact wpF.as ha fun _ sb hb => wpF.as hb fun _ sc' hc => wpAny_bind (wpF.as hc fun x sd hd => wpAny_bind (wpAny_standAt (wpF.as hd fun _ se he => wpAny_pure (wpAny_pure ⟨rfl, he⟩))))
theorem two_start1 (a : codeAny (model prog w) A (.compLoop (two elt t0 i0 t1 i1 sc pos) 1 it acc env) R s)
    (b : wpF prog w A (pyIter it) (fun j u => codeAny (model prog w) A (.compLoop (two elt t0 i0 t1 i1 sc pos) 1 j acc env) R u) s) :
    codeAny (model prog w) A (.compStart (two elt t0 i0 t1 i1 sc pos) 1 it acc env) R s := by
  refine codeAny_of_tree ?_
  show wpAny _ _ ((compStart (two elt t0 i0 t1 i1 sc pos) 1 it acc env).onRaise (fun x => do noteFrame x env; standAt theWindowsPlace)) _ _ s
  refine wpAny_notedAt ?_
  unfold compStart
  show wpAny _ _ (ask >>= _) _ _ s
  refine wpAny_bind (wpAny_askSetting (wpAny_ite ?_))
  split
  · first | exact wpAny_bind (wpAny_pure (wpAny_pure ⟨rfl, a⟩)) | exact wpAny_pure ⟨rfl, a⟩
  · first
      | exact wpAny_bind (wpAny_rule (wpAny_bind (wpAny_standAt (wpF.as b fun j u hj => wpAny_pure ⟨rfl, hj⟩))))
      | (refine wpAny_bind (wpAny_rule ?_); show wpAny _ _ (standAt i1.pos >>= _) _ _ s; exact wpAny_bind (wpAny_standAt (wpF.as b fun j u hj => wpAny_pure ⟨rfl, hj⟩)))
end
section
variable {X : Cx} {pins : List (Addr × Obj)} {σ : L2.St} {H : Hp} {s : Shared}
/-- set.add of a tuple of ints -/
theorem two_add {D p : Addr} {L : List (Addr × List Int)} {k : List Int} {Q : Value → Shared → Prop} {E : Value → Shared → Prop} (hu : X.A.units + 64 < cLine) (I : Inv X pins σ H s) (hD : H D = some (SetTO X.prog X.w D L)) (hL : ∀ q ∈ L, SqT X.K H q.1 (q.2.map V.int)) (hp : SqT X.K H p (k.map V.int)) (hf : L.length + 1 < 64)
    (h : ∀ s' L', (k ∈ L.map (·.2) → L' = L) → (k ∉ L.map (·.2) → L'.Perm ((p, k) :: L)) → Inv X pins σ (upd H D (SetTO X.prog X.w D L')) s' → Q .none s') : wpAny (model X.prog X.w) X.A (call (.builtin "set.add") [.ref D, .ref p]) Q E s := by
  have R0 : SetT0 X.prog X.w s.heap D L := (I.hok D _ hD).1
  obtain ⟨es, ep, t, R⟩ := R0.full fun q hq => I.isT (hL q hq)
  have ik := I.isT hp
  obtain ⟨o, ho, hx, hd⟩ := R.ob
  have ty : s.TypeIs (.ref D) "set" := ⟨o, ho, hx.1⟩
  refine wpAny_call_entry PySem.F.slot_set_add ty PySem.F.entry_set_add ?_ (PySem.F.args_set_add_2 _ _)
  unfold Builtin.«set.add» Builtin.Frozenset.oneOther
  simp only [List.isEmpty_nil, bind_assoc]
  unfold Builtin.Frozenset.addrOf setAdd
  refine wpAny_bind (wpAny_pure ?_)
  try dsimp only
  refine wpAny_bind (wpAny_pure ?_)
  try dsimp only
  refine wpAny_bind (wpAny_holding ?_)
  have hu1 : X.A.in1.units < cLine := Nat.lt_of_le_of_lt (show X.A.units + 1 ≤ X.A.units + 64 by omega) hu
  refine wpAny_bind (wpAny_pyHash_tuple hu1 ik ?_)
  refine add_at (s := { s with toks := s.toks + (k.length + 1) }) R ik hu1 hf fun b h' L' es' ep' t' sb R' c1 c2 => ?_
  show wpAny _ _ (ret Value.none) _ _ _
  refine wpAny_pure ⟨_, rfl, h _ L' c1 c2 ?_⟩
  obtain ⟨o2, ho2, _⟩ := R'.ob
  exact I.write (e := D) (t' := s.toks + (k.length + 1)) (by rw [hD]; trivial) (.inl rfl) (fun b u hb hu => (sb.2 b hb).trans hu) ⟨o2, ho2⟩ (setTO_new R'.t0)
end
/-! ### the comprehension -/
/-- before a turn of the inner loop: the set D, its tuples still told -/
structure SetIn (P : Program) (w : World) (K : PySem.W.Frag) (D : Addr) (L : List (Addr × List Int)) (H : Hp) : Prop where
  at_ : H D = some (SetTO P w D L)
  all : ∀ q ∈ L, SqT K H q.1 (q.2.map V.int)
  few : L.length + 1 < 64
/-- what an element must be: a tuple p of the ints k -/
def Adds (P : Program) (w : World) (K : PySem.W.Frag) (D : Addr) (N : Hp → Prop) (y : V) (H : Hp) : Prop :=
  ∃ L p k, y = .ref p ∧ SetIn P w K D L H ∧ SqT K H p (k.map V.int) ∧ ∀ L', (k ∈ L.map (·.2) → L' = L) → (k ∉ L.map (·.2) → L'.Perm ((p, k) :: L)) → N (upd H D (SetTO P w D L'))
/-- vs: the block's names, vs1: those of the inner target -/
def tTwo (P : Program) (w : World) (K : PySem.W.Frag) (wi : TI) (g : TG) (wj : TI) (gj : TG) (te : TE) (vs vs1 : List Nat) : TE := fun σ H Q => wi σ H fun J H1 => ∀ D, H1 D = none →
  ∃ W : Nat → Nat → Hp → Prop, (∃ m, W 0 m (upd H1 D (SetTO P w D []))) ∧ ∀ i m H, W i m H → (J.stop i H ∧ Q (.ref D) H) ∨
    (J.go i H ∧ ∃ N : Hp → Prop, (∀ H', N H' → ∃ m', m' < m ∧ W (i + 1) m' H') ∧ ∀ x H', J.yld i H x H' → g x (wipe σ vs) H' fun τ H2 => wipe τ vs = wipe σ vs ∧ wj τ H2 fun Jj H3 =>
      ∃ V : Nat → Nat → Hp → Prop, (∃ m, V 0 m H3) ∧ ∀ j k H, V j k H → (Jj.stop j H ∧ N H) ∨
        (Jj.go j H ∧ ∃ Nj : Hp → Prop, (∀ H', Nj H' → ∃ k', k' < k ∧ V (j + 1) k' H') ∧ ∀ x H', Jj.yld j H x H' → gj x (wipe τ vs1) H' fun υ H4 => wipe υ vs1 = wipe τ vs1 ∧ te υ H4 (Adds P w K D Nj)))
section
variable {X : Cx}
/-- the block of such a comprehension, entered -/
abbrev inBlk (X : Cx) (sc : Scope) (s : Shared) (H : Hp) (C : Addr) (cl : List (Str × Addr)) (fo : List Addr) : Cx := X.blk s H sc (compEnvC sc cl C X.env) fo
theorem two_pins {Y : Cx} {pn : List (Addr × Obj)} {σ : L2.St} {H : Hp} {s so : Shared} {fo : List Addr} (I : Inv Y (pn ++ pinsAt fo so.heap) σ H s) {b : Addr} {o : Obj} (hb : b ∈ fo) (e : so.heap.get? b = some o) : s.heap.get? b = some o ∧ H b = none :=
  have z := I.pin (b, o) (List.mem_append_right _ (List.mem_append_right _ (mem_pinsAt hb e)))
  ⟨z.1, z.2.1⟩
theorem two_core {pins : List (Addr × Obj)} {s : Shared} {σ : L2.St} {H : Hp} {Q : VK} {elt t0 i0 t1 i1 : Expr} {sc : Scope} {own : List (Str × Nat)} {vs1 : List Nat} {pos pos' : Pos} {wi wj : TI} {g gj : TG} {te : TE} {use : Option (Value → Sem Unit)} {Qf : Value → Shared → Prop}
    (hc : X.calm = true) (hu : X.A.units + 64 < cLine) (hN : X.N.Nodup) (I : Inv X pins σ H s) (pi : PI X t0 i0 wi) (ok : BlkOk X.N X.env.scope sc own) (sub : ∀ i ∈ vs1, i ∈ own.map (·.2))
    (A0 : ∀ s H C cl fo, PG (inBlk X sc s H C cl fo) t0 g) (A1 : ∀ s H C cl fo, PI (inBlk X sc s H C cl fo) t1 i1 wj) (A2 : ∀ s H C cl fo, PG (inBlk X sc s H C cl fo) t1 gj) (A3 : ∀ s H C cl fo, PE (inBlk X sc s H C cl fo) elt te)
    (f0 : ∀ x, foldedSetIterable i0 X.env x = pure x) (f1 : ∀ env x, foldedSetIterable i1 env x = pure x)
    (h : tTwo X.prog X.w X.K wi g wj gj te (own.map (·.2)) vs1 σ H Q)
    (out : ∀ D C s' m H', Inv X pins σ H' s' → Q (.ref D) H' → s'.heap.Ns C m → FpOk X pins H' C → compPost (model X.prog X.w) X.A X.xe use Qf (.ref D) C (.ok .next) s') :
    wpAny (model X.prog X.w) X.A (comprehension (two elt t0 i0 t1 i1 sc pos) sc X.env pos' (newSet (.type "set")) false (eval i0 X.env) use) Qf X.xe s := by
  have fr : ∀ y ∈ sc.names, y.2 = .free → ∃ c, X.env.cells.lookup y.1 = some c := fun y hy e => (ok.free y hy e).elim (fun k => I.ok.has _ (.inl k)) fun k => I.ok.has _ (.inr k)
  refine wpAny_comprehension_free (use := use) rfl f0 (closure_ok fr) ok.kind (fun y hy e => by rw [ok.uniq y hy, e]) (thn (pi.run pins s σ H _ I h) fun xv sa hx => thn hx fun itv sb hb => ?_)
  obtain ⟨it, fo, tn, J, Hb, rfl, Ib, T, stb, fb, q⟩ := hb
  refine PpSet.newSet_ok (newEnv_comp ?_)
  have nD : Hb sb.heap.objs.size = none := Ib.hok.fresh (Nat.le_refl _)
  obtain ⟨W, ⟨m0, w0⟩, turn⟩ := q _ nD
  have old : ∀ b ∈ fo, b < sb.heap.objs.size := fun b hb => by
    obtain ⟨o, e, _⟩ := T.obj _ _ stb b hb
    exact Heap.lt_size e
  have Id : Inv X pins σ (upd Hb sb.heap.objs.size (SetTO X.prog X.w sb.heap.objs.size [])) { sb with heap := sb.heap.push { cls := .type "set", dict := none, data := .set #[] 0 (.fresh 0 0 (!X.w.params.followText "set-order")) } } :=
    Ib.laid (t' := sb.toks) (fun b o e => Heap.get?_push_of_some _ e) (Nat.le_refl _) (setTO_new (setTR_fresh (P := X.prog) (Heap.get?_push_size _ rfl)).t0)
  have fd : ∀ b ∈ fo, FpOk X pins (upd Hb sb.heap.objs.size (SetTO X.prog X.w sb.heap.objs.size [])) b ∧ b < (sb.heap.push { cls := .type "set", dict := none, data := .set #[] 0 (.fresh 0 0 (!X.w.params.followText "set-order")) }).objs.size := fun b hb => by
    refine ⟨⟨?_, (fb b hb).2⟩, by rw [Heap.size_push]; exact Nat.lt_succ_of_lt (old b hb)⟩
    rw [upd_ne (Nat.ne_of_lt (old b hb))]
    exact (fb b hb).1
  have std : tn 0 (sb.heap.push { cls := .type "set", dict := none, data := .set #[] 0 (.fresh 0 0 (!X.w.params.followText "set-order")) }) := T.keep _ _ _ stb fun b _ o e => Heap.get?_push_of_some _ e
  generalize hD : sb.heap.objs.size = D at *
  generalize hsd : ({ sb with heap := sb.heap.push { cls := .type "set", dict := none, data := .set #[] 0 (.fresh 0 0 (!X.w.params.followText "set-order")) } } : Shared) = sd at *
  have hpush : sd.heap = sb.heap.push { cls := .type "set", dict := none, data := .set #[] 0 (.fresh 0 0 (!X.w.params.followText "set-order")) } := by rw [← hsd]
  rw [← hpush] at fd std
  generalize hHd : upd Hb D (SetTO X.prog X.w D []) = Hd at *
  have Ie := block_start Id ok hN fd
  have B0 := A0 sd Hd sd.heap.objs.size (cellsFrom (sd.heap.objs.size + 1) sc.names (cloFrom X.env.cells sc.names [])) fo
  have B1 := A1 sd Hd sd.heap.objs.size (cellsFrom (sd.heap.objs.size + 1) sc.names (cloFrom X.env.cells sc.names [])) fo
  have B2 := A2 sd Hd sd.heap.objs.size (cellsFrom (sd.heap.objs.size + 1) sc.names (cloFrom X.env.cells sc.names [])) fo
  have B3 := A3 sd Hd sd.heap.objs.size (cellsFrom (sd.heap.objs.size + 1) sc.names (cloFrom X.env.cells sc.names [])) fo
  show codeAny _ _ (.compStart (two elt t0 i0 t1 i1 sc pos) 0 (.ref it) (.ref D) (compEnvC sc (cellsFrom (sd.heap.objs.size + 1) sc.names (cloFrom X.env.cells sc.names [])) sd.heap.objs.size X.env)) (compPost (model X.prog X.w) X.A X.xe use Qf (.ref D) sd.heap.objs.size)
    { sd with heap := pushCells (sd.heap.push { cls := .type "dict", data := .dict #[] }) sc.names }
  have ste : tn 0 (pushCells (sd.heap.push { cls := .type "dict", data := .dict #[] }) sc.names) := T.keep _ _ _ std fun b _ o e => pushCells_keeps _ _ _ _ (Heap.get?_push_of_some _ e)
  dsimp only [inBlk] at B0 B1 B2 B3
  generalize hce : compEnvC sc (cellsFrom (sd.heap.objs.size + 1) sc.names (cloFrom X.env.cells sc.names [])) sd.heap.objs.size X.env = ce at Ie B0 B1 B2 B3 ⊢
  have cL : ce.locals = sd.heap.objs.size := by subst hce; rfl
  have stat : ∀ {τ : L2.St} {H' : Hp} {u : Shared}, Inv (X.blk sd Hd sc ce fo) [] τ H' u → (∀ b ∈ fo, H' b = none) → ∀ b ∈ fo, FpOk (X.blk sd Hd sc ce fo) [] H' b := fun {τ H' u} J1 hn b hb =>
    ⟨hn b hb, (J1.ok.exf b hb).1, J1.ok.exfs b hb, .inl hb, fun x c e => (J1.ok.exf b hb).2 x c e, fun p hp => absurd (show p ∈ ([] : List (Addr × Obj)) from hp) (by simp)⟩
  have main : codeAny (model X.prog X.w) X.A (.compLoop (two elt t0 i0 t1 i1 sc pos) 0 (.ref it) (.ref D) ce) (compPost (model X.prog X.w) X.A X.xe use Qf (.ref D) sd.heap.objs.size) { sd with heap := pushCells (sd.heap.push { cls := .type "dict", data := .dict #[] }) sc.names } := by
    refine two_loop0 (f1 ce) (fun n u => ∃ i H', Inv (X.blk sd Hd sc ce fo) [] (wipe σ (own.map (·.2))) H' u ∧ tn i u.heap ∧ (∀ b ∈ fo, H' b = none) ∧ W i n H') ?_ m0 ⟨0, Hd, Ie, ste, fun b hb => (fd b hb).1.1, w0⟩
    rintro n u ⟨i, H1, J1, st1, n1, w1⟩
    rcases turn i n H1 w1 with ⟨stop, qq⟩ | ⟨go, N, hNx, step⟩
    · refine thnF (T.done (X.blk sd Hd sc ce fo) rfl rfl rfl hc i [] u _ H1 (fun _ _ => False) J1 (stat J1 n1) st1 stop) fun r v ⟨hr, J2⟩ => ?_
      subst hr
      have back : Inv X pins σ H1 v := Id.call' (ch := fo) J2.os J2.base J2.hok J2.bare fun b hb => ⟨(fd b hb).1.2.2.2.1, (fd b hb).1.2.1, (fd b hb).1.2.2.2.2.1, (fd b hb).1.2.2.2.2.2⟩
      have nC : H1 sd.heap.objs.size = none := by
        have z : H1 ce.locals = none := J2.free
        rw [cL] at z
        exact z
      obtain ⟨m, hn, _⟩ := J2.loc
      have hn : v.heap.Ns ce.locals m := hn
      rw [cL] at hn
      exact out D _ v m H1 back qq hn (Id.fpOk (Nat.le_refl _) nC)
    · refine thnF (T.item (X.blk sd Hd sc ce fo) rfl rfl rfl hc i [] u _ H1 (fun _ _ => False) J1 (stat J1 n1) st1 go) fun r v ⟨y, hr, hy⟩ => ?_
      subst hr
      refine thnF hy fun _ so ⟨x, H2, J2, r2, y2, st2, n2⟩ => ?_
      have J3 := J2.pinned (stat J2 n2) (T.obj _ _ st2)
      refine thnF (B0.run _ so _ H2 x y _ J3 r2 (step x H2 y2)) fun _ s3 ⟨τ, H3, J4, hw, q3⟩ => ?_
      -- an outer turn's end
      have fin : ∀ {υ : L2.St} {z : Shared} {H' : Hp}, Inv (X.blk sd Hd sc ce fo) ([] ++ pinsAt fo so.heap) υ H' z → (wipe σ (own.map (·.2))).length = υ.length → (∀ (j : Nat) v, (wipe σ (own.map (·.2)))[j]? = some (some v) → υ[j]? = some (some v)) → N H' →
          ∃ m, m < n ∧ ∃ i H', Inv (X.blk sd Hd sc ce fo) [] (wipe σ (own.map (·.2))) H' z ∧ tn i z.heap ∧ (∀ b ∈ fo, H' b = none) ∧ W i m H' := fun {υ z H'} K hl hk nx => by
        obtain ⟨m', hm, w'⟩ := hNx H' nx
        refine ⟨m', hm, i + 1, H', (K.unpinned (pins := [])).weak hl hk, T.keep _ _ _ st2 fun b hb o e => (two_pins K hb e).1, fun b hb => ?_, w'⟩
        obtain ⟨o, e, _⟩ := T.obj _ _ st2 b hb
        exact (two_pins K hb e).2
      have l1 : (wipe σ (own.map (·.2))).length = τ.length := by rw [← hw, wipe_length]
      have k1 : ∀ (j : Nat) v, (wipe σ (own.map (·.2)))[j]? = some (some v) → (wipe τ vs1)[j]? = some (some v) := fun j v e => by
        rw [← hw] at e
        obtain ⟨e1, e2⟩ := wipe_some e
        rw [wipe_out fun z => e2 (sub j z)]
        exact e1
      refine thnF (B1.run _ s3 τ H3 _ J4 q3) fun xv s4 hx => thnF hx fun itv s5 hj => ?_
      obtain ⟨it1, fi, tj, Jj, H5, rfl, J5, Tj, st5, f5, V, ⟨mj, v0⟩, turn1⟩ := hj
      have stat1 : ∀ {H' : Hp}, (∀ b ∈ fi, H' b = none) → ∀ b ∈ fi, FpOk (X.blk sd Hd sc ce fo) ([] ++ pinsAt fo so.heap) H' b := fun hn b hb => ⟨hn b hb, (f5 b hb).2⟩
      have inner : codeAny (model X.prog X.w) X.A (.compLoop (two elt t0 i0 t1 i1 sc pos) 1 (.ref it1) (.ref D) ce)
          (fun r z => match r with | .ok _ => ∃ m, m < n ∧ ∃ i H', Inv (X.blk sd Hd sc ce fo) [] (wipe σ (own.map (·.2))) H' z ∧ tn i z.heap ∧ (∀ b ∈ fo, H' b = none) ∧ W i m H' | .error _ => False) s5 := by
        refine two_loop1 (fun k z => ∃ j H', Inv (X.blk sd Hd sc ce fo) ([] ++ pinsAt fo so.heap) (wipe τ vs1) H' z ∧ tj j z.heap ∧ (∀ b ∈ fi, H' b = none) ∧ V j k H') ?_ mj ⟨0, H5, J5.weak (wipe_length _ _) (fun j v e => (wipe_some e).1), st5, fun b hb => (f5 b hb).1, v0⟩
        rintro k s6 ⟨j, H6, J6, st6, n6, v6⟩
        rcases turn1 j k H6 v6 with ⟨stop, nx⟩ | ⟨go, Nj, hNj, step1⟩
        · refine thnF (Tj.done (X.blk sd Hd sc ce fo) rfl rfl rfl hc j _ s6 (wipe τ vs1) H6 (fun _ _ => False) J6 (stat1 n6) st6 stop) fun r s7 ⟨hr, J7⟩ => ?_
          subst hr
          exact fin J7 (l1.trans (wipe_length τ vs1).symm) k1 nx
        · refine thnF (Tj.item (X.blk sd Hd sc ce fo) rfl rfl rfl hc j _ s6 (wipe τ vs1) H6 (fun _ _ => False) J6 (stat1 n6) st6 go) fun r s7 ⟨y7, hr, hy7⟩ => ?_
          subst hr
          refine thnF hy7 fun _ s8 ⟨x8, H8, J8, r8, y8, st8, n8⟩ => ?_
          have J9 := J8.pinned (stat1 n8) (Tj.obj _ _ st8)
          refine thnF (B2.run _ s8 (wipe τ vs1) H8 x8 y7 _ J9 r8 (step1 x8 H8 y8)) fun _ s9 ⟨υ, H9, Ja, hwa, qa⟩ => ?_
          refine thnF (B3.run _ s9 υ H9 _ Ja qa) fun z sb ⟨yv, Hb', Jb, rb, L, p, ks, ey, SI, hp, nx⟩ => ?_
          subst ey
          cases (show z = Value.ref p from rb)
          refine two_add (X := X.blk sd Hd sc ce fo) hu Jb SI.at_ SI.all hp SI.few fun sc' L' c1 c2 Jc => ?_
          obtain ⟨m', hm, w'⟩ := hNj _ (nx L' c1 c2)
          refine ⟨m', hm, j + 1, _, Jc.unpinned.weak (by rw [← hwa, wipe_length]) (fun j v e => by rw [← hwa] at e; exact (wipe_some e).1), Tj.keep _ _ _ st8 fun b hb o e => (two_pins Jc hb e).1, fun b hb => ?_, w'⟩
          obtain ⟨o, e, _⟩ := Tj.obj _ _ st8 b hb
          exact (two_pins Jc hb e).2
      exact two_start1 inner (Tj.self X.A 0 _ _ _ st5 inner)
  exact PpSet.codeAny_compStart_set main (T.self X.A 0 _ _ _ ste main)
theorem pe_two {elt t0 i0 t1 i1 : Expr} {sc : Scope} {own : List (Str × Nat)} {vs1 : List Nat} {pos : Pos} {wi wj : TI} {g gj : TG} {te : TE} (hc : X.calm = true) (hu : X.A.units + 64 < cLine) (hN : X.N.Nodup) (pi : PI X t0 i0 wi) (ok : BlkOk X.N X.env.scope sc own) (sub : ∀ i ∈ vs1, i ∈ own.map (·.2))
    (A0 : ∀ s H C cl fo, PG (inBlk X sc s H C cl fo) t0 g) (A1 : ∀ s H C cl fo, PI (inBlk X sc s H C cl fo) t1 i1 wj) (A2 : ∀ s H C cl fo, PG (inBlk X sc s H C cl fo) t1 gj) (A3 : ∀ s H C cl fo, PE (inBlk X sc s H C cl fo) elt te)
    (f0 : ∀ x, foldedSetIterable i0 X.env x = pure x := by intro _; rfl) (f1 : ∀ env x, foldedSetIterable i1 env x = pure x := by intro _ _; rfl) :
    PE X (two elt t0 i0 t1 i1 sc pos) (tTwo X.prog X.w X.K wi g wj gj te (own.map (·.2)) vs1) := by
  refine ⟨fun pins s σ H Q I h => ?_⟩
  rw [PpSet.eval_SetComp]
  refine two_core hc hu hN I pi ok sub A0 A1 A2 A3 f0 f1 h fun D C s' m H' J q hn f => ⟨m, hn, fun h' sb => ?_⟩
  exact ⟨.ref D, H', J.turned (t' := s'.toks) (fun b o hb e => (sb.2 b hb).trans e) f.1 f.2.1 f.2.2.2.1 f.2.2.2.2.1 f.2.2.2.2.2, rfl, q⟩
end
end Pm
end
section
set_option Elab.async false
set_option maxRecDepth 100000
set_option maxHeartbeats 4000000
set_option linter.all false
/-! sorted(tuple of ints), sorted(list of lists of ints) -/
namespace Pm
open PySem L2
open PyProof.Rows (kind_sorted plain_sorted entry_sorted args_sorted1 sortedHeap_old sortedHeap_at sortedHeap seqObj entry_list_sort slot_list_sort args_list_sort sortedAll sortedAll_old sortedAll_at IntsAre size_push')
section
variable {prog : Program} {w : World} {A : Around} {E : Value → Shared → Prop} {s : Shared}
theorem tup_sorted {t n : Nat} {o : Obj} {vs : List Value} {ns : List Int} {Q : Value → Shared → Prop} (ho : s.heap.get? t = some o) (hc : o.cls = .type "tuple") (hd : o.data = .seq vs.toArray n) (hI : IntsAre vs ns) (hL : vs.length ≤ sizeLine)
    (h : ∀ (h' : Heap) (p : Addr) (c : Nat) (out : Array Value) (ns' : List Int), (∀ b u, s.heap.get? b = some u → h'.get? b = some u) → h'.get? p = some (seqObj "list" out c) → IntsAre out.toList ns' → ns'.Perm ns → ns'.Pairwise (· ≤ ·) →
      (∀ (X : Cx) (pins : List (Addr × Obj)) (σ : L2.St) (H : Hp), X.prog = prog → X.w = w → Inv X pins σ H s → H p = none ∧ Inv X pins σ (upd H p (.lst (ns'.map V.int))) { s with heap := h' }) → Q (.ref p) { s with heap := h' }) :
    wpAny (model prog w) A (call (.builtin "sorted") [.ref t]) Q E s := by
  refine Calls.call_function_entry kind_sorted plain_sorted entry_sorted (args_sorted1 _) ?_
  unfold Builtin.«sorted»
  refine wpAny_bind (m := checkCount "sorted" 1 1 _) (wpAny_pure ?_)
  have hz : vs.toArray.size ≤ sizeLine := by rw [List.size_toArray]; exact hL
  refine wpAny_bind (wpAny_collect_seq t (.inr rfl) ho hc hd (fun h1 k1 => ?_) hz)
  refine wpAny_bind (wpAny_newList ?_ (by simpa using hL))
  have hp : (h1.push (seqObj "list" vs.toArray 0)).get? h1.objs.size = some (seqObj "list" vs.toArray 0) := Heap.get?_push_size _ rfl
  refine wpAny_bind (wpAny_holding (wpAny_call_entry (s := { s with heap := h1.push (seqObj "list" vs.toArray 0) }) slot_list_sort ⟨_, hp, rfl⟩ entry_list_sort (PyProof.Rows.list_sort_treeAny hp hI hL fun out ns' a1 a2 a3 => ⟨_, rfl, ?_⟩) (args_list_sort _)))
  obtain ⟨c, hc'⟩ := sortedHeap_at (vs := vs) (out := out) hp
  have k2 : ∀ b u, h1.get? b = some u → (sortedHeap (h1.push (seqObj "list" vs.toArray 0)) h1.objs.size vs out).get? b = some u := fun b u e => by
    have lt := Heap.lt_size e
    rw [sortedHeap_old (Nat.ne_of_lt lt) (by rw [size_push']; exact Nat.lt_succ_of_lt lt)]
    exact Heap.get?_push_of_some _ e
  refine wpAny_pure ⟨_, rfl, h _ h1.objs.size c out ns' (fun b u e => k2 b u (k1 b u e)) hc' a1 a2 a3 fun X pins σ H e1 e2 I => ?_⟩
  subst e1; subst e2
  have I1 : Inv X pins σ H { s with heap := h1 } := I.kept (t' := s.toks) k1
  have hlen : (ns'.map V.int).length ≤ sizeLine := by rw [List.length_map, a2.length_eq, ← hI.length]; exact hL
  exact ⟨I1.hok.fresh (Nat.le_refl _), I1.laid (t' := s.toks) k2 (Nat.le_refl _) ⟨hlen, out.toList, c, vals_of_ints a1, hc'⟩⟩
end
/-- sorted(t), t a tuple of ints -/
def rSortedTu (K : PySem.W.Frag) : List V → Hp → VK → Prop := fun vs H Q => ∃ (a : Addr) (ns : List Int), vs = [V.ref a] ∧ SqT K H a (ns.map V.int) ∧
  ∀ (ns' : List Int) (p : Addr), ns'.Perm ns → ns'.Pairwise (· ≤ ·) → H p = none → Q (.ref p) (upd H p (.lst (ns'.map V.int)))
theorem cr_sortedTu {X : Cx} : CallR X (.builtin "sorted") (rSortedTu X.K) := by
  intro pins s σ H vs us Q I r h
  obtain ⟨a, ns, rfl, hs, q⟩ := h
  obtain ⟨its, rv, ⟨o, ho, hc, n, hd⟩, hz⟩ := I.tuple hs
  rw [Vals.ref1 r]
  have hL : its.length ≤ sizeLine := by rw [← rv.length]; exact hz
  refine tup_sorted ho hc hd rv.ints hL fun h' p c out ns' k _ a1 a2 a3 up => ?_
  obtain ⟨nn, J⟩ := up X pins σ H rfl rfl I
  exact ⟨.ref p, _, J, rfl, q ns' p a2 a3 nn⟩
/-- rows: addresses with the ints that they hold -/
def leRow : Addr × List Int → Addr × List Int → Bool := fun p q => decide (p.2 ≤ q.2)
def rSortedLL (K : PySem.W.Frag) : List V → Hp → VK → Prop := fun vs H Q => ∃ (a : Addr) (rows : List (Addr × List Int)), vs = [V.ref a] ∧ SqL K H a (rows.map fun r => V.ref r.1) ∧ (∀ r ∈ rows, SqL K H r.1 (r.2.map V.int)) ∧
  ∀ (p : Addr), H p = none → Q (.ref p) (upd H p (.lst ((rows.mergeSort leRow).map fun r => V.ref r.1)))
theorem readsAll_ints {h : Heap} : ∀ {us : List Value} {ns : List Int}, Vals (ns.map V.int) us → ReadsAll h us (ns.map .int) []
  | _, [], .nil => .nil
  | _, n :: ns, .cons r t => by
    obtain ⟨tk, rfl⟩ := r
    exact .cons (as := []) (.int n tk) (readsAll_ints t)
theorem each_rows {h : Heap} : ∀ {rows : List (Addr × List Int)}, (∀ r ∈ rows, ∃ as, Reads h (.ref r.1) (.list (r.2.map .int)) as) → PySem.W.EachIs (fun v b => ∃ as, Reads h v (.list ((b : Addr × List Int).2.map .int)) as) (rows.map fun r => Value.ref r.1) rows
  | [], _ => .nil
  | r :: rows, h => .cons (h r List.mem_cons_self) (each_rows fun q hq => h q (List.mem_cons_of_mem _ hq))
theorem each_self : ∀ {rows : List (Addr × List Int)}, PySem.W.EachIs (fun v b => v = Value.ref (b : Addr × List Int).1) (rows.map fun r => Value.ref r.1) rows
  | [] => .nil
  | _ :: _ => .cons rfl each_self
theorem each_out : ∀ {out : List Value} {rows : List (Addr × List Int)}, PySem.W.EachIs (fun v b => v = Value.ref (b : Addr × List Int).1) out rows → out = rows.map fun r => Value.ref r.1
  | _, _, .nil => rfl
  | _, _, .cons e t => by rw [e, each_out t]; rfl
theorem cr_sortedLL {X : Cx} (hu : X.A.units + 64 < cLine) : CallR X (.builtin "sorted") (rSortedLL X.K) := by
  intro pins s σ H vs us Q I r h
  obtain ⟨a, rows, rfl, hs, hr, q⟩ := h
  obtain ⟨its, rv, pl, hz⟩ := I.list hs
  rw [Vals.ref1 r]
  have ei : its = rows.map fun r => Value.ref r.1 := refs_of_vals rv
  subst ei
  have rd : ∀ r ∈ rows, ∃ as, Reads s.heap (.ref r.1) (.list (r.2.map .int)) as := fun r hr' => by
    obtain ⟨us, ru, pl2, _⟩ := I.list (hr r hr')
    obtain ⟨o, n, ho, hx, hd, hs'⟩ := pl2
    exact ⟨_, .list ho hx hs' (readsAll_ints (by simpa using ru))⟩
  refine PySem.W.sorted_data (bs := rows) (enc := fun b => .list (b.2.map .int)) (R := fun v b => v = Value.ref b.1) pl.isList each_self (each_rows rd) (PySem.W.AllAlike.of fun b b' => by simp only [PySem.W.alike]; exact PySem.W.alike_ints _ _) (PySem.W.Sortable.others fun b => ⟨by simp, by simp⟩)
    (by simpa using hz) (fun b hb => ?_) fun out hl eo => ?_
  · show X.A.units + 2 + PyData.depth (.list (b.2.map .int)) < cLine
    have : PyData.depth (.list (b.2.map .int)) ≤ 1 := by
      simp only [PyData.depth, PySem.W.depth_ints]
      omega
    omega
  · rw [PySem.W.dataLe_rows] at eo
    have eo' := each_out eo
    subst eo'
    obtain ⟨c, hc⟩ := sortedAll_at s.heap (rows.map fun r => Value.ref r.1) (List.toArray ((rows.mergeSort leRow).map fun r => Value.ref r.1))
    have hlen : ((rows.mergeSort leRow).map fun r => V.ref r.1).length ≤ sizeLine := by
      rw [List.length_map, List.length_mergeSort]
      simpa using hz
    exact ⟨.ref _, upd H (s.heap.objs.size + 1) (.lst ((rows.mergeSort leRow).map fun r => V.ref r.1)), I.laid (t' := s.toks) (fun _ _ => sortedAll_old) (Nat.le_succ _) ⟨hlen, _, c, vals_of_refs _, hc⟩, rfl, q _ (I.hok.fresh (Nat.le_succ _))⟩
end Pm
end
section
set_option Elab.async false
set_option maxRecDepth 100000
set_option maxHeartbeats 4000000
set_option linter.all false
/-! list(d.values()) -/
namespace Pm
open PySem L2
open PyProof.Rows (args_cons args_nil)
theorem boot_list' : PySem.bootBuiltins "list" = some (.type "list") := by first | rfl | decide +kernel
theorem kv_vals {κ : Type} {kvs : List (κ × V)} {vs : List (κ × Value)} (r : KV kvs vs) : Vals (kvs.map (·.2)) (vs.map (·.2)) := by
  unfold KV at r
  induction r with
  | nil => exact .nil
  | cons r t ih => exact .cons r.2 ih
def tLVals (td : TE) : TE := fun σ H Q => td σ H fun x H1 => ∃ a kvs, x = V.ref a ∧ H1 a = some (.dK kvs) ∧ ∀ l, H1 l = none → Q (.ref l) (upd H1 l (.lst (kvs.map (·.2))))
theorem pe_lvals {X : Cx} {o : Expr} {td : TE} {p pos apos mpos : Pos} (hc : X.calm = true) (hg : Gl X "list") (hm : X.mg "list" = none) (hd : PE X o td) (hbase : attributeBase o "values" X.env (eval o X.env) = eval o X.env := by rfl) (hline : (apos.endLine == mpos.line) = true := by rfl)
    (na : starEach [Expr.Call (.Attribute o "values" apos) [] [] mpos] X.env = (false, eval (Expr.Call (.Attribute o "values" apos) [] [] mpos) X.env) :: starEach [] X.env := by rfl) :
    PE X (.Call (.Name "list" p) [.Call (.Attribute o "values" apos) [] [] mpos] [] pos) (tLVals td) := by
  refine ⟨fun pins s σ H Q I h => ?_⟩
  refine PyProof.Rows.Call_ (ld_blt I hg hm boot_list' (PyProof.Rows.callWith_type1 (args_cons (wpAny_Call_method0_late hbase hline (thn (hd.run pins s σ H _ I h) fun v s1 ⟨x, H1, I1, r1, a, kvs, ex, ha, q⟩ => ?_)) na) na))
  subst ex
  obtain rfl : v = Value.ref a := r1
  obtain ⟨hlen, hsys, vs, rel, dof⟩ := dk_of I1.hok ha
  obtain ⟨ep, dat⟩ := dof.dictAt
  have dat' := dat
  obtain ⟨ob, es, ho, ex, hdat, hko, hpr, hnd⟩ := dat'
  refine ⟨"dict", "dict.values", PySem.F.plainAttrs_dict, PySem.F.slot_dict_values, PySem.F.type_dict_values, ⟨ob, ho, ex.1⟩, fun b e => ?_, Calls.callWith_builtin rfl (PySem.evalArgs_none ?_)⟩
  · cases e
    exact ⟨ob, ho, ex.2.1⟩
  refine call_meetsIn PySem.F.slot_dict_values ⟨ob, ho, ex.1⟩ PySem.F.entry_dict_values (PySem.F.args_dict_values_1 _) (meets_dict_values (mixKind X.prog X.w) a hsys) ⟨⟨vs, dof⟩, args_nil ?_⟩
  have k1 : ∀ b u, s1.heap.get? b = some u → (s1.heap.push { cls := .type "dict_values", data := .fields #[.ref a] }).get? b = some u := fun b u e => Heap.get?_push_of_some _ e
  have I2 : Inv X pins σ H1 { s1 with heap := s1.heap.push { cls := .type "dict_values", data := .fields #[.ref a] } } := I1.kept (t' := s1.toks) k1
  have hl2 : vs.length = kvs.length := (KV.length rel).symm
  refine PySem.W.kdl_call (s := { s1 with heap := s1.heap.push { cls := .type "dict_values", data := .fields #[.ref a] } }) (PySem.W.kdl_values (knd := mixKind X.prog X.w) (d := a) (r := s1.heap.objs.size) (kvs := vs) (ep := ep)) (I1.ok.hd hc) ⟨⟨_, Heap.get?_push_size _ rfl, rfl, rfl⟩, dat.keep k1⟩ (by rw [hl2]; exact hlen) fun h' tk acc c hk hS hacc => ?_
  have ev : acc.toList = vs.map (·.2) := by
    refine List.ext_getElem? fun i => ?_
    by_cases hi : i < vs.length
    · have hi' : i < acc.size := by rw [hacc.1]; exact hi
      obtain ⟨k, hk'⟩ := hacc.2 i acc[i] (by rw [Array.getElem?_eq_getElem hi'])
      rw [Array.getElem?_toList, Array.getElem?_eq_getElem hi', List.getElem?_map, hk']
      rfl
    · rw [List.getElem?_eq_none (by rw [Array.length_toList, hacc.1]; omega), List.getElem?_eq_none (by rw [List.length_map]; omega)]
  have nn := I2.hok.fresh (a := (s1.heap.push { cls := .type "dict_values", data := .fields #[.ref a] }).objs.size) (Nat.le_refl _)
  refine ⟨.ref _, _, I2.laid (t' := tk) hk (Nat.le_refl _) (show ObjOk X.prog X.w _ _ _ (.lst (kvs.map (·.2))) from ⟨by rw [List.length_map]; exact hlen, acc.toList, c, by rw [ev]; exact kv_vals rel, ?_⟩), rfl, q _ nn⟩
  rw [Array.toArray_toList]
  exact hS
end Pm
end
section
set_option Elab.async false
set_option maxRecDepth 100000
set_option maxHeartbeats 4000000
set_option linter.all false
namespace Pm
open PySem L2
theorem hu64_of {A : Around} {k : Nat} (hr : Room k A) : A.units + 64 < cLine := hr.units
/-- a new plain list is handed back -/
def RetL (us : List V) (H : Hp) (Q : VK) : Prop := ∀ l H', Ex H H' → H l = none → H' l = some (.lst us) → Q (.ref l) H'
/-! ### rules for a comprehension's block: K is named -/
theorem pe_idxL {X : Cx} (K : PySem.W.Frag) (hK : X.K = K) {o e : Expr} {to : TE} {t : TA} {apos cpos : Pos} (ho : PE X o to) (ha : PA X [e] t)
    (hbase : attributeBase o "index" X.env (eval o X.env) = eval o X.env := by rfl)
    (hfew : ((backTo cpos (starEach [e] X.env)).all (fun x => !x.1) && (backToKw cpos (keywordEach [] X.env)).all (fun x => x.1.isSome) && decide ([e].length + ([] : List Keyword).length + (if ([] : List Keyword).isEmpty then 0 else 1) < 30)) = true := by rfl)
    (hline : (apos.endLine == cpos.line) = true := by rfl) (hs : starEach [e] X.env = (false, eval e X.env) :: starEach [] X.env := by rfl) (hplain : (backTo cpos (starEach [] X.env)).any (·.1) = false := by rfl) :
    PE X (.Call (.Attribute o "index" apos) [e] [] cpos) (tBM K "list" (rIndex K) to t) := by
  subst hK
  exact pe_bm PySem.F.plainAttrs_list PySem.F.slot_list_index PySem.F.type_list_index mt_index ho ha hbase hfew hline hs hplain
theorem pe_idxT {X : Cx} (K : PySem.W.Frag) (hK : X.K = K) {o e : Expr} {to : TE} {t : TA} {apos cpos : Pos} (ho : PE X o to) (ha : PA X [e] t)
    (hbase : attributeBase o "index" X.env (eval o X.env) = eval o X.env := by rfl)
    (hfew : ((backTo cpos (starEach [e] X.env)).all (fun x => !x.1) && (backToKw cpos (keywordEach [] X.env)).all (fun x => x.1.isSome) && decide ([e].length + ([] : List Keyword).length + (if ([] : List Keyword).isEmpty then 0 else 1) < 30)) = true := by rfl)
    (hline : (apos.endLine == cpos.line) = true := by rfl) (hs : starEach [e] X.env = (false, eval e X.env) :: starEach [] X.env := by rfl) (hplain : (backTo cpos (starEach [] X.env)).any (·.1) = false := by rfl) :
    PE X (.Call (.Attribute o "index" apos) [e] [] cpos) (tBMG K "tuple" (rIndexT K) to t) := by
  subst hK
  exact pe_bmG PySem.F.plainAttrs_tuple PySem.F.slot_tuple_index PySem.F.type_tuple_index mt_tupIndex ho ha hbase hfew hline hs hplain
theorem ix_listK {X : Cx} (K : PySem.W.Frag) (hK : X.K = K) : IxR X (rIxL K) := by subst hK; exact ix_list
theorem ix_tupK {X : Cx} (K : PySem.W.Frag) (hK : X.K = K) : IxR X (rIxT K) := by subst hK; exact ix_tup
theorem op_inK {X : Cx} (K : PySem.W.Frag) (hK : X.K = K) : OpR X (compareOp .In) (rIn K false) := by subst hK; exact op_in_seq
theorem op_notInK {X : Cx} (K : PySem.W.Frag) (hK : X.K = K) : OpR X (compareOp .NotIn) (rIn K true) := by subst hK; exact op_notIn_seq
def rLenS (K : PySem.W.Frag) : List V → Hp → VK → Prop := fun xs H Q => ∃ p ys, xs = [V.ref p] ∧ (SqL K H p ys ∨ SqT K H p ys) ∧ Q (.int ys.length) H
theorem call_lenK {X : Cx} (K : PySem.W.Frag) (hK : X.K = K) : CallR X (.builtin "len") (rLenS K) := by subst hK; exact call_len_seq
/-! ### more readings -/
section
variable {σ : L2.St} {H : Hp} {Q : VK} {v x y : V} {i j : Int} {ta tb te to : TE} {t : TA} {D : Ends} {K : PySem.W.Frag} {p l : Addr} {xs ys : List Nat} {n m : Nat}
theorem x_bm {T : String} {r : V → List V → Hp → VK → Prop} (q : to σ H fun x H1 => tyV K T x H1 ∧ t σ H1 fun xs H2 => r x xs H2 Q) : tBM K T r to t σ H Q := q
theorem x_bmG {T : String} {r : V → List V → Hp → VK → Prop} (q : to σ H fun x H1 => TyO T K x H1 ∧ t σ H1 fun xs H2 => r x xs H2 Q) : tBMG K T r to t σ H Q := q
theorem x_append {us : List V} (h : H l = some (.lst us)) (hz : us.length < sizeLine) (q : Q .non (upd H l (.lst (us ++ [y])))) : rAppend (.ref l) [y] H Q := ⟨l, us, y, rfl, rfl, h, hz, q⟩
theorem x_while {c : TT} {b : TS} (q : ∃ W : Nat → L2.St → Hp → Prop, (∃ m, W m σ H) ∧ ∀ m σ H, W m σ H →
  c σ H fun k H1 => if k = true then ∃ N : L2.St → Hp → Prop, (∀ σ' H', N σ' H' → ∃ m', m' < m ∧ W m' σ' H') ∧ b { D with nx := N, ct := N, bk := D.nx } σ H1 else D.nx σ H1) : tWhile c b D σ H := q
theorem vn_at (h : n < xs.length) : (xs.map vn)[n]? = some (vn (gt xs n)) := by
  rw [List.getElem?_map, List.getElem?_eq_getElem h]
  show some (vn _) = some (vn (xs.getD n 0))
  rw [List.getD_eq_getElem?_getD, List.getElem?_eq_getElem h]
  rfl
theorem gt_mem (h : n < xs.length) : gt xs n ∈ xs := by
  show xs.getD n 0 ∈ xs
  rw [List.getD_eq_getElem?_getD, List.getElem?_eq_getElem h]
  exact List.getElem_mem h
theorem gt_of (h : xs[n]? = some m) : gt xs n = m := by
  show xs.getD n 0 = m
  rw [List.getD_eq_getElem?_getD, h]
  rfl
theorem x_ixN (h : SqL K H p (xs.map vn)) (e : i = (n : Int)) (hn : n < xs.length) (q : Q (vn (gt xs n)) H) : rIxL K (.ref p) (.int i) H Q := x_ixL h (at_n e (vn_at hn)) q
theorem x_ixNT (h : SqT K H p (xs.map vn)) (e : i = (n : Int)) (hn : n < xs.length) (q : Q (vn (gt xs n)) H) : rIxT K (.ref p) (.int i) H Q := x_ixT h (at_n e (vn_at hn)) q
theorem flat_vn : (xs.map vn).all flatV = true := by
  rw [List.all_map]
  exact List.all_eq_true.mpr fun _ _ => rfl
theorem inV_vn : inV (vn n) (xs.map vn) = decide (n ∈ xs) := by
  unfold inV
  rw [List.any_map]
  rw [Bool.eq_iff_iff, List.any_eq_true, decide_eq_true_iff]
  constructor
  · rintro ⟨z, hz, e⟩
    have e' : ((z : Int) == (n : Int)) = true := e
    have : z = n := by have := eq_of_beq e'; omega
    exact this ▸ hz
  · intro h
    exact ⟨n, h, (beq_self_eq_true (n : Int) : _)⟩
theorem x_in (h : SqL K H p (xs.map vn) ∨ SqT K H p (xs.map vn)) (q : Q (.bl (decide (n ∈ xs))) H) : rIn K false (vn n) (.ref p) H Q := by
  refine ⟨p, _, rfl, h, rfl, flat_vn, ?_⟩
  show Q (.bl (inV (vn n) (xs.map vn))) H
  rw [inV_vn]
  exact q
theorem x_notIn (h : SqL K H p (xs.map vn) ∨ SqT K H p (xs.map vn)) (q : Q (.bl (decide (n ∉ xs))) H) : rIn K true (vn n) (.ref p) H Q := by
  refine ⟨p, _, rfl, h, rfl, flat_vn, ?_⟩
  show Q (.bl (!inV (vn n) (xs.map vn))) H
  rw [inV_vn, ← decide_not]
  exact q
theorem idx_facts (h : n ∈ xs) : (xs.map vn)[xs.idxOf n]? = some (vn n) ∧ ∀ (m : Nat) (z' : V), m < xs.idxOf n → (xs.map vn)[m]? = some z' → eqV z' (vn n) = false := by
  have hl := List.idxOf_lt_length_of_mem h
  refine ⟨?_, fun m z' hm hz => ?_⟩
  · rw [List.getElem?_map, List.getElem?_eq_getElem hl, List.getElem_idxOf]
    rfl
  · have hml : m < xs.length := by omega
    rw [List.getElem?_map, List.getElem?_eq_getElem hml] at hz
    have hz' : z' = vn xs[m] := (Option.some.inj hz).symm
    subst hz'
    show ((xs[m] : Int) == (n : Int)) = false
    rw [beq_eq_false_iff_ne]
    intro e
    have e' : xs[m] = n := by omega
    have ne := List.not_of_lt_findIdx (p := (· == n)) (xs := xs) (i := m) hm
    simp [e'] at ne
theorem x_idx (h : SqL K H p (xs.map vn)) (hm : n ∈ xs) (q : Q (vn (xs.idxOf n)) H) : rIndex K (.ref p) [vn n] H Q :=
  ⟨p, _, vn n, xs.idxOf n, vn n, rfl, rfl, h, rfl, flat_vn, (idx_facts hm).1, (beq_self_eq_true (n : Int) : _), (idx_facts hm).2, q⟩
theorem x_idxT (h : SqT K H p (xs.map vn)) (hm : n ∈ xs) (q : Q (vn (xs.idxOf n)) H) : rIndexT K (.ref p) [vn n] H Q :=
  ⟨p, _, vn n, xs.idxOf n, vn n, rfl, rfl, h, rfl, flat_vn, (idx_facts hm).1, (beq_self_eq_true (n : Int) : _), (idx_facts hm).2, q⟩
theorem x_setN (h : H p = some (.lst (xs.map vn))) (e : i = (n : Int)) (hn : n < xs.length) {R : Hp → Prop} (q : R (upd H p (.lst ((xs.set n m).map vn)))) : rSetL (.ref p) (.int i) (vn m) H R := by
  refine ⟨p, _, i, n, rfl, rfl, h, ?_, ?_⟩
  · rw [e, List.length_map]
    unfold ixN
    rw [if_pos (by omega)]
    simp
    exact hn
  · rw [← List.map_set]
    exact q
theorem x_chain {r r' : R2} {tc : TE} (q : ta σ H fun x H1 => tb σ H1 fun y H2 => r x y H2 fun z H3 => ∃ k, z = .bl k ∧ (if k = true then tc σ H3 fun w' H4 => r' y w' H4 Q else Q (.bl false) H3)) : tChain r r' ta tb tc σ H Q := q
theorem x_orV (q : ta σ H fun x H1 => ∃ c, x = .bl c ∧ if c = true then Q (.bl true) H1 else tb σ H1 Q) : tOrV ta tb σ H Q := q
theorem x_andV (q : ta σ H fun x H1 => ∃ c, x = .bl c ∧ if c = true then tb σ H1 Q else Q (.bl false) H1) : tAndV ta tb σ H Q := q
theorem x_notV (q : ta σ H fun x H1 => ∃ c, x = .bl c ∧ Q (.bl (!c)) H1) : tNotV ta σ H Q := q
theorem x_sub {ti : TE} {ts : TSet} {R : L2.St → Hp → Prop} (q : to σ H fun o H1 => ti σ H1 fun i H2 => ts o i v H2 fun H3 => R σ H3) : gSub to ti ts v σ H R := q
theorem x_dsetd {td ty tx : TE} (q : td σ H fun x H1 => ∃ a, x = .ref a ∧ IsD H1 a ∧ ty σ H1 fun y H2 => tx σ H2 fun z H3 => ∃ (kvs : List (Key × V)) (k : Key), H3 a = some (.dK kvs) ∧ y = kV k ∧ kvs.length < sizeLine ∧ (∀ v, valV kvs k = some v → Q v H3) ∧ (valV kvs k = none → Q z (upd H3 a (.dK (putK kvs k z))))) : tDSetd td ty tx σ H Q := q
theorem x_lstRg1 (q : te σ H fun x H1 => ∃ k, x = .int k ∧ (RgOk 0 k ∧ ∀ q, H1 q = none → Q (.ref q) (upd H1 q (.lst (rgV 0 k))))) : tLstRg (tRg1 te) σ H Q := q
theorem rgV_nat (n : Nat) : rgV 0 (n : Int) = (List.range n).map vn := by
  unfold rgV
  rw [show ((n : Int) - 0).toNat = n by omega]
  refine List.map_congr_left fun k _ => ?_
  show V.int (0 + (k : Int)) = V.int (k : Int)
  rw [Int.zero_add]
/-- list(range(n)) -/
theorem x_lstRgN (q : te σ H fun x H1 => ∃ n : Nat, x = vn n ∧ n ≤ 1000000 ∧ ∀ q, H1 q = none → Q (.ref q) (upd H1 q (.lst ((List.range n).map vn)))) (hm : ∀ {σ H} {R R' : VK}, (∀ x H, R x H → R' x H) → te σ H R → te σ H R') : tLstRg (tRg1 te) σ H Q := by
  refine hm (fun x H1 ⟨n, e, hn, q⟩ => ?_) q
  refine ⟨n, e, RgOk.of_le (by omega) (by omega) (by omega) (by omega), ?_⟩
  rw [rgV_nat]
  exact q
end

theorem x_ndec {p : Prop} [Decidable p] {A B : Prop} (a : ¬ p → A) (b : p → B) : if (!decide p) = true then A else B := by
  by_cases h : p
  · rw [decide_eq_true h]
    exact iteF (b h)
  · rw [decide_eq_false h]
    exact iteT (a h)
theorem vint_iff {i j : Int} : V.int i = V.int j ↔ i = j := ⟨fun e => by injection e, fun e => by rw [e]⟩
theorem x_decI {i j : Int} {A B : Prop} (a : i = j → A) (b : ¬ i = j → B) : if decide (V.int i = V.int j) = true then A else B := x_dec (fun h => a (vint_iff.mp h)) fun h => b fun e => h (vint_iff.mpr e)
theorem x_ndecI {i j : Int} {A B : Prop} (a : ¬ i = j → A) (b : i = j → B) : if (!decide (V.int i = V.int j)) = true then A else B := x_ndec (fun h => a fun e => h (vint_iff.mpr e)) fun h => b (vint_iff.mp h)
/-! ### loops over enumerate, zip -/
def LoopE (K : PySem.W.Frag) (a : Addr) (g : TG) (tb : TS) (D : Ends) (σ : L2.St) (H : Hp) : Prop :=
  ∃ W : Nat → Nat → L2.St → Hp → Prop, (∃ m, W 0 m σ H) ∧ ∀ i m σ H, W i m σ H →
    ((Ite K a).stop i H ∧ D.nx σ H) ∨ ((Ite K a).go i H ∧ ∃ N : L2.St → Hp → Prop, (∀ σ' H', N σ' H' → ∃ m', m' < m ∧ W (i + 1) m' σ' H') ∧ ∀ x H', (Ite K a).yld i H x H' → g x σ H' fun σ2 H2 => tb { D with nx := N, ct := N, bk := D.nx } σ2 H2)
section
variable {σ : L2.St} {H : Hp} {g : TG} {tb : TS} {D : Ends} {K : PySem.W.Frag} {ta : TA} {tl : TE}
theorem x_forE (q : ta σ H fun vs H1 => ∃ a xs, vs = [.ref a] ∧ SqL K H1 a xs ∧ LoopE K a g tb D σ H1) : tFor (iEnum K ta) g tb D σ H := q
/-- two names at once -/
def g2 (K : PySem.W.Frag) (i j : Nat) : TG := gTup K 2 (gCons (gName i) (gCons (gName j) gNil))
theorem g2_by {i j : Nat} {t : Addr} {u v : V} {R : L2.St → Hp → Prop} (h : H t = some (.tup [u, v])) (q : R ((σ.set i (some u)).set j (some v)) H) : g2 K i j (.ref t) σ H R :=
  ⟨t, [u, v], rfl, SqT.of h, rfl, u, [v], rfl, v, [], rfl, rfl, q⟩
theorem loopE_foldl {S α : Type} {a : Addr} {us : List V} {xs : List α} {p q : Nat} (hl : us.length = xs.length) (f : S → Nat → α → S) (I : Nat → S → L2.St → Hp → Prop) (s0 : S) (h0 : I 0 s0 σ H) (hS : ∀ i s σ H, I i s σ H → SqL K H a us)
    (hs : ∀ (s : S) (i : Nat) (x : α) (u : V) (t : Addr) (σ : L2.St) (H : Hp), xs[i]? = some x → us[i]? = some u → I i s σ H → H t = none → tb { D with nx := I (i + 1) (f s i x), ct := I (i + 1) (f s i x), bk := D.nx } ((σ.set p (some (vn i))).set q (some u)) (upd H t (.tup [vn i, u])))
    (hd : ∀ σ H s, I xs.length s σ H → s = (xs.zipIdx.foldl (fun s z => f s z.2 z.1) s0) → D.nx σ H) : LoopE K a (g2 K p q) tb D σ H := by
  refine ⟨fun i m σ H => m = xs.length - i ∧ i ≤ xs.length ∧ ∃ s, s = ((xs.take i).zipIdx.foldl (fun s z => f s z.2 z.1) s0) ∧ I i s σ H, ⟨_, rfl, Nat.zero_le _, s0, rfl, h0⟩, ?_⟩
  rintro i m σ H ⟨rfl, hi, s, es, pI⟩
  have hq := hS i s σ H pI
  by_cases hlt : i < xs.length
  · have hlt2 : i < us.length := by omega
    refine .inr ⟨⟨us, us[i], hq, List.getElem?_eq_getElem hlt2⟩, I (i + 1) (f s i xs[i]), fun σ' H' p' => ⟨xs.length - (i + 1), by omega, rfl, hlt, _, ?_, p'⟩, fun x H' yl => ?_⟩
    · rw [List.take_add_one, List.getElem?_eq_getElem hlt]
      show _ = ((xs.take i ++ [xs[i]]).zipIdx.foldl _ s0)
      rw [List.zipIdx_append, List.foldl_append, ← es, List.length_take, Nat.min_eq_left (Nat.le_of_lt hlt)]
      simp
    · obtain ⟨t, x, rfl, ht, rfl, hx⟩ := yl
      exact g2_by upd_same (hs s i xs[i] x t σ H (List.getElem?_eq_getElem hlt) (hx us hq) pI ht)
  · have e : i = xs.length := by omega
    subst e
    rw [List.take_length] at es
    exact .inl ⟨⟨us, hq, by omega⟩, hd σ H s pI es⟩
theorem loopM_foldl {S α β : Type} {a b : Addr} {us ws : List V} {xs : List α} {ys : List β} {p q : Nat} (hl : us.length = xs.length) (hl2 : ws.length = ys.length) (hl3 : xs.length = ys.length) (f : S → α → β → S) (I : S → L2.St → Hp → Prop) (s0 : S) (h0 : I s0 σ H) (hS : ∀ s σ H, I s σ H → SqL K H a us ∧ SqT K H b ws)
    (hs : ∀ (s : S) (i : Nat) (x : α) (y : β) (u w : V) (t : Addr) (σ : L2.St) (H : Hp), xs[i]? = some x → us[i]? = some u → ys[i]? = some y → ws[i]? = some w → I s σ H → H t = none → tb { D with nx := I (f s x y), ct := I (f s x y), bk := D.nx } ((σ.set p (some u)).set q (some w)) (upd H t (.tup [u, w])))
    (hd : ∀ σ H, I ((xs.zip ys).foldl (fun s z => f s z.1 z.2) s0) σ H → D.nx σ H) : LoopM K a b (g2 K p q) tb D σ H := by
  refine loopM_by (xs := us) (ys := ws) (by omega) (fun i σ H => I (((xs.zip ys).take i).foldl (fun s z => f s z.1 z.2) s0) σ H) h0 (fun i σ H h => hS _ σ H h) (fun i u w t σ H hu hw hI ht => ?_) (fun σ H h => hd σ H ?_)
  · have h1 := (List.getElem?_eq_some_iff.mp hu).1
    have hx : xs[i]? = some xs[i] := List.getElem?_eq_getElem (by omega)
    have hy : ys[i]? = some ys[i] := List.getElem?_eq_getElem (by omega)
    have hz : (xs.zip ys)[i]? = some (xs[i], ys[i]) := by
      rw [List.getElem?_zip_eq_some]
      exact ⟨hx, hy⟩
    rw [List.take_add_one, hz]
    show g2 K p q (.ref t) σ _ _
    rw [show ((xs.zip ys).take i ++ (some (xs[i], ys[i])).toList).foldl (fun s z => f s z.1 z.2) s0 = f (((xs.zip ys).take i).foldl (fun s z => f s z.1 z.2) s0) xs[i] ys[i] by rw [List.foldl_append]; rfl]
    exact g2_by upd_same (hs _ i _ _ u w t σ H hx hu hy hw hI ht)
  · have : (xs.zip ys).length ≤ us.length := by rw [List.length_zip]; omega
    rw [List.take_of_length_le this] at h
    exact h
/-- over two tuples -/
def LoopZ (K : PySem.W.Frag) (a b : Addr) (g : TG) (tb : TS) (D : Ends) (σ : L2.St) (H : Hp) : Prop :=
  ∃ W : Nat → Nat → L2.St → Hp → Prop, (∃ m, W 0 m σ H) ∧ ∀ i m σ H, W i m σ H →
    ((RZ.ItzT K a b).stop i H ∧ D.nx σ H) ∨ ((RZ.ItzT K a b).go i H ∧ ∃ N : L2.St → Hp → Prop, (∀ σ' H', N σ' H' → ∃ m', m' < m ∧ W (i + 1) m' σ' H') ∧ ∀ x H', (RZ.ItzT K a b).yld i H x H' → g x σ H' fun σ2 H2 => tb { D with nx := N, ct := N, bk := D.nx } σ2 H2)
theorem x_forZT (q : ta σ H fun vs H1 => ∃ a b xs ys, vs = [.ref a, .ref b] ∧ SqT K H1 a xs ∧ SqT K H1 b ys ∧ LoopZ K a b g tb D σ H1) (hm : ∀ {σ H} {R R' : List V → Hp → Prop}, (∀ x H, R x H → R' x H) → ta σ H R → ta σ H R') : tFor (RZ.iZipA K ta) g tb D σ H :=
  hm (fun vs H1 ⟨a, b, xs, ys, e, h1, h2, r⟩ => ⟨a, b, xs, ys, e, .inr ⟨h1, h2, r⟩⟩) q
theorem loopZ_foldl {S α β : Type} {a b : Addr} {us ws : List V} {xs : List α} {ys : List β} {p q : Nat} (hl : us.length = xs.length) (hl2 : ws.length = ys.length) (hl3 : xs.length = ys.length) (f : S → α → β → S) (I : S → L2.St → Hp → Prop) (s0 : S) (h0 : I s0 σ H) (hS : ∀ s σ H, I s σ H → SqT K H a us ∧ SqT K H b ws)
    (hs : ∀ (s : S) (i : Nat) (x : α) (y : β) (u w : V) (t : Addr) (σ : L2.St) (H : Hp), xs[i]? = some x → us[i]? = some u → ys[i]? = some y → ws[i]? = some w → I s σ H → H t = none → tb { D with nx := I (f s x y), ct := I (f s x y), bk := D.nx } ((σ.set p (some u)).set q (some w)) (upd H t (.tup [u, w])))
    (hd : ∀ σ H, I ((xs.zip ys).foldl (fun s z => f s z.1 z.2) s0) σ H → D.nx σ H) : LoopZ K a b (g2 K p q) tb D σ H := by
  refine ⟨fun i m σ H => m = xs.length - i ∧ i ≤ xs.length ∧ I (((xs.zip ys).take i).foldl (fun s z => f s z.1 z.2) s0) σ H, ⟨_, rfl, Nat.zero_le _, h0⟩, ?_⟩
  rintro i m σ H ⟨rfl, hi, pI⟩
  obtain ⟨q1, q2⟩ := hS _ σ H pI
  by_cases hlt : i < xs.length
  · have hx : xs[i]? = some xs[i] := List.getElem?_eq_getElem hlt
    have hy : ys[i]? = some ys[i] := List.getElem?_eq_getElem (by omega)
    have hz : (xs.zip ys)[i]? = some (xs[i], ys[i]) := by
      rw [List.getElem?_zip_eq_some]
      exact ⟨hx, hy⟩
    have et : ((xs.zip ys).take (i + 1)).foldl (fun s z => f s z.1 z.2) s0 = f (((xs.zip ys).take i).foldl (fun s z => f s z.1 z.2) s0) xs[i] ys[i] := by
      rw [List.take_add_one, hz, List.foldl_append]
      rfl
    refine .inr ⟨⟨us, ws, us[i]'(by omega), ws[i]'(by omega), q1, q2, List.getElem?_eq_getElem (by omega), List.getElem?_eq_getElem (by omega)⟩, I (f (((xs.zip ys).take i).foldl (fun s z => f s z.1 z.2) s0) xs[i] ys[i]), fun σ' H' p' => ⟨xs.length - (i + 1), by omega, rfl, hlt, ?_⟩, fun v H' y => ?_⟩
    · rw [et]
      exact p'
    · obtain ⟨t, u, w, rfl, ht, rfl, h1, h2⟩ := y
      exact g2_by upd_same (hs _ i _ _ u w t σ H hx (h1 us q1) hy (h2 ws q2) pI ht)
  · have e : i = xs.length := by omega
    subst e
    have : (xs.zip ys).length ≤ xs.length := by rw [List.length_zip]; omega
    rw [List.take_of_length_le this] at pI
    exact .inl ⟨⟨us, ws, q1, q2, .inl (by omega)⟩, hd σ H pI⟩
end
theorem accOf_all {α : Type} (v : α → V) (xs : List α) : accOf (fun _ => true) v xs = xs.map v := by
  unfold accOf
  rw [List.filter_eq_self.mpr fun _ _ => rfl]
theorem zipIdx_range {S α : Type} (f : S → Nat → S) : ∀ (xs : List α) (k : Nat) (s : S), (xs.zipIdx k).foldl (fun s z => f s z.2) s = (List.range' k xs.length).foldl f s
  | [], _, _ => rfl
  | x :: r, k, s => by
    rw [List.zipIdx_cons, List.length_cons, List.range'_succ, List.foldl_cons, List.foldl_cons]
    exact zipIdx_range f r (k + 1) (f s k)
theorem paired_map {α β γ : Type} {F : α → β → Prop} (xs : List γ) (f : γ → α) (g : γ → β) (h : ∀ x ∈ xs, F (f x) (g x)) : Paired F (xs.map f) (xs.map g) := by
  induction xs with
  | nil => exact .nil
  | cons x t ih => exact .cons (h x List.mem_cons_self) (ih fun y hy => h y (List.mem_cons_of_mem _ hy))
theorem zipIdx_gt (xs : List Nat) : xs.zipIdx = (List.range xs.length).map fun i => (gt xs i, i) := by
  refine List.ext_getElem? fun i => ?_
  by_cases h : i < xs.length
  · rw [List.getElem?_zipIdx, List.getElem?_map, List.getElem?_range h, List.getElem?_eq_getElem h]
    show some (xs[i], 0 + i) = some (gt xs i, i)
    rw [Nat.zero_add, gt_of (List.getElem?_eq_getElem h)]
  · rw [List.getElem?_eq_none (by rw [List.length_zipIdx]; omega), List.getElem?_eq_none (by rw [List.length_map, List.length_range]; omega)]
section
variable {σ : L2.St} {H : Hp} {tt : TT} {te : TE} {vs : List Nat} {Q : VK} {K : PySem.W.Frag}
theorem vn_of {xs : List Nat} {i x : Nat} {u : V} (hx : xs[i]? = some x) (hu : (xs.map vn)[i]? = some u) : u = vn x := by
  rw [List.getElem?_map, hx] at hu
  exact (Option.some.inj hu).symm
theorem accOf_nat (p : Nat → Bool) (v : Nat → Nat) (xs : List Nat) : accOf p (fun z => vn (v z)) xs = ((xs.filter p).map v).map vn := by
  unfold accOf
  rw [List.map_map]
  rfl
/-- [v for x in xs if p], ints -/
theorem compL_nat {j : Nat} {a : Addr} {xs : List Nat} (hS : SqL K H a (xs.map vn)) (hn : xs.length < 100000) (p : Nat → Bool) (v : Nat → Nat) (hw : ∀ x, wipe ((wipe σ vs).set j (some x)) vs = wipe σ vs)
    (ht : ∀ (x : Nat) (H' : Hp), x ∈ xs → Ex H H' → ∀ Qt : Bool → Hp → Prop, (∀ H3, Ex H' H3 → Qt (p x) H3) → tt ((wipe σ vs).set j (some (vn x))) H' Qt)
    (he : ∀ (x : Nat) (H' : Hp), x ∈ xs → p x = true → Ex H H' → ∀ Qe : VK, (∀ H4, Ex H' H4 → Qe (vn (v x)) H4) → te ((wipe σ vs).set j (some (vn x))) H' Qe)
    (hQ : ∀ Dl H', H Dl = none → Ex H H' → H' Dl = some (.lst (((xs.filter p).map v).map vn)) → Q (.ref Dl) H') : CompL K a (gName j) tt te vs σ H Q := by
  refine compL_map (xs := xs) hS (List.length_map _) hn p (fun z => vn (v z)) hw (fun i x u H' hx hu e Qt qt => ?_) (fun i x u H' hx hu hp e Qe qe => ?_) (fun Dl H' hD e hl => hQ Dl H' hD e (by rw [hl, accOf_nat]))
  · rw [vn_of hx hu]
    exact ht x H' (List.mem_of_getElem? hx) e Qt qt
  · rw [vn_of hx hu]
    exact he x H' (List.mem_of_getElem? hx) hp e Qe qe
theorem compT_nat {j : Nat} {a : Addr} {xs : List Nat} (hS : SqT K H a (xs.map vn)) (hn : xs.length < 100000) (p : Nat → Bool) (v : Nat → Nat) (hw : ∀ x, wipe ((wipe σ vs).set j (some x)) vs = wipe σ vs)
    (ht : ∀ (x : Nat) (H' : Hp), x ∈ xs → Ex H H' → ∀ Qt : Bool → Hp → Prop, (∀ H3, Ex H' H3 → Qt (p x) H3) → tt ((wipe σ vs).set j (some (vn x))) H' Qt)
    (he : ∀ (x : Nat) (H' : Hp), x ∈ xs → p x = true → Ex H H' → ∀ Qe : VK, (∀ H4, Ex H' H4 → Qe (vn (v x)) H4) → te ((wipe σ vs).set j (some (vn x))) H' Qe)
    (hQ : ∀ Dl H', H Dl = none → Ex H H' → H' Dl = some (.lst (((xs.filter p).map v).map vn)) → Q (.ref Dl) H') : CompT K a (gName j) tt te vs σ H Q := by
  refine compT_map (xs := xs) hS (List.length_map _) hn p (fun z => vn (v z)) hw (fun i x u H' hx hu e Qt qt => ?_) (fun i x u H' hx hu hp e Qe qe => ?_) (fun Dl H' hD e hl => hQ Dl H' hD e (by rw [hl, accOf_nat]))
  · rw [vn_of hx hu]
    exact ht x H' (List.mem_of_getElem? hx) e Qt qt
  · rw [vn_of hx hu]
    exact he x H' (List.mem_of_getElem? hx) hp e Qe qe
theorem filter_all {α : Type} (xs : List α) : xs.filter (fun _ => true) = xs := List.filter_eq_self.mpr fun _ _ => rfl
end
theorem x_ite2 {σ : L2.St} {H : Hp} {ta tb : TE} {c : Bool} {R : VK} (v : V) (h1 : c = true → ∀ R' : VK, R' v H → ta σ H R') (h2 : c = false → ∀ R' : VK, R' v H → tb σ H R') (q : R v H) : if c = true then ta σ H R else tb σ H R := by
  cases c with
  | true => exact iteT (h1 rfl R q)
  | false => exact iteF (h2 rfl R q)
/-- tuple(x), x a list -/
theorem x_tupOf {K : PySem.W.Frag} {H : Hp} {Q : VK} {p : Addr} {ys : List V} (h : SqL K H p ys) (q : ∀ l, H l = none → Q (.ref l) (upd H l (.tup ys))) : ∃ p' ys', [V.ref p] = [V.ref p'] ∧ ((SqL K H p' ys' ∧ ∀ l, H l = none → Q (.ref l) (upd H l (.tup ys'))) ∨ (SqT K H p' ys' ∧ Q (.ref p') H)) := ⟨p, ys, rfl, .inl ⟨h, q⟩⟩
theorem TyO.k {K : PySem.W.Frag} {H : Hp} {p : Addr} {o : Obj} {n : String} (e : K.lookup p = some o) (c : o.cls = .type n) (d : o.dict = none) : TyO n K (.ref p) H := ⟨p, o, rfl, .inr e, c, d⟩
section
variable {σ : L2.St} {H : Hp} {g : TG} {tb : TS} {D : Ends} {K : PySem.W.Frag}
/-- a loop over a list that folds, the turn's number told -/
theorem loopL_foldi {S α : Type} {a : Addr} {us : List V} {xs : List α} (hl : us.length = xs.length) (f : S → α → S) (I : Nat → S → L2.St → Hp → Prop) (s0 : S) (h0 : I 0 s0 σ H) (hS : ∀ i s σ H, I i s σ H → SqL K H a us)
    (hs : ∀ (s : S) (i : Nat) (x : α) (u : V) (σ : L2.St) (H : Hp), xs[i]? = some x → us[i]? = some u → I i s σ H → g u σ H fun σ2 H2 => tb { D with nx := I (i + 1) (f s x), ct := I (i + 1) (f s x), bk := D.nx } σ2 H2) (hd : ∀ σ H, I xs.length (xs.foldl f s0) σ H → D.nx σ H) : LoopL K a g tb D σ H := by
  refine for_list (xs := us) (fun i σ H => I i ((xs.take i).foldl f s0) σ H) h0 (fun i σ H _ h => hS _ _ _ _ h) (fun i u σ H hu h => ?_) (fun σ H h => hd σ H ?_)
  · have hi : i < xs.length := by
      rw [← hl]
      exact (List.getElem?_eq_some_iff.mp hu).1
    have hx : xs[i]? = some xs[i] := List.getElem?_eq_getElem hi
    have e : (xs.take (i + 1)).foldl f s0 = f ((xs.take i).foldl f s0) xs[i] := by
      rw [List.take_add_one, hx, List.foldl_append]
      rfl
    have q := hs _ i xs[i] u σ H hx hu h
    rw [e]
    exact q
  · rw [hl, List.take_of_length_le (Nat.le_refl _)] at h
    exact h
theorem loopT_foldi {S α : Type} {a : Addr} {us : List V} {xs : List α} (hl : us.length = xs.length) (f : S → α → S) (I : Nat → S → L2.St → Hp → Prop) (s0 : S) (h0 : I 0 s0 σ H) (hS : ∀ i s σ H, I i s σ H → SqT K H a us)
    (hs : ∀ (s : S) (i : Nat) (x : α) (u : V) (σ : L2.St) (H : Hp), xs[i]? = some x → us[i]? = some u → I i s σ H → g u σ H fun σ2 H2 => tb { D with nx := I (i + 1) (f s x), ct := I (i + 1) (f s x), bk := D.nx } σ2 H2) (hd : ∀ σ H, I xs.length (xs.foldl f s0) σ H → D.nx σ H) : LoopT K a g tb D σ H := by
  refine for_tup (xs := us) (fun i σ H => I i ((xs.take i).foldl f s0) σ H) h0 (fun i σ H _ h => hS _ _ _ _ h) (fun i u σ H hu h => ?_) (fun σ H h => hd σ H ?_)
  · have hi : i < xs.length := by
      rw [← hl]
      exact (List.getElem?_eq_some_iff.mp hu).1
    have hx : xs[i]? = some xs[i] := List.getElem?_eq_getElem hi
    have e : (xs.take (i + 1)).foldl f s0 = f ((xs.take i).foldl f s0) xs[i] := by
      rw [List.take_add_one, hx, List.foldl_append]
      rfl
    have q := hs _ i xs[i] u σ H hx hu h
    rw [e]
    exact q
  · rw [hl, List.take_of_length_le (Nat.le_refl _)] at h
    exact h
theorem loopR_foldi {S : Type} {lo : Int} {n : Nat} (f : S → Nat → S) (I : Nat → S → L2.St → Hp → Prop) (s0 : S) (h0 : I 0 s0 σ H)
    (hs : ∀ s i σ H, i < n → I i s σ H → g (.int (lo + (i : Nat))) σ H fun σ2 H2 => tb { D with nx := I (i + 1) (f s i), ct := I (i + 1) (f s i), bk := D.nx } σ2 H2) (hd : ∀ σ H, I n ((List.range n).foldl f s0) σ H → D.nx σ H) : LoopR lo n g tb D σ H := by
  refine for_range (fun i σ H => I i ((List.range i).foldl f s0) σ H) h0 (fun i σ H hi h => ?_) (fun σ H h => hd σ H h)
  have q := hs _ i σ H hi h
  rw [List.range_succ, List.foldl_append]
  exact q
end
def LoopZL (K : PySem.W.Frag) (a b : Addr) (g : TG) (tb : TS) (D : Ends) (σ : L2.St) (H : Hp) : Prop :=
  ∃ W : Nat → Nat → L2.St → Hp → Prop, (∃ m, W 0 m σ H) ∧ ∀ i m σ H, W i m σ H →
    ((Itz K a b).stop i H ∧ D.nx σ H) ∨ ((Itz K a b).go i H ∧ ∃ N : L2.St → Hp → Prop, (∀ σ' H', N σ' H' → ∃ m', m' < m ∧ W (i + 1) m' σ' H') ∧ ∀ x H', (Itz K a b).yld i H x H' → g x σ H' fun σ2 H2 => tb { D with nx := N, ct := N, bk := D.nx } σ2 H2)
theorem x_forZA {K : PySem.W.Frag} {ta : TA} {g : TG} {tb : TS} {D : Ends} {σ : L2.St} {H : Hp} (q : ta σ H fun vs H1 => ∃ a b xs ys, vs = [.ref a, .ref b] ∧ ((SqL K H1 a xs ∧ SqL K H1 b ys ∧ LoopZL K a b g tb D σ H1) ∨ (SqT K H1 a xs ∧ SqT K H1 b ys ∧ LoopZ K a b g tb D σ H1))) : tFor (RZ.iZipA K ta) g tb D σ H := q
theorem rep_vn (n m : Nat) : (List.replicate n [vn m]).flatten = (List.replicate n m).map vn := by
  rw [List.map_replicate]
  induction n with
  | zero => rfl
  | succ n ih => rw [List.replicate_succ, List.replicate_succ, List.flatten_cons, ih]; rfl
theorem perm_srt : ∀ xs : List Nat, (srt xs).Perm xs ∧ (srt xs).Pairwise (· ≤ ·)
  | [] => ⟨.refl _, .nil⟩
  | x :: t => by
    obtain ⟨h1, h2⟩ := perm_srt t
    have hp : ∀ ys : List Nat, (ins x ys).Perm (x :: ys) := by
      intro ys
      induction ys with
      | nil => exact .refl _
      | cons y ys ih =>
        show (if x ≤ y then x :: y :: ys else y :: ins x ys).Perm _
        split
        · exact .refl _
        · exact (List.Perm.cons y ih).trans (List.Perm.swap x y ys)
    have hs : ∀ ys : List Nat, ys.Pairwise (· ≤ ·) → (ins x ys).Pairwise (· ≤ ·) := by
      intro ys
      induction ys with
      | nil => intro _; exact List.pairwise_singleton _ _
      | cons y ys ih =>
        intro h
        show (if x ≤ y then x :: y :: ys else y :: ins x ys).Pairwise _
        rw [List.pairwise_cons] at h
        split
        · rename_i hxy
          refine List.pairwise_cons.mpr ⟨fun z hz => ?_, List.pairwise_cons.mpr h⟩
          rcases List.mem_cons.mp hz with e | e
          · rw [e]; exact hxy
          · exact Nat.le_trans hxy (h.1 z e)
        · rename_i hxy
          refine List.pairwise_cons.mpr ⟨fun z hz => ?_, ih h.2⟩
          have hz' := (hp ys).mem_iff.mp hz
          rcases List.mem_cons.mp hz' with e | e
          · rw [e]; omega
          · exact h.1 z e
    exact ⟨(hp _).trans (.cons x h1), hs _ h2⟩
theorem srt_int {xs : List Nat} {ns : List Int} (hp : ns.Perm (xs.map fun (n : Nat) => (n : Int))) (hs : ns.Pairwise (· ≤ ·)) : ns.map V.int = (srt xs).map vn := by
  obtain ⟨h1, h2⟩ := perm_srt xs
  have e1 := PySem.W.Srt.up hp hs
  have e2 := PySem.W.Srt.up (h1.map fun (n : Nat) => (n : Int)) (by rw [List.pairwise_map]; exact h2.imp fun h => by omega)
  rw [e1, ← e2, List.map_map]
  rfl
section
variable {σ : L2.St} {H : Hp} {g : TG} {tb : TS} {D : Ends} {K : PySem.W.Frag}
theorem loopR_foldo {S : Type} {lo : Int} {n : Nat} (f : S → Nat → Option S) (I : Nat → S → L2.St → Hp → Prop) {s0 sN : S} (hN : (List.range n).foldlM f s0 = some sN) (h0 : I 0 s0 σ H)
    (hs : ∀ s i s' σ H, i < n → f s i = some s' → I i s σ H → g (.int (lo + (i : Nat))) σ H fun σ2 H2 => tb { D with nx := I (i + 1) s', ct := I (i + 1) s', bk := D.nx } σ2 H2) (hd : ∀ σ H, I n sN σ H → D.nx σ H) : LoopR lo n g tb D σ H := by
  refine for_range (fun i σ H => ∃ s, ((List.range n).take i).foldlM f s0 = some s ∧ I i s σ H) ⟨s0, rfl, h0⟩ (fun i σ H hi ⟨s, e, p⟩ => ?_) (fun σ H ⟨s, e, p⟩ => ?_)
  · obtain ⟨s', e1, e2⟩ := fold_pre hN (List.getElem?_range hi) e
    have e4 : (fun σ H => ∃ s, ((List.range n).take (i + 1)).foldlM f s0 = some s ∧ I (i + 1) s σ H) = I (i + 1) s' := by
      funext σ H
      exact propext ⟨fun ⟨s, a, b⟩ => by rw [e2] at a; cases a; exact b, fun z => ⟨s', e2, z⟩⟩
    rw [e4]
    exact hs s i s' σ H hi e1 p
  · rw [List.take_of_length_le (by rw [List.length_range]; exact Nat.le_refl _), hN] at e
    cases e
    exact hd σ H p
theorem loopL_foldo {S α : Type} {a : Addr} {us : List V} {xs : List α} (hl : us.length = xs.length) (f : S → α → Option S) (I : Nat → S → L2.St → Hp → Prop) {s0 sN : S} (hN : xs.foldlM f s0 = some sN) (h0 : I 0 s0 σ H) (hS : ∀ i s σ H, I i s σ H → SqL K H a us)
    (hs : ∀ (s : S) (i : Nat) (x : α) (u : V) (s' : S) (σ : L2.St) (H : Hp), xs[i]? = some x → us[i]? = some u → f s x = some s' → I i s σ H → g u σ H fun σ2 H2 => tb { D with nx := I (i + 1) s', ct := I (i + 1) s', bk := D.nx } σ2 H2) (hd : ∀ σ H, I xs.length sN σ H → D.nx σ H) : LoopL K a g tb D σ H := by
  refine for_list (xs := us) (fun i σ H => ∃ s, (xs.take i).foldlM f s0 = some s ∧ I i s σ H) ⟨s0, rfl, h0⟩ (fun i σ H _ ⟨s, _, p⟩ => hS i s σ H p) (fun i u σ H hu ⟨s, e, p⟩ => ?_) (fun σ H ⟨s, e, p⟩ => ?_)
  · have hi : i < xs.length := by
      rw [← hl]
      exact (List.getElem?_eq_some_iff.mp hu).1
    have hx : xs[i]? = some xs[i] := List.getElem?_eq_getElem hi
    obtain ⟨s', e1, e2⟩ := fold_pre hN hx e
    have e4 : (fun σ H => ∃ s, (xs.take (i + 1)).foldlM f s0 = some s ∧ I (i + 1) s σ H) = I (i + 1) s' := by
      funext σ H
      exact propext ⟨fun ⟨s, a, b⟩ => by rw [e2] at a; cases a; exact b, fun z => ⟨s', e2, z⟩⟩
    rw [e4]
    exact hs s i xs[i] u s' σ H hx hu e1 p
  · rw [hl] at p
    rw [hl, List.take_of_length_le (Nat.le_refl _), hN] at e
    cases e
    exact hd σ H p
end
section
variable {σ : L2.St} {H : Hp} {K : PySem.W.Frag} {te : TE} {t : TA} {Q : VK}
theorem x_star {Q : List V → Hp → Prop} (q : te σ H fun x H1 => ∃ p xs, x = V.ref p ∧ (SqT K H1 p xs ∨ SqL K H1 p xs) ∧ t σ H1 fun ys H2 => Q (xs ++ ys) H2) : StX.tStar K te t σ H Q := q
theorem x_sl {r : V → Option Int → Option Int → Hp → VK → Prop} {tl th : TO} (q : te σ H fun x H1 => tl σ H1 fun l H2 => th σ H2 fun u H3 => r x l u H3 Q) : tSl r te tl th σ H Q := q
theorem x_po {Q : Option Int → Hp → Prop} (q : te σ H fun x H1 => ∃ i, x = .int i ∧ Q (some i) H1) : tPart te σ H Q := q
theorem x_pn {Q : Option Int → Hp → Prop} (q : Q none H) : tNoPart σ H Q := q
theorem cut_from (xs : List V) (k : Nat) : cutV xs (some (k : Int)) none = xs.drop k := by
  unfold cutV
  rw [HT.sIx_nat, HT.sIx_none, List.take_of_length_le (by rw [List.length_drop]; omega)]
  by_cases h : k ≤ xs.length
  · rw [Nat.min_eq_left h]
  · rw [Nat.min_eq_right (by omega), List.drop_of_length_le (Nat.le_refl _), List.drop_of_length_le (by omega)]
theorem cut_to (xs : List V) (k : Nat) : cutV xs none (some (k : Int)) = xs.take k := by
  unfold cutV
  rw [HT.sIx_nat, HT.sIx_none, List.drop_zero, Nat.sub_zero]
  by_cases h : k ≤ xs.length
  · rw [Nat.min_eq_left h]
  · rw [Nat.min_eq_right (by omega), List.take_of_length_le (Nat.le_refl _), List.take_of_length_le (by omega)]
end
theorem g4_by {K : PySem.W.Frag} {σ : L2.St} {H : Hp} {n i j k m : Nat} {t : Addr} {u v w z : V} {R : L2.St → Hp → Prop} (hn : n = 4) (h : H t = some (.tup [u, v, w, z])) (q : R ((((σ.set i (some u)).set j (some v)).set k (some w)).set m (some z)) H) :
    gTup K n (gCons (gName i) (gCons (gName j) (gCons (gName k) (gCons (gName m) gNil)))) (.ref t) σ H R := by
  subst hn
  exact ⟨t, [u, v, w, z], rfl, SqT.of h, rfl, u, _, rfl, v, _, rfl, w, _, rfl, z, [], rfl, rfl, q⟩
theorem g3_by {K : PySem.W.Frag} {σ : L2.St} {H : Hp} {n i j k : Nat} {t : Addr} {u v w : V} {R : L2.St → Hp → Prop} (hn : n = 3) (h : H t = some (.tup [u, v, w])) (q : R (((σ.set i (some u)).set j (some v)).set k (some w)) H) :
    gTup K n (gCons (gName i) (gCons (gName j) (gCons (gName k) gNil))) (.ref t) σ H R := by
  subst hn
  exact ⟨t, [u, v, w], rfl, SqT.of h, rfl, u, _, rfl, v, _, rfl, w, [], rfl, rfl, q⟩
theorem gg2_by {K : PySem.W.Frag} {σ : L2.St} {H : Hp} {n i j : Nat} {t : Addr} {u v : V} {R : L2.St → Hp → Prop} (hn : n = 2) (h : SqT K H t [u, v]) (q : R ((σ.set i (some u)).set j (some v)) H) :
    gTup K n (gCons (gName i) (gCons (gName j) gNil)) (.ref t) σ H R := by
  subst hn
  exact ⟨t, [u, v], rfl, h, rfl, u, _, rfl, v, [], rfl, rfl, q⟩
theorem x_notT {A B : Prop} (b : B) : if (!true) = true then A else B := iteF b
theorem x_notF {A B : Prop} (a : A) : if (!false) = true then A else B := iteT a
end Pm
end
section
set_option Elab.async false
set_option maxRecDepth 100000
set_option maxHeartbeats 4000000
set_option linter.all false
/-! data of the heap as plain data, for == and index; comprehensions of new objects -/
namespace Pm
open PySem L2
abbrev eN (n : Nat) : PyData := .int (n : Int)
abbrev eL (xs : List Nat) : PyData := .list (xs.map eN)
abbrev eT (xs : List Nat) : PyData := .tuple (xs.map eN)
theorem eqvN : ∀ xs ys : List Nat, PyData.eqvAll (xs.map eN) (ys.map eN) = decide (xs = ys)
  | [], [] => by simp [PyData.eqvAll]
  | [], _ :: _ => by simp [PyData.eqvAll]
  | _ :: _, [] => by simp [PyData.eqvAll]
  | x :: xs, y :: ys => by
    show PyData.eqvAll (eN x :: xs.map eN) (eN y :: ys.map eN) = _
    rw [PyData.eqvAll, eqvN xs ys]
    simp only [PyData.eqv]
    by_cases h : x = y
    · subst h
      simp
    · have : ¬ (x : Int) = (y : Int) := by omega
      simp [h, this]
theorem layN : ∀ xs : List Nat, PyData.canLayAll0 (xs.map eN) = true
  | [] => by simp [PyData.canLayAll0]
  | x :: xs => by
    show PyData.canLayAll0 (eN x :: xs.map eN) = true
    rw [PyData.canLayAll0, layN xs]
    simp [PyData.canLay0]
theorem depN : ∀ xs : List Nat, PyData.depthAll (xs.map eN) = 0
  | [] => by simp [PyData.depthAll]
  | x :: xs => by
    show PyData.depthAll (eN x :: xs.map eN) = 0
    rw [PyData.depthAll, depN xs]
    simp [PyData.depth]
theorem shapedL (xs : List Nat) : SeqAt.shaped (eL xs) = true := by
  unfold SeqAt.shaped
  simp only [PyData.canLay0, PyData.depth, layN, depN]
  decide
theorem shapedT (xs : List Nat) : SeqAt.shaped (eT xs) = true := by
  unfold SeqAt.shaped
  simp only [PyData.canLay0, PyData.depth, layN, depN]
  decide
theorem layT : ∀ ks : List (List Nat), PyData.canLayAll0 (ks.map eT) = true ∧ PyData.depthAll (ks.map eT) ≤ 1
  | [] => by simp [PyData.canLayAll0, PyData.depthAll]
  | k :: ks => by
    show PyData.canLayAll0 (eT k :: ks.map eT) = true ∧ PyData.depthAll (eT k :: ks.map eT) ≤ 1
    obtain ⟨h1, h2⟩ := layT ks
    rw [PyData.canLayAll0, PyData.depthAll, h1]
    simp only [PyData.canLay0, PyData.depth, layN, depN]
    refine ⟨rfl, ?_⟩
    omega
theorem layLs : ∀ ks : List (List Nat), PyData.canLayAll0 (ks.map eL) = true ∧ PyData.depthAll (ks.map eL) ≤ 1
  | [] => by simp [PyData.canLayAll0, PyData.depthAll]
  | k :: ks => by
    show PyData.canLayAll0 (eL k :: ks.map eL) = true ∧ PyData.depthAll (eL k :: ks.map eL) ≤ 1
    obtain ⟨h1, h2⟩ := layLs ks
    rw [PyData.canLayAll0, PyData.depthAll, h1]
    simp only [PyData.canLay0, PyData.depth, layN, depN]
    refine ⟨rfl, ?_⟩
    omega
theorem shapedLT (ks : List (List Nat)) : SeqAt.shaped (.list (ks.map eT)) = true := by
  obtain ⟨h1, h2⟩ := layT ks
  unfold SeqAt.shaped
  simp only [PyData.canLay0, PyData.depth, h1, Bool.true_and]
  exact decide_eq_true (by omega)
theorem shapedLL (ks : List (List Nat)) : SeqAt.shaped (.list (ks.map eL)) = true := by
  obtain ⟨h1, h2⟩ := layLs ks
  unfold SeqAt.shaped
  simp only [PyData.canLay0, PyData.depth, h1, Bool.true_and]
  exact decide_eq_true (by omega)
theorem eqvT (a b : List Nat) : PyData.eqv (eT a) (eT b) = decide (a = b) := by
  simp only [PyData.eqv]
  exact eqvN a b
theorem eqvL (a b : List Nat) : PyData.eqv (eL a) (eL b) = decide (a = b) := by
  simp only [PyData.eqv]
  exact eqvN a b
section
variable {K : PySem.W.Frag} {M : Av} {H : Hp} {v : V} {Q : VK}
theorem dpN : ∀ xs : List Nat, DpAll K H (xs.map vn) (xs.map eN)
  | [] => .nil
  | x :: xs => .cons (.int _) (dpN xs)
theorem dpL {a : Addr} {xs : List Nat} (h : SqL K H a (xs.map vn)) : Dp K H (.ref a) (eL xs) := .lst h (dpN xs)
theorem dpT {a : Addr} {xs : List Nat} (h : SqT K H a (xs.map vn)) : Dp K H (.ref a) (eT xs) := .tup h (dpN xs)
theorem dpT' {xs : List Nat} (h : (rT (rNat K)).rel M H v xs) : Dp K H v (eT xs) := by
  obtain ⟨a, rfl, h1⟩ := rTn h
  exact dpT h1.sq
theorem dpL' {xs : List Nat} (h : (rL (rNat K)).rel M H v xs) : Dp K H v (eL xs) := by
  obtain ⟨a, rfl, h1⟩ := rLn h
  exact dpL h1.sq
theorem dpAllP {α : Type} {r : Rp K α} {e : α → PyData} (hd : ∀ v x, r.rel M H v x → Dp K H v (e x)) : ∀ {us : List V} {xs : List α}, Paired (r.rel M H) us xs → DpAll K H us (xs.map e)
  | _, _, .nil => .nil
  | _, _, .cons h t => .cons (hd _ _ h) (dpAllP hd t)
theorem dpLT {ks : List (List Nat)} (h : (rL (rT (rNat K))).rel M H v ks) : ∃ a, v = .ref a ∧ Dp K H (.ref a) (.list (ks.map eT)) := by
  obtain ⟨a, us, rfl, h, hp⟩ := h
  exact ⟨a, rfl, .lst h.sq (dpAllP (fun _ _ q => dpT' q) hp)⟩
theorem dpLL {ks : List (List Nat)} (h : (rL (rL (rNat K))).rel M H v ks) : Dp K H v (.list (ks.map eL)) := by
  obtain ⟨a, us, rfl, h, hp⟩ := h
  exact .lst h.sq (dpAllP (fun _ _ q => dpL' q) hp)
/-- the place of a tuple among tuples -/
theorem x_idxTT {ks : List (List Nat)} {k : List Nat} {y : V} (h : (rL (rT (rNat K))).rel M H v ks) (hy : Dp K H y (eT k)) (hk : k ∈ ks) (q : Q (vn (ks.idxOf k)) H) : rIndexD K v [y] H Q := by
  obtain ⟨a, rfl, hd⟩ := dpLT h
  have hl := List.idxOf_lt_length_of_mem hk
  refine ⟨a, y, eT k, ks.map eT, ks.idxOf k, eT k, rfl, rfl, hd, hy, shapedLT ks, shapedT k, ?_, ?_, fun m z hm hz => ?_, q⟩
  · rw [List.getElem?_map, List.getElem?_eq_getElem hl, List.getElem_idxOf]
    rfl
  · rw [eqvT]
    exact decide_eq_true rfl
  · have hml : m < ks.length := by omega
    rw [List.getElem?_map, List.getElem?_eq_getElem hml] at hz
    cases hz
    rw [eqvT]
    refine decide_eq_false fun e => ?_
    have ne := List.not_of_lt_findIdx (p := (· == k)) (xs := ks) (i := m) hm
    simp [e] at ne
theorem x_eqL {a b : Addr} {xs ys : List Nat} (h1 : SqL K H a (xs.map vn)) (h2 : SqL K H b (ys.map vn)) (q : Q (.bl (decide (xs = ys))) H) : rEqD K (.ref a) (.ref b) H Q :=
  ⟨eL xs, eL ys, dpL h1, dpL h2, shapedL xs, shapedL ys, by rw [eqvL]; exact q⟩
end
/-! ### a comprehension of new objects -/
section
variable {σ : L2.St} {H : Hp} {tt : TT} {te : TE} {vs : List Nat} {Q : VK} {K : PySem.W.Frag}
abbrev Or1 (H : Hp) (l : Addr) : Av := fun a => Dom H a ∨ a = l
theorem or1_dom {H H' : Hp} {l : Addr} {o : HO} (e : Ex H H') (h : H' l = some o) : ∀ a, Or1 H l a → Dom H' a := fun a ha => by
  rcases ha with h1 | h1
  · exact e.dom h1
  · rw [h1]; exact dom_of h
theorem compR_ret {α : Type} {j : Nat} {lo : Int} {n : Nat} (hn : n < 100000) (r : Rp K α) (y : Nat → α) (hw : ∀ x, wipe ((wipe σ vs).set j (some x)) vs = wipe σ vs)
    (he : ∀ i H', i < n → Ex H H' → ∀ Qe : VK, (∀ v H4, Ex H' H4 → r.rel (Dom H') H4 v (y i) → Qe v H4) → te ((wipe σ vs).set j (some (.int (lo + (i : Nat))))) H' Qe)
    (hQ : ∀ Dl us H', H Dl = none → Ex H H' → H' Dl = some (.lst us) → Paired (r.rel (Dom H) H') us ((List.range n).map y) → Q (.ref Dl) H') : CompR lo n (gName j) tYes te vs σ H Q := fun Dl hD => by
  refine lc_range (fun i H' => Ex H H' ∧ ∃ us, H' Dl = some (.lst us) ∧ Paired (r.rel (Or1 H Dl) H') us ((List.range i).map y)) ⟨Ex.new hD, [], upd_same, .nil⟩ (fun i H' hi ⟨e, us, hl, hp⟩ => ?_) (fun H' ⟨e, us, hl, hp⟩ => hQ Dl us H' hD e hl (pmono hp fun _ _ q => r.weak (fun a h => Or.inl h) q))
  refine ⟨hw _, ?_⟩
  refine x_yes (iteT (he i H' hi e _ fun v H4 e4 rv => ⟨us, e4 _ _ hl, ?_, Ex.mut (Ex.trans e e4) hD, us ++ [v], upd_same, ?_⟩))
  · have := hp.length
    rw [List.length_map, List.length_range] at this
    rw [this, sizeLine_eq]
    omega
  · rw [List.range_succ, List.map_append]
    refine pair_snoc (pmono hp fun _ _ q => r.mono (e4.a.trans (ExA.put (Or.inr rfl))) q) ?_
    exact r.mono (ExA.put (Or.inr rfl)) (r.weak (or1_dom e hl) rv)
end
theorem hu65_of {A : Around} {k : Nat} (hr : Room k A) : A.units + 65 < cLine := by have := hr.un; omega
theorem foldlM_map' {α β S : Type} (g : α → β) (f : S → β → Option S) : ∀ (xs : List α) (s : S), (xs.map g).foldlM f s = xs.foldlM (fun s x => f s (g x)) s
  | [], _ => rfl
  | x :: t, s => by
    rw [List.map_cons, List.foldlM_cons, List.foldlM_cons]
    cases f s (g x) with
    | none => rfl
    | some s' => exact foldlM_map' g f t s'
end Pm
end
section
set_option Elab.async false
set_option maxRecDepth 100000
set_option maxHeartbeats 4000000
set_option linter.all false
/-! lists that grow by new objects -/
namespace Pm
open PySem L2
/-- data that stand in H use no address that is free there -/
def Fr {K : PySem.W.Frag} {α : Type} (r : Rp K α) : Prop := ∀ {M : Av} {H : Hp} {v : V} {x : α} {l : Addr}, H l = none → r.rel M H v x → r.rel (fun a => M a ∨ a = l) H v x
section
variable {K : PySem.W.Frag} {α β : Type} {r : Rp K α} {s : Rp K β}
theorem rd_ne {H : Hp} {a l : Addr} {o : HO} (h : Rd H a o) (n : H l = none) : a ≠ l := fun z => by
  subst z
  rcases h with h | ⟨_, h⟩ <;> (rw [n] at h; cases h)
theorem LstA.fr {M : Av} {H : Hp} {a l : Addr} {us : List V} (n : H l = none) (h : LstA K M H a us) : LstA K (fun a => M a ∨ a = l) H a us := by
  rcases h with ⟨m, h⟩ | h
  · exact .inl ⟨fun z => z.elim m (rd_ne h n), h⟩
  · exact .inr h
theorem TupA.fr {M : Av} {H : Hp} {a l : Addr} {us : List V} (n : H l = none) (h : TupA K M H a us) : TupA K (fun a => M a ∨ a = l) H a us := by
  rcases h with ⟨m, h⟩ | h
  · exact .inl ⟨fun z => z.elim m (rd_ne h n), h⟩
  · exact .inr h
theorem fr_nat : Fr (rNat K) := fun _ h => h
theorem fr_int : Fr (rInt K) := fun _ h => h
theorem fr_bool : Fr (rBool K) := fun _ h => h
theorem fr_L (hr : Fr r) : Fr (rL r) := fun n ⟨a, us, h1, h2, h3⟩ => ⟨a, us, h1, h2.fr n, pmono h3 fun _ _ q => hr n q⟩
theorem fr_T (hr : Fr r) : Fr (rT r) := fun n ⟨a, us, h1, h2, h3⟩ => ⟨a, us, h1, h2.fr n, pmono h3 fun _ _ q => hr n q⟩
theorem fr_P (hr : Fr r) (hs : Fr s) : Fr (rP r s) := fun n ⟨a, u, w, h1, h2, h3, h4⟩ => ⟨a, u, w, h1, h2.fr n, hr n h3, hs n h4⟩
theorem fr_L2 (hr : Fr r) (hs : Fr s) : Fr (rL2 r s) := fun n ⟨a, u, w, h1, h2, h3, h4⟩ => ⟨a, u, w, h1, h2.fr n, hr n h3, hs n h4⟩
/-- a plain list at l, free in the base H0, of new data xs -/
structure AccAt (r : Rp K α) (H0 H : Hp) (l : Addr) (xs : List α) : Prop where
  ex : ∃ ws, H l = some (.lst ws) ∧ Paired (r.rel (Or1 H0 l) H) ws xs
variable {H0 H H' : Hp} {l lo : Addr} {xs : List α} {v : V} {x : α}
theorem AccAt.nil (h : H l = some (.lst [])) : AccAt r H0 H l [] := ⟨[], h, .nil⟩
theorem AccAt.at_ (A : AccAt r H0 H l xs) : ∃ ws, H l = some (.lst ws) ∧ ws.length = xs.length := by
  obtain ⟨ws, h1, h2⟩ := A.ex
  exact ⟨ws, h1, h2.length⟩
theorem AccAt.grow (A : AccAt r H0 H l xs) (e : Ex H H') : AccAt r H0 H' l xs := by
  obtain ⟨ws, h1, h2⟩ := A.ex
  exact ⟨ws, e _ _ h1, pmono h2 fun _ _ q => r.mono e.a q⟩
/-- all that stood stands, but a new object -/
theorem AccAt.but (hr : Fr r) (A : AccAt r H0 H l xs) (n : H lo = none) (e : ExA (fun a => a = lo) H H') : AccAt r H0 H' l xs := by
  obtain ⟨ws, h1, h2⟩ := A.ex
  refine ⟨ws, e _ _ (fun z => by rw [z, n] at h1; cases h1) h1, pmono h2 fun _ _ q => r.weak (fun a h => Or.inl h) (r.mono (M := fun a => Or1 H0 l a ∨ a = lo) (fun a o m h => e a o (fun z => m (Or.inr z)) h) (hr n q))⟩
theorem AccAt.snoc (A : AccAt r H0 H l xs) (hv : r.rel (Or1 H0 l) H v x) : ∀ ws, H l = some (.lst ws) → AccAt r H0 (upd H l (.lst (ws ++ [v]))) l (xs ++ [x]) := fun ws hw => by
  obtain ⟨ws', h1, h2⟩ := A.ex
  rw [hw] at h1
  cases h1
  exact ⟨_, upd_same, pair_snoc (pmono h2 fun _ _ q => r.mono (ExA.put (Or.inr rfl)) q) (r.mono (ExA.put (Or.inr rfl)) hv)⟩
theorem AccAt.rel (A : AccAt r H0 H l xs) (n : H0 l = none) : (rL r).rel (Dom H0) H (.ref l) xs := by
  obtain ⟨ws, h1, h2⟩ := A.ex
  exact ⟨l, ws, rfl, LstA.new h1 n, pmono h2 fun _ _ q => r.weak (fun a h => Or.inl h) q⟩
/-- append(v) -/
theorem AccAt.app {Q : VK} (A : AccAt r H0 H l xs) (hz : xs.length < 1000000) (hv : r.rel (Or1 H0 l) H v x) (q : ∀ ws, AccAt r H0 (upd H l (.lst ws)) l (xs ++ [x]) → Q .non (upd H l (.lst ws))) : rAppend (.ref l) [v] H Q := by
  obtain ⟨ws, h1, h2⟩ := A.at_
  exact x_append h1 (by rw [h2, sizeLine_eq]; omega) (q _ (A.snoc hv ws h1))
theorem AccAt.ty (A : AccAt r H0 H l xs) : tyV K "list" (.ref l) H := by
  obtain ⟨ws, h1, _⟩ := A.at_
  exact .inl ⟨rfl, ws, SqL.of h1⟩
theorem rLi {xs : List Int} {M : Av} (h : (rL (rInt K)).rel M H v xs) : ∃ a, v = .ref a ∧ LstA K M H a (xs.map V.int) := by
  obtain ⟨a, us, h1, h2, h3⟩ := h
  rw [pair_int h3] at h2
  exact ⟨a, h1, h2⟩
theorem rLi' {xs : List Int} {M : Av} {a : Addr} (h : LstA K M H a (xs.map V.int)) : (rL (rInt K)).rel M H (.ref a) xs := ⟨a, _, rfl, h, int_pair xs⟩
theorem vi_at {xs : List Int} {n : Nat} (h : n < xs.length) : (xs.map V.int)[n]? = some (V.int (xs.getD n 0)) := by
  rw [List.getElem?_map, List.getD_eq_getElem?_getD, List.getElem?_eq_getElem h]
  rfl
theorem x_ixI {Q : VK} {p : Addr} {xs : List Int} {n : Nat} {i : Int} (h : SqL K H p (xs.map V.int)) (e : i = (n : Int)) (hn : n < xs.length) (q : Q (V.int (xs.getD n 0)) H) : rIxL K (.ref p) (.int i) H Q := x_ixL h (at_n e (vi_at hn)) q
end
/-- a plain list of the heap -/
def rPL {K : PySem.W.Frag} {α : Type} (r : Rp K α) : Rp K (List α) :=
  ⟨fun M H v xs => ∃ a us, v = .ref a ∧ ¬ M a ∧ H a = some (.lst us) ∧ Paired (r.rel M H) us xs,
   fun e ⟨a, us, h1, m, h2, h3⟩ => ⟨a, us, h1, m, e a _ m h2, pmono h3 fun _ _ q => r.mono e q⟩,
   fun w ⟨a, us, h1, m, h2, h3⟩ => ⟨a, us, h1, fun q => m (w _ q), h2, pmono h3 fun _ _ q => r.weak w q⟩⟩
theorem fr_PL {K : PySem.W.Frag} {α : Type} {r : Rp K α} (hr : Fr r) : Fr (rPL r) := by
  intro M H v x l n h
  obtain ⟨a, us, h1, m, h2, h3⟩ := h
  refine ⟨a, us, h1, fun z => ?_, h2, pmono h3 fun _ _ q => hr n q⟩
  rcases z with z | z
  · exact m z
  · rw [z, n] at h2
    cases h2
abbrev rFlip (K : PySem.W.Frag) : Rp K (List (List Nat)) := rPL (rPL (rNat K))
theorem fr_flip {K : PySem.W.Frag} : Fr (rFlip K) := fr_PL (fr_PL fr_nat)
theorem rPLn {K : PySem.W.Frag} {M : Av} {H : Hp} {v : V} {xs : List Nat} (h : (rPL (rNat K)).rel M H v xs) : ∃ a, v = .ref a ∧ ¬ M a ∧ H a = some (.lst (xs.map vn)) := by
  obtain ⟨a, us, h1, m, h2, h3⟩ := h
  rw [pair_nat h3] at h2
  exact ⟨a, h1, m, h2⟩
theorem rPLn' {K : PySem.W.Frag} {M : Av} {H : Hp} {xs : List Nat} {a : Addr} (m : ¬ M a) (h : H a = some (.lst (xs.map vn))) : (rPL (rNat K)).rel M H (.ref a) xs := ⟨a, _, rfl, m, h, nat_pair xs⟩
end Pm
end
section
set_option Elab.async false
set_option maxRecDepth 100000
set_option maxHeartbeats 4000000
namespace Pm
open PySem L2
local macro_rules | `(tactic| walk_at "ex") => `(tactic| first | exact Ex.refl _ | assumption | exact Ex.new (by assumption) | exact Ex.trans (by walk_at "ex") (by assumption) | exact Ex.trans (by walk_at "ex") (Ex.new (by assumption)) | exact Ex.mut (by walk_at "ex") (by first | assumption | exact Ex.none (by walk_at "ex") (by assumption)))
local macro_rules | `(tactic| walk_at "sq") => `(tactic| first | assumption | exact Ex.l (by walk_at "ex") (by assumption) | exact Ex.t (by walk_at "ex") (by assumption) | exact SqL.of (by walk_at "hp") | exact SqT.of (by walk_at "hp") | exact Ex.l (by walk_at "ex") (LstA.sq (by assumption)) | exact Ex.t (by walk_at "ex") (TupA.sq (by assumption)))
local macro_rules | `(tactic| walk_at "hp") => `(tactic| first | assumption | exact upd_same | (refine (by walk_at "ex" : Ex _ _) _ _ ?_; assumption) | (refine (by walk_at "ex" : Ex _ _) _ _ ?_; exact upd_same))
local macro_rules | `(tactic| walk_at "x1") => `(tactic| first
  | (with_reducible refine x_seq ?_) | (with_reducible refine x_asg ?_) | ((with_reducible refine x_name ?_); dsimp only [List.set_cons_succ, List.set_cons_zero])
  | (with_reducible refine x_ret ?_) | (with_reducible refine x_if ?_) | (with_reducible refine x_drop ?_) | (with_reducible refine x_next ?_)
  | ((with_reducible refine' x_var ?h ?_); (case h => rfl)) | (with_reducible refine x_c ?_) | (with_reducible refine x_op ?_) | (with_reducible refine x_un ?_)
  | (with_reducible refine x_I0 ?_) | ((with_reducible refine x_I ?h ?_); (case h => first | exact Or.inl (by omega) | exact Or.inr (by omega) | omega | (constructor <;> omega))) | (with_reducible refine x_U ?_)
  | ((with_reducible refine' x_eq ?h ?_); (case h => rfl)) | ((with_reducible refine' x_ne ?h ?_); (case h => rfl))
  | (with_reducible refine x_cb ?_) | (with_reducible refine x_call ?_) | (with_reducible refine x_nil ?_) | (with_reducible refine x_cons ?_)
  | (with_reducible refine x_test ?_) | (with_reducible refine x_tB ?_) | (with_reducible refine x_bl ?_) | (with_reducible refine x_or ?_) | (with_reducible refine x_and ?_) | (with_reducible refine x_not ?_)
  | (with_reducible refine x_ifE ?_) | (with_reducible refine x_lst ?_) | (with_reducible refine x_tup ?_)
  | (with_reducible refine x_bm ?_) | (with_reducible refine x_bmG ?_) | (with_reducible refine x_chain ?_) | (with_reducible refine x_orV ?_) | (with_reducible refine x_andV ?_) | (with_reducible refine x_notV ?_) | (with_reducible refine x_sub ?_) | (with_reducible refine x_star ?_) | (with_reducible refine x_sl ?_) | (with_reducible refine x_po ?_) | (with_reducible refine x_pn ?_))
local macro_rules | `(tactic| walk_at "xi") => `(tactic| first | (with_reducible refine iteT ?_) | (with_reducible refine iteF ?_))
local macro_rules | `(tactic| walk_at "x") => `(tactic| ((try dsimp only); repeat ((first | walk_at "x1" | walk_at "xi"); (try dsimp only))))

section
variable {P : Program} {w : World} {K : PySem.W.Frag} {mg : Str → Option Value} {base : Heap}
/-! ### comb -/
def rComb : List V → Hp → VK → Prop := fun vs H Q => ∃ a b : Int, vs = [.int a, .int b] ∧ (0 ≤ a ∧ 0 ≤ b ∧ a ≤ 1000) ∧ Q (.int (PySem.W.mcComb a b)) H
theorem cr_comb {X : Cx} : CallR X (.builtin "math.comb") rComb := by
  intro pins s σ H vs us Q I r h
  obtain ⟨a, b, rfl, ⟨h1, h2, h3⟩, q⟩ := h
  obtain ⟨t, u, rfl⟩ := Vals.int2 r
  exact PySem.W.mc_comb h1 h2 (by omega) (Or.inr (by omega)) fun _ => ⟨.int _, H, I.tok _, ⟨_, rfl⟩, q⟩
def chI (m k : Int) : Int := if k < 0 ∨ m < k then 0 else PySem.W.mcComb m k
theorem chI_all : ((List.range 12).all fun m => (List.range 12).all fun k => decide (chI (m : Int) (k : Int) = (cN m k : Int))) = true := by decide +kernel
theorem chI_nat {m k : Nat} (hm : m < 12) (hk : k < 12) : chI (m : Int) (k : Int) = (cN m k : Int) := by
  have h1 := List.all_eq_true.mp chI_all m (List.mem_range.mpr hm)
  have h2 := List.all_eq_true.mp h1 k (List.mem_range.mpr hk)
  exact of_decide_eq_true h2
theorem cN_all : ((List.range 12).all fun m => (List.range 12).all fun k => decide (cN m k < 1000)) = true := by decide +kernel
theorem cN_small (m k : Nat) (hm : m < 12) (hk : k < 12) : cN m k < 1000 := by
  have h1 := List.all_eq_true.mp cN_all m (List.mem_range.mpr hm)
  have h2 := List.all_eq_true.mp h1 k (List.mem_range.mpr hk)
  exact of_decide_eq_true h2
/-! choose: slots m 0, k 1; calls []; built-ins [] -/
abbrev s_choose : Stmt := top 22
abbrev N_choose : List Str := ["m", "k"]
theorem sc_choose : FnScope N_choose ["m", "k"] (defScope s_choose) := ⟨rfl, rfl, rfl, by decide +kernel, rfl, by decide +kernel, by decide +kernel⟩

def spChoose : Sp := fun vs H Q _ => ∃ m k : Int, vs = [.int m, .int k] ∧ m ≤ 1000 ∧ Q (.int (chI m k)) H
set_option linter.unusedVariables false in
theorem ok_choose {f : Addr} {fd : FuncData} (F : Fun K "choose" "choose" s_choose f fd) (gc : mg "comb" = some (.builtin "math.comb")) : FnOk P w K mg base CX0 1 f fd ["m", "k"] spChoose := by
  refine F.ok sc_choose (fun vs H Q E h => ?_) (fun cdv A outer s H vs Q E hr h => ?_)
  · obtain ⟨m, k, rfl, _⟩ := h
    rfl
  · obtain ⟨m, k, rfl, hm, q⟩ := h
    refine ⟨_, (pss_cons (ps_if (PW.pt (pw_or (pt_cmpR op_lt (pv 1) pe_int (nomark _)) (pw_or1 (pt_cmpR op_gt (pv 1) (pv 0) (nomark _))))) (pss_one (ps_ret pe_int)) pss_nil)
  (pss_one (ps_ret (pe_callBfun cr_comb (by rfl) gc (pa_cons (pv 0) (pa_cons (pv 1) pa_nil)))))), ?_⟩
    refine x_start (σ := [some _, some _]) rfl ?_
    walk_at "x"
    refine x_dec (p := k < 0) (fun h1 => ?_) (fun h1 => ?_)
    · walk_at "x"
      have e : chI m k = 0 := if_pos (Or.inl h1)
      rw [e] at q
      exact q
    · walk_at "x"
      refine x_dec (fun h2 => ?_) (fun h2 => ?_)
      · walk_at "x"
        have e : chI m k = 0 := if_pos (Or.inr h2)
        rw [e] at q
        exact q
      · walk_at "x"
        have e : chI m k = PySem.W.mcComb m k := if_neg (by omega)
        rw [e] at q
        exact ⟨m, k, rfl, by omega, q⟩
/-! _block: slots counts 0, n 1, many 2; calls ['choose']; built-ins [] -/
abbrev s_block : Stmt := top 28
abbrev N_block : List Str := ["counts", "n", "many"]
theorem sc_block : FnScope N_block ["counts", "n", "many"] (defScope s_block) := ⟨rfl, rfl, rfl, by decide +kernel, rfl, by decide +kernel, by decide +kernel⟩

/-- counts: the numbers of images by size -/
def spBlock (K : PySem.W.Frag) : Sp := fun vs H Q _ => ∃ (a : Addr) (cs : List Nat) (n m : Nat), vs = [.ref a, vn n, vn m] ∧ SqL K H a (cs.map vn) ∧ (1 ≤ m ∧ m ≤ 4 ∧ m ≤ n ∧ n ≤ 9) ∧ n - m < cs.length ∧ Q (vn (blockI cs n m)) H
theorem ok_block {f fc : Addr} {fd : FuncData} (F : Fun K "_block" "_block" s_block f fd) (gF : mg "FORM_COUNTS" = some (.ref fc)) (hF : ∀ H, SqT K H fc ([0, 1, 3, 12, 42].map vn)) (D_choose : Df P w K mg base "choose" 1 ["m", "k"] spChoose) :
    FnOk P w K mg base CX0 2 f fd ["counts", "n", "many"] (spBlock K) := by
  refine F.ok sc_block (fun vs H Q E h => ?_) (fun cdv A outer s H vs Q E hr h => ?_)
  · obtain ⟨_, _, _, _, rfl, _⟩ := h
    rfl
  · obtain ⟨a, cs, n, m, rfl, hS, hb, hl, q⟩ := h
    refine ⟨_, (pss_one (ps_ret (pe_op op_mul (pe_op op_mul (pe_callD D_choose (hr.mono (by decide)) (by rfl) (pa_cons (pe_op op_sub (pv 1) pe_int) (pa_cons (pe_op op_sub (pv 2) pe_int) pa_nil))) (pe_ix ix_tup (pe_globR (by rfl) gF) (pv 2) (fun _ _ => rfl))) (pe_ix ix_list (pv 0) (pe_op op_sub (pv 1) (pv 2)) (fun _ _ => rfl))))), ?_⟩
    refine x_start (σ := [some _, some _, some _]) rfl ?_
    walk_at "x"
    refine ⟨(n : Int) - 1, (m : Int) - 1, rfl, by omega, ?_⟩
    walk_at "x"
    have e1 : chI ((n : Int) - 1) ((m : Int) - 1) = (cN (n - 1) (m - 1) : Nat) := by
      rw [← chI_nat (by omega) (by omega)]
      congr 1 <;> omega
    have e2 : ([0, 1, 3, 12, 42].map vn)[m]? = some (vn ([0, 1, 3, 12, 42].getD m 0)) := by
      have : m = 1 ∨ m = 2 ∨ m = 3 ∨ m = 4 := by omega
      rcases this with h | h | h | h <;> subst h <;> rfl
    refine x_ixT (hF _) (at_n rfl e2) ?_
    rw [e1]
    have b1 : cN (n - 1) (m - 1) < 1000 := cN_small _ _ (by omega) (by omega)
    have b2 : [0, 1, 3, 12, 42].getD m 0 < 1000 := by
      have : m = 1 ∨ m = 2 ∨ m = 3 ∨ m = 4 := by omega
      rcases this with h | h | h | h <;> subst h <;> decide
    walk_at "x"
    have e3 : (cs.map vn)[n - m]? = some (vn (cs.getD (n - m) 0)) := by
      rw [List.getElem?_map, List.getD_eq_getElem?_getD, List.getElem?_eq_getElem hl]
      rfl
    refine x_ixL hS (at_n (by omega) e3) ?_
    refine x_I ?_ ?_
    · have b3 : (cN (n - 1) (m - 1) : Int) * ([0, 1, 3, 12, 42].getD m 0 : Nat) < 1000 * 1000 := by
        have := Nat.mul_lt_mul'' b1 b2
        omega
      have b4 : 0 ≤ (cN (n - 1) (m - 1) : Int) * ([0, 1, 3, 12, 42].getD m 0 : Nat) := by
        have := Nat.zero_le (cN (n - 1) (m - 1) * [0, 1, 3, 12, 42].getD m 0)
        omega
      exact Or.inl (by omega)
    · have e4 : (cN (n - 1) (m - 1) : Int) * ([0, 1, 3, 12, 42].getD m 0 : Nat) * (cs.getD (n - m) 0 : Nat) = (blockI cs n m : Nat) := by
        unfold blockI
        push_cast
        rfl
      show Q (V.int ((cN (n - 1) (m - 1) : Int) * ([0, 1, 3, 12, 42].getD m 0 : Nat) * (cs.getD (n - m) 0 : Nat))) H
      rw [e4]
      exact q
end
end Pm
end
section
set_option Elab.async false
set_option maxRecDepth 100000
set_option maxHeartbeats 4000000
set_option linter.unusedVariables false
namespace Pm
open PySem L2
local macro_rules | `(tactic| walk_at "ex") => `(tactic| first | exact Ex.refl _ | assumption | exact Ex.new (by assumption) | exact Ex.trans (by walk_at "ex") (by assumption) | exact Ex.trans (by walk_at "ex") (Ex.new (by assumption)) | exact Ex.mut (by walk_at "ex") (by first | assumption | exact Ex.none (by walk_at "ex") (by assumption)))
local macro_rules | `(tactic| walk_at "sq") => `(tactic| first | assumption | exact Ex.l (by walk_at "ex") (by assumption) | exact Ex.t (by walk_at "ex") (by assumption) | exact SqL.of (by walk_at "hp") | exact SqT.of (by walk_at "hp") | exact Ex.l (by walk_at "ex") (LstA.sq (by assumption)) | exact Ex.t (by walk_at "ex") (TupA.sq (by assumption)))
local macro_rules | `(tactic| walk_at "hp") => `(tactic| first | assumption | exact upd_same | (refine (by walk_at "ex" : Ex _ _) _ _ ?_; assumption) | (refine (by walk_at "ex" : Ex _ _) _ _ ?_; exact upd_same))
local macro_rules | `(tactic| walk_at "x1") => `(tactic| first
  | (with_reducible refine x_seq ?_) | (with_reducible refine x_asg ?_) | ((with_reducible refine x_name ?_); dsimp only [List.set_cons_succ, List.set_cons_zero])
  | (with_reducible refine x_ret ?_) | (with_reducible refine x_if ?_) | (with_reducible refine x_drop ?_) | (with_reducible refine x_next ?_)
  | ((with_reducible refine' x_var ?h ?_); (case h => rfl)) | (with_reducible refine x_c ?_) | (with_reducible refine x_op ?_) | (with_reducible refine x_un ?_)
  | (with_reducible refine x_I0 ?_) | ((with_reducible refine x_I ?h ?_); (case h => first | exact Or.inl (by omega) | exact Or.inr (by omega) | omega | (constructor <;> omega))) | (with_reducible refine x_U ?_)
  | ((with_reducible refine' x_eq ?h ?_); (case h => rfl)) | ((with_reducible refine' x_ne ?h ?_); (case h => rfl))
  | (with_reducible refine x_cb ?_) | (with_reducible refine x_call ?_) | (with_reducible refine x_nil ?_) | (with_reducible refine x_cons ?_)
  | (with_reducible refine x_test ?_) | (with_reducible refine x_tB ?_) | (with_reducible refine x_bl ?_) | (with_reducible refine x_or ?_) | (with_reducible refine x_and ?_) | (with_reducible refine x_not ?_)
  | (with_reducible refine x_ifE ?_) | (with_reducible refine x_lst ?_) | (with_reducible refine x_tup ?_)
  | (with_reducible refine x_bm ?_) | (with_reducible refine x_bmG ?_) | (with_reducible refine x_chain ?_) | (with_reducible refine x_orV ?_) | (with_reducible refine x_andV ?_) | (with_reducible refine x_notV ?_) | (with_reducible refine x_sub ?_) | (with_reducible refine x_star ?_) | (with_reducible refine x_sl ?_) | (with_reducible refine x_po ?_) | (with_reducible refine x_pn ?_))
local macro_rules | `(tactic| walk_at "xi") => `(tactic| first | (with_reducible refine iteT ?_) | (with_reducible refine iteF ?_))
local macro_rules | `(tactic| walk_at "x") => `(tactic| ((try dsimp only); repeat ((first | walk_at "x1" | walk_at "xi"); (try dsimp only))))

section
variable {P : Program} {w : World} {K : PySem.W.Frag} {mg : Str → Option Value} {base : Heap}
theorem getD_at {xs : List Nat} {i : Nat} (h : i < xs.length) : (xs.map vn)[i]? = some (vn (xs.getD i 0)) := by
  rw [List.getElem?_map, List.getD_eq_getElem?_getD, List.getElem?_eq_getElem h]
  rfl
theorem getD_mem {xs : List Nat} {i : Nat} (h : i < xs.length) : xs.getD i 0 ∈ xs := by
  rw [List.getD_eq_getElem?_getD, List.getElem?_eq_getElem h]
  exact List.getElem_mem h
/-! _set_number: slots places 0, n 1, number 2, at 3, place 4; calls ['choose']; built-ins ['range', 'len'] -/
abbrev s_set_number : Stmt := top 31
abbrev N_set_number : List Str := ["places", "n", "number", "at", "place"]
theorem sc_set_number : FnScope N_set_number ["places", "n"] (defScope s_set_number) := ⟨rfl, rfl, rfl, by decide +kernel, rfl, by decide +kernel, by decide +kernel⟩

def spSetNumber (K : PySem.W.Frag) : Sp := fun vs H Q _ => ∃ (a : Addr) (ps : List Nat) (n : Nat), vs = [.ref a, vn n] ∧ SqL K H a (ps.map vn) ∧ (1 ≤ ps.length ∧ ps.length ≤ 4 ∧ n ≤ 9) ∧ (∀ p ∈ ps, p < n) ∧ Q (vn (setNumber ps n)) H
theorem ok_set_number {f : Addr} {fd : FuncData} (F : Fun K "_set_number" "_set_number" s_set_number f fd) (T : Txt mg) (D_choose : Df P w K mg base "choose" 1 ["m", "k"] spChoose) :
    FnOk P w K mg base CX0 2 f fd ["places", "n"] (spSetNumber K) := by
  refine F.ok sc_set_number (fun vs H Q E h => ?_) (fun cdv A outer s H vs Q E hr h => ?_)
  · obtain ⟨_, _, _, rfl, _⟩ := h
    rfl
  · obtain ⟨a, ps, n, rfl, hS, hb, hl, q⟩ := h
    refine ⟨_, (pss_cons (ps_set (i := 2) sc_set_number.nd rfl (by first | exact Or.inl rfl | exact Or.inr rfl) pe_int)
  (pss_cons (ps_for PassesOwn.never rfl (pi_range2 (by rfl) T.b_range (pa_cons pe_int (pa_cons (pe_callB call_len_seq (by rfl) T.b_len (by decide +kernel) (pa_cons (pv 0) pa_nil)) pa_nil))) (pg_name (i := 3) sc_set_number.nd rfl (by first | exact Or.inl rfl | exact Or.inr rfl)) (pss_one (ps_for PassesOwn.never rfl (pi_range2 (by rfl) T.b_range (pa_cons (pe_op op_add (pe_ix ix_list (pv 0) (pe_op op_sub (pv 3) pe_int) (fun _ _ => rfl)) pe_int) (pa_cons (pe_ix ix_list (pv 0) (pv 3) (fun _ _ => rfl)) pa_nil))) (pg_name (i := 4) sc_set_number.nd rfl (by first | exact Or.inl rfl | exact Or.inr rfl)) (pss_one (ps_set (i := 2) sc_set_number.nd rfl (by first | exact Or.inl rfl | exact Or.inr rfl) (pe_op op_add (pv 2) (pe_callD D_choose (hr.mono (by decide)) (by rfl) (pa_cons (pe_op op_sub (pe_op op_sub (pv 1) pe_int) (pv 4)) (pa_cons (pe_op op_sub (pe_op op_sub (pe_callB call_len_seq (by rfl) T.b_len (by decide +kernel) (pa_cons (pv 0) pa_nil)) pe_int) (pv 3)) pa_nil)))))))))
  (pss_one (ps_ret (pv 2))))), ?_⟩
    refine x_start (σ := [some _, some _, none, none, none]) rfl ?_
    walk_at "x"
    refine x_forR2 ?_
    walk_at "x"
    refine ⟨a, _, rfl, Or.inl hS, ?_⟩
    walk_at "x"
    rw [List.length_map]
    refine ⟨_, _, rfl, by omega, ?_⟩
    have e0 : ((ps.length : Int) - 1).toNat = ps.length - 1 := by omega
    rw [e0]
    refine loopR_foldl (snOut ps n) (fun s σ' H' => H' = H ∧ ∃ x y, σ' = [some (.ref a), some (vn n), some (vn s), x, y]) 0 ⟨rfl, _, _, rfl⟩ (fun s i σ' H' hi ⟨eH, x, y, eσ⟩ => ?_) (fun σ' H' ⟨eH, x, y, eσ⟩ => ?_)
    · subst eH eσ
      walk_at "x"
      refine x_forR2 ?_
      walk_at "x"
      have p1 := hl _ (getD_mem (xs := ps) (i := i) (by omega))
      have p2 := hl _ (getD_mem (xs := ps) (i := i + 1) (by omega))
      refine x_ixL hS (at_n (n := i) (by omega) (getD_at (by omega))) ?_
      walk_at "x"
      refine x_ixL hS (at_n (n := i + 1) (by omega) (getD_at (by omega))) ?_
      walk_at "x"
      refine ⟨_, _, rfl, by omega, ?_⟩
      have e1 : (((ps.getD (i + 1) 0 : Nat) : Int) - (((ps.getD i 0 : Nat) : Int) + 1)).toNat = ps.getD (i + 1) 0 - (ps.getD i 0 + 1) := by omega
      rw [e1]
      refine loopR_foldl (snIn ps n i) (fun s σ' H'' => H'' = H' ∧ ∃ y, σ' = [some (.ref a), some (vn n), some (vn s), some (.int (1 + (i : Nat))), y]) s ⟨rfl, _, rfl⟩ (fun s2 j σ2 H2 hj ⟨eH, y, eσ⟩ => ?_) (fun σ2 H2 ⟨eH, y, eσ⟩ => ?_)
      · subst eH eσ
        walk_at "x"
        refine ⟨a, _, rfl, Or.inl hS, ?_⟩
        walk_at "x"
        refine ⟨_, _, rfl, by omega, ?_⟩
        walk_at "x"
        have e2 : chI ((n : Int) - 1 - (((ps.getD i 0 : Nat) : Int) + 1 + (j : Nat))) (((ps.map vn).length : Int) - 1 - (1 + (i : Nat))) = (cN (n - 1 - (ps.getD i 0 + 1 + j)) (ps.length - 1 - (i + 1)) : Nat) := by
          rw [← chI_nat (by omega) (by omega), List.length_map]
          congr 1 <;> omega
        rw [e2]
        exact ⟨rfl, _, rfl⟩
      · subst eH eσ
        walk_at "x"
        exact ⟨rfl, _, _, rfl⟩
    · subst eH eσ
      walk_at "x"
      exact q
end
end Pm
end
section
set_option Elab.async false
set_option maxRecDepth 100000
set_option maxHeartbeats 4000000
set_option linter.all false
namespace Pm
open PySem L2
local macro_rules | `(tactic| walk_at "ex") => `(tactic| first | exact Ex.refl _ | assumption | exact Ex.new (by assumption) | exact Ex.trans (by walk_at "ex") (by assumption) | exact Ex.trans (by walk_at "ex") (Ex.new (by assumption)) | exact Ex.mut (by walk_at "ex") (by first | assumption | exact Ex.none (by walk_at "ex") (by assumption)))
local macro_rules | `(tactic| walk_at "sq") => `(tactic| first | assumption | exact Ex.l (by walk_at "ex") (by assumption) | exact Ex.t (by walk_at "ex") (by assumption) | exact SqL.of (by walk_at "hp") | exact SqT.of (by walk_at "hp") | exact Ex.l (by walk_at "ex") (LstA.sq (by assumption)) | exact Ex.t (by walk_at "ex") (TupA.sq (by assumption)))
local macro_rules | `(tactic| walk_at "hp") => `(tactic| first | assumption | exact upd_same | (refine (by walk_at "ex" : Ex _ _) _ _ ?_; assumption) | (refine (by walk_at "ex" : Ex _ _) _ _ ?_; exact upd_same))
local macro_rules | `(tactic| walk_at "x1") => `(tactic| first
  | (with_reducible refine x_seq ?_) | (with_reducible refine x_asg ?_) | ((with_reducible refine x_name ?_); dsimp only [List.set_cons_succ, List.set_cons_zero])
  | (with_reducible refine x_ret ?_) | (with_reducible refine x_if ?_) | (with_reducible refine x_drop ?_) | (with_reducible refine x_next ?_)
  | ((with_reducible refine' x_var ?h ?_); (case h => rfl)) | (with_reducible refine x_c ?_) | (with_reducible refine x_op ?_) | (with_reducible refine x_un ?_)
  | (with_reducible refine x_I0 ?_) | ((with_reducible refine x_I ?h ?_); (case h => first | exact Or.inl (by omega) | exact Or.inr (by omega) | omega | (constructor <;> omega))) | (with_reducible refine x_U ?_)
  | ((with_reducible refine' x_eq ?h ?_); (case h => rfl)) | ((with_reducible refine' x_ne ?h ?_); (case h => rfl))
  | (with_reducible refine x_cb ?_) | (with_reducible refine x_call ?_) | (with_reducible refine x_nil ?_) | (with_reducible refine x_cons ?_)
  | (with_reducible refine x_test ?_) | (with_reducible refine x_tB ?_) | (with_reducible refine x_bl ?_) | (with_reducible refine x_or ?_) | (with_reducible refine x_and ?_) | (with_reducible refine x_not ?_)
  | (with_reducible refine x_ifE ?_) | (with_reducible refine x_lst ?_) | (with_reducible refine x_tup ?_)
  | (with_reducible refine x_bm ?_) | (with_reducible refine x_bmG ?_) | (with_reducible refine x_chain ?_) | (with_reducible refine x_orV ?_) | (with_reducible refine x_andV ?_) | (with_reducible refine x_notV ?_) | (with_reducible refine x_sub ?_) | (with_reducible refine x_star ?_) | (with_reducible refine x_sl ?_) | (with_reducible refine x_po ?_) | (with_reducible refine x_pn ?_))
local macro_rules | `(tactic| walk_at "xi") => `(tactic| first | (with_reducible refine iteT ?_) | (with_reducible refine iteF ?_))
local macro_rules | `(tactic| walk_at "x") => `(tactic| ((try dsimp only); repeat ((first | walk_at "x1" | walk_at "xi"); (try dsimp only))))

section
variable {P : Program} {w : World} {K : PySem.W.Frag} {mg : Str → Option Value} {base : Heap}
/-! check_image: slots image 0, size 1, record 2, name 3; calls []; built-ins ['len', 'enumerate'] -/
abbrev s_check_image : Stmt := top 8
abbrev N_check_image : List Str := ["image", "size", "record", "name"]
theorem sc_check_image : FnScope N_check_image ["image"] (defScope s_check_image) := ⟨rfl, rfl, rfl, by decide +kernel, rfl, by decide +kernel, by decide +kernel⟩

def spCheck (K : PySem.W.Frag) : Sp := fun vs H Q _ => ∃ (a : Addr) (im : List Nat), vs = [.ref a] ∧ SqL K H a (im.map vn) ∧ Img im ∧ ∀ H', Ex H H' → Q .non H'
theorem ok_check_image {f : Addr} {fd : FuncData} (F : Fun K "check_image" "check_image" s_check_image f fd) (T : Txt mg) : FnOk P w K mg base CX0 1 f fd ["image"] (spCheck K) := by
  refine F.ok sc_check_image (fun vs H Q E h => ?_) (fun cdv A outer s H vs Q E hr h => ?_)
  · obtain ⟨_, _, rfl, _⟩ := h
    rfl
  · obtain ⟨a, im, rfl, hS, hI, q⟩ := h
    refine ⟨_, (pss_cons (ps_set (i := 1) sc_check_image.nd rfl (by first | exact Or.inl rfl | exact Or.inr rfl) (pe_callB call_len_seq (by rfl) T.b_len (by decide +kernel) (pa_cons (pv 0) pa_nil)))
  (pss_one (ps_for PassesOwn.never rfl (pi_enum (by rfl) T.b_enumerate (pa_cons (pv 0) pa_nil)) (pg_tup (by rfl) (pgs_cons (pg_name (i := 2) sc_check_image.nd rfl (by first | exact Or.inl rfl | exact Or.inr rfl)) (pgs_cons (pg_name (i := 3) sc_check_image.nd rfl (by first | exact Or.inl rfl | exact Or.inr rfl)) pgs_nil))) (pss_one (ps_if (PW.pt (pw_or (pt_cmpR op_lt (pv 3) pe_int (nomark _)) (pw_or1 (pt_cmpR op_ge (pv 3) (pv 1) (nomark _))))) (pss_one ps_never) pss_nil))))), ?_⟩
    refine x_start (σ := [some _, none, none, none]) rfl ?_
    walk_at "x"
    refine ⟨a, _, rfl, .inl hS, ?_⟩
    walk_at "x"
    refine x_forE ?_
    walk_at "x"
    refine ⟨a, _, rfl, hS, ?_⟩
    refine loopE_foldl (p := 2) (q := 3) (xs := im) (List.length_map _) (fun _ _ _ => ()) (fun i _ σ' H' => Ex H H' ∧ ∃ x y, σ' = [some (.ref a), some (vn im.length), x, y]) () ⟨Ex.refl _, _, _, by rw [List.length_map]⟩ (fun i s σ' H' h => h.1.l hS) ?_ ?_
    · rintro s i x u t σ' H' hx hu ⟨e, y, z, rfl⟩ ht
      dsimp only [List.set_cons_succ, List.set_cons_zero]
      have hu' : u = vn x := by
        rw [List.getElem?_map, hx] at hu
        exact (Option.some.inj hu).symm
      subst hu'
      have hx' := hI x (List.mem_of_getElem? hx)
      walk_at "x"
      refine dec_f (by omega) ?_
      walk_at "x"
      refine dec_f (by show ¬ ((im.length : Int) ≤ (x : Int)); omega) ?_
      walk_at "x"
      exact ⟨Ex.trans e (Ex.new ht), _, _, rfl⟩
    · rintro σ' H' s ⟨e, y, z, rfl⟩ _
      exact q _ e
end
end Pm
end
section
set_option Elab.async false
set_option maxRecDepth 100000
set_option maxHeartbeats 4000000
set_option linter.all false
namespace Pm
open PySem L2
local macro_rules | `(tactic| walk_at "ex") => `(tactic| first | exact Ex.refl _ | assumption | exact Ex.new (by assumption) | exact Ex.trans (by walk_at "ex") (by assumption) | exact Ex.trans (by walk_at "ex") (Ex.new (by assumption)) | exact Ex.mut (by walk_at "ex") (by first | assumption | exact Ex.none (by walk_at "ex") (by assumption)))
local macro_rules | `(tactic| walk_at "sq") => `(tactic| first | assumption | exact Ex.l (by walk_at "ex") (by assumption) | exact Ex.t (by walk_at "ex") (by assumption) | exact SqL.of (by walk_at "hp") | exact SqT.of (by walk_at "hp") | exact Ex.l (by walk_at "ex") (LstA.sq (by assumption)) | exact Ex.t (by walk_at "ex") (TupA.sq (by assumption)))
local macro_rules | `(tactic| walk_at "hp") => `(tactic| first | assumption | exact upd_same | (refine (by walk_at "ex" : Ex _ _) _ _ ?_; assumption) | (refine (by walk_at "ex" : Ex _ _) _ _ ?_; exact upd_same))
local macro_rules | `(tactic| walk_at "x1") => `(tactic| first
  | (with_reducible refine x_seq ?_) | (with_reducible refine x_asg ?_) | ((with_reducible refine x_name ?_); dsimp only [List.set_cons_succ, List.set_cons_zero])
  | (with_reducible refine x_ret ?_) | (with_reducible refine x_if ?_) | (with_reducible refine x_drop ?_) | (with_reducible refine x_next ?_)
  | ((with_reducible refine' x_var ?h ?_); (case h => rfl)) | (with_reducible refine x_c ?_) | (with_reducible refine x_op ?_) | (with_reducible refine x_un ?_)
  | (with_reducible refine x_I0 ?_) | ((with_reducible refine x_I ?h ?_); (case h => first | exact Or.inl (by omega) | exact Or.inr (by omega) | omega | (constructor <;> omega))) | (with_reducible refine x_U ?_)
  | ((with_reducible refine' x_eq ?h ?_); (case h => rfl)) | ((with_reducible refine' x_ne ?h ?_); (case h => rfl))
  | (with_reducible refine x_cb ?_) | (with_reducible refine x_call ?_) | (with_reducible refine x_nil ?_) | (with_reducible refine x_cons ?_)
  | (with_reducible refine x_test ?_) | (with_reducible refine x_tB ?_) | (with_reducible refine x_bl ?_) | (with_reducible refine x_or ?_) | (with_reducible refine x_and ?_) | (with_reducible refine x_not ?_)
  | (with_reducible refine x_ifE ?_) | (with_reducible refine x_lst ?_) | (with_reducible refine x_tup ?_)
  | (with_reducible refine x_bm ?_) | (with_reducible refine x_bmG ?_) | (with_reducible refine x_chain ?_) | (with_reducible refine x_orV ?_) | (with_reducible refine x_andV ?_) | (with_reducible refine x_notV ?_) | (with_reducible refine x_sub ?_) | (with_reducible refine x_star ?_) | (with_reducible refine x_sl ?_) | (with_reducible refine x_po ?_) | (with_reducible refine x_pn ?_))
local macro_rules | `(tactic| walk_at "xi") => `(tactic| first | (with_reducible refine iteT ?_) | (with_reducible refine iteF ?_))
local macro_rules | `(tactic| walk_at "x") => `(tactic| ((try dsimp only); repeat ((first | walk_at "x1" | walk_at "xi"); (try dsimp only))))

section
variable {P : Program} {w : World} {K : PySem.W.Frag} {mg : Str → Option Value} {base : Heap}
/-! ### the dict of groups: the rows, each a label, its records, where they stand -/
abbrev Row := Nat × List Nat × Addr
def rowKv (rows : List Row) : List (Key × V) := rows.map fun r => (.inl (r.1 : Int), .ref r.2.2)
structure FoundAt (H0 H : Hp) (d : Addr) (rows : List Row) : Prop where
  dict : H d = some (.dK (rowKv rows))
  dnew : H0 d = none
  at_ : ∀ r ∈ rows, H r.2.2 = some (.lst (r.2.1.map vn)) ∧ H0 r.2.2 = none
  nd : (rows.map (·.2.2)).Nodup
  kd : (rows.map (·.1)).Nodup
def fsOf (rows : List Row) : List (Nat × List Nat) := rows.map fun r => (r.1, r.2.1)
theorem rows_val {l : Nat} : ∀ {rows : List Row}, (∃ r ∈ rows, r.1 = l ∧ valV (rowKv rows) (.inl (l : Int)) = some (.ref r.2.2)) ∨ ((∀ r ∈ rows, r.1 ≠ l) ∧ valV (rowKv rows) (.inl (l : Int)) = none)
  | [] => .inr ⟨fun r hr => (by cases hr), rfl⟩
  | r :: rs => by
    by_cases h : r.1 = l
    · refine .inl ⟨r, List.mem_cons_self, h, ?_⟩
      show valV ((Sum.inl (r.1 : Int), V.ref r.2.2) :: rowKv rs) _ = _
      rw [valV_pos (by rw [h])]
    · have ne : ¬ (Sum.inl (r.1 : Int) : Key) = Sum.inl (l : Int) := fun e => h (by have := Sum.inl.inj e; omega)
      have e : valV (rowKv (r :: rs)) (.inl (l : Int)) = valV (rowKv rs) (.inl (l : Int)) := valV_neg ne
      rcases rows_val (l := l) (rows := rs) with ⟨q, hq, h1, h2⟩ | ⟨h1, h2⟩
      · exact .inl ⟨q, List.mem_cons_of_mem _ hq, h1, e.trans h2⟩
      · refine .inr ⟨fun q hq => ?_, e.trans h2⟩
        rcases List.mem_cons.mp hq with z | z
        · rw [z]; exact h
        · exact h1 q z
def rowHit (rows : List Row) (l x : Nat) : List Row := rows.map fun r => if r.1 = l then (r.1, r.2.1 ++ [x], r.2.2) else r
theorem rowHit_kv (rows : List Row) (l x : Nat) : rowKv (rowHit rows l x) = rowKv rows := by
  unfold rowKv rowHit
  rw [List.map_map]
  refine List.map_congr_left fun r _ => ?_
  by_cases h : r.1 = l
  · simp [h]
  · simp [h]
theorem rowHit_map {β : Type} (g : Nat → Addr → β) (rows : List Row) (l x : Nat) : (rowHit rows l x).map (fun r => g r.1 r.2.2) = rows.map fun r => g r.1 r.2.2 := by
  unfold rowHit
  rw [List.map_map]
  refine List.map_congr_left fun r _ => ?_
  by_cases h : r.1 = l
  · simp [h]
  · simp [h]
theorem key_one {rows : List Row} (kd : (rows.map (·.1)).Nodup) {r q : Row} (hr : r ∈ rows) (hq : q ∈ rows) (e : r.1 = q.1) : r = q := by
  induction rows with
  | nil => cases hr
  | cons z t ih =>
    rw [List.map_cons, List.nodup_cons] at kd
    rcases List.mem_cons.mp hr with h1 | h1 <;> rcases List.mem_cons.mp hq with h2 | h2
    · rw [h1, h2]
    · exact absurd (List.mem_map.mpr ⟨q, h2, by rw [← e, h1]⟩) kd.1
    · exact absurd (List.mem_map.mpr ⟨r, h1, by rw [e, h2]⟩) kd.1
    · exact ih kd.2 h1 h2
theorem addr_one {rows : List Row} (nd : (rows.map (·.2.2)).Nodup) {r q : Row} (hr : r ∈ rows) (hq : q ∈ rows) (e : r.2.2 = q.2.2) : r = q := by
  induction rows with
  | nil => cases hr
  | cons z t ih =>
    rw [List.map_cons, List.nodup_cons] at nd
    rcases List.mem_cons.mp hr with h1 | h1 <;> rcases List.mem_cons.mp hq with h2 | h2
    · rw [h1, h2]
    · exact absurd (List.mem_map.mpr ⟨q, h2, by rw [← e, h1]⟩) nd.1
    · exact absurd (List.mem_map.mpr ⟨r, h1, by rw [e, h2]⟩) nd.1
    · exact ih nd.2 h1 h2
theorem FoundAt.hit {H0 H : Hp} {d : Addr} {rows : List Row} (F : FoundAt H0 H d rows) {r : Row} (hr : r ∈ rows) (x : Nat) : FoundAt H0 (upd H r.2.2 (.lst ((r.2.1 ++ [x]).map vn))) d (rowHit rows r.1 x) where
  dict := by
    have ne : d ≠ r.2.2 := fun e => by
      have h1 := F.dict
      rw [e, (F.at_ r hr).1] at h1
      cases h1
    rw [upd_ne ne, rowHit_kv]
    exact F.dict
  dnew := F.dnew
  at_ := fun q hq => by
    obtain ⟨q0, h0, e⟩ := List.mem_map.mp hq
    by_cases h : q0.1 = r.1
    · have := key_one F.kd h0 hr h
      subst this
      rw [if_pos rfl] at e
      subst e
      exact ⟨upd_same, (F.at_ q0 hr).2⟩
    · rw [if_neg h] at e
      subst e
      have ne : q0.2.2 ≠ r.2.2 := fun z => h (congrArg (·.1) (addr_one F.nd h0 hr z))
      rw [upd_ne ne]
      exact F.at_ q0 h0
  nd := by
    have e := rowHit_map (fun _ a => a) rows r.1 x
    rw [e]
    exact F.nd
  kd := by
    have e := rowHit_map (fun k _ => k) rows r.1 x
    rw [e]
    exact F.kd
theorem FoundAt.more {H0 H : Hp} {d p : Addr} {rows : List Row} (F : FoundAt H0 H d rows) (e0 : H0 p = none) (hp : H p = none) {l x : Nat} (hl : ∀ r ∈ rows, r.1 ≠ l) :
    FoundAt H0 (upd (upd (upd H p (.lst [])) d (.dK (putK (rowKv rows) (.inl (l : Int)) (.ref p)))) p (.lst ([x].map vn))) d (rows ++ [(l, [x], p)]) := by
  have nd : d ≠ p := fun e => by
    have h1 := F.dict
    rw [e, hp] at h1
    cases h1
  have na : ∀ r ∈ rows, r.2.2 ≠ p ∧ r.2.2 ≠ d := fun r hr => by
    have h1 := (F.at_ r hr).1
    refine ⟨fun e => ?_, fun e => ?_⟩
    · rw [e, hp] at h1
      cases h1
    · rw [e, F.dict] at h1
      cases h1
  refine ⟨?_, F.dnew, fun r hr => ?_, ?_, ?_⟩
  · rw [upd_ne nd, upd_same]
    have e : (rowKv rows).any (fun kv => decide (kv.1 = (Sum.inl (l : Int) : Key))) = false := by
      rw [List.any_eq_false]
      intro kv hkv
      obtain ⟨r, hr, rfl⟩ := List.mem_map.mp hkv
      have := hl r hr
      simp
      omega
    unfold putK
    rw [if_neg (by rw [e]; exact Bool.false_ne_true)]
    unfold rowKv
    rw [List.map_append]
    rfl
  · rcases List.mem_append.mp hr with h | h
    · rw [upd_ne (na r h).1, upd_ne (na r h).2, upd_ne (na r h).1]
      exact F.at_ r h
    · have e := List.mem_singleton.mp h
      subst e
      exact ⟨upd_same, e0⟩
  · rw [List.map_append, List.nodup_append]
    refine ⟨F.nd, by simp, fun a ha b hb => ?_⟩
    obtain ⟨r, hr, rfl⟩ := List.mem_map.mp ha
    simp at hb
    subst hb
    exact (na r hr).1
  · rw [List.map_append, List.nodup_append]
    refine ⟨F.kd, by simp, fun a ha b hb => ?_⟩
    obtain ⟨r, hr, rfl⟩ := List.mem_map.mp ha
    simp at hb
    subst hb
    exact hl r hr
theorem fs_hit {rows : List Row} {r : Row} (hr : r ∈ rows) (x : Nat) : fsOf (rowHit rows r.1 x) = putIn (fsOf rows) r.1 x := by
  have e : (fsOf rows).any (fun p => decide (p.1 = r.1)) = true := List.any_eq_true.mpr ⟨(r.1, r.2.1), List.mem_map.mpr ⟨r, hr, rfl⟩, by simp⟩
  unfold putIn
  rw [if_pos e]
  unfold fsOf rowHit
  rw [List.map_map, List.map_map]
  refine List.map_congr_left fun q _ => ?_
  by_cases h : q.1 = r.1
  · simp [h]
  · simp [h]
theorem fs_more {rows : List Row} {l x : Nat} {p : Addr} (hl : ∀ r ∈ rows, r.1 ≠ l) : fsOf (rows ++ [(l, [x], p)]) = putIn (fsOf rows) l x := by
  unfold putIn
  rw [if_neg ?_]
  · unfold fsOf
    rw [List.map_append]
    rfl
  · rw [List.any_eq_true]
    rintro ⟨q, hq, e⟩
    obtain ⟨r, hr, rfl⟩ := List.mem_map.mp hq
    exact hl r hr (of_decide_eq_true e)
theorem putIn_len (fs : List (Nat × List Nat)) (l x : Nat) : (putIn fs l x).length ≤ fs.length + 1 := by
  unfold putIn
  split <;> simp
theorem x_lvals {σ : L2.St} {H : Hp} {Q : VK} {td : TE} (q : td σ H fun x H1 => ∃ a kvs, x = V.ref a ∧ H1 a = some (.dK kvs) ∧ ∀ l, H1 l = none → Q (.ref l) (upd H1 l (.lst (kvs.map (·.2))))) : tLVals td σ H Q := q
/-! groups: slots image 0, labels 1, record 2, name 3, least 4, merged 5, label 6, found 7; calls ['check_image']; built-ins ['len', 'list', 'range', 'enumerate', 'min', 'max'] -/
abbrev s_groups : Stmt := top 9
abbrev N_groups : List Str := ["image", "labels", "record", "name", "least", "merged", "label", "found"]
theorem sc_groups : FnScope N_groups ["image"] (defScope s_groups) := ⟨rfl, rfl, rfl, by decide +kernel, rfl, by decide +kernel, by decide +kernel⟩

def spGroups (K : PySem.W.Frag) : Sp := fun vs H Q _ => ∃ (a : Addr) (im : List Nat), vs = [.ref a] ∧ SqL K H a (im.map vn) ∧ Img im ∧ im.length ≤ 1000 ∧ Ret (rL (rL (rNat K))) (groupsOf im) H Q
theorem mergeStep_len (im ls : List Nat) (i : Nat) : (mergeStep im ls i).length = ls.length := List.length_map _
set_option linter.unusedVariables false in
theorem ok_groups {f : Addr} {fd : FuncData} (F : Fun K "groups" "groups" s_groups f fd) (T : Txt mg) (D_check_image : Df P w K mg base "check_image" 1 ["image"] (spCheck K)) : FnOk P w K mg base CX0 2 f fd ["image"] (spGroups K) := by
  refine F.ok sc_groups (fun vs H Q E h => ?_) (fun cdv A outer s H vs Q E hr h => ?_)
  · obtain ⟨_, _, rfl, _⟩ := h
    rfl
  · obtain ⟨a, im, rfl, hS, hI, hz, q⟩ := h
    refine ⟨_, (pss_cons (ps_expr (pe_callD D_check_image (hr.mono (by decide)) (by rfl) (pa_cons (pv 0) pa_nil)))
  (pss_cons (ps_set (i := 1) sc_groups.nd rfl (by first | exact Or.inl rfl | exact Or.inr rfl) (pe_listRg rfl (by rfl) T.b_list (prg_1 (by rfl) T.b_range (pe_callB call_len_seq (by rfl) T.b_len (by decide +kernel) (pa_cons (pv 0) pa_nil)))))
  (pss_cons (ps_for PassesOwn.never rfl (pi_enum (by rfl) T.b_enumerate (pa_cons (pv 0) pa_nil)) (pg_tup (by rfl) (pgs_cons (pg_name (i := 2) sc_groups.nd rfl (by first | exact Or.inl rfl | exact Or.inr rfl)) (pgs_cons (pg_name (i := 3) sc_groups.nd rfl (by first | exact Or.inl rfl | exact Or.inr rfl)) pgs_nil))) (pss_cons (ps_set (i := 4) sc_groups.nd rfl (by first | exact Or.inl rfl | exact Or.inr rfl) (pe_callB (call_min2 rfl) (by rfl) T.b_min (by decide +kernel) (pa_cons (pe_ix ix_list (pv 1) (pv 2) (fun _ _ => rfl)) (pa_cons (pe_ix ix_list (pv 1) (pv 3) (fun _ _ => rfl)) pa_nil))))
  (pss_cons (ps_set (i := 5) sc_groups.nd rfl (by first | exact Or.inl rfl | exact Or.inr rfl) (pe_callB (call_max2 rfl) (by rfl) T.b_max (by decide +kernel) (pa_cons (pe_ix ix_list (pv 1) (pv 2) (fun _ _ => rfl)) (pa_cons (pe_ix ix_list (pv 1) (pv 3) (fun _ _ => rfl)) pa_nil))))
  (pss_one (ps_if (pt_cmpR op_ne (pv 4) (pv 5) (nomark _)) (pss_one (ps_setLc (i := 1) (own := [("label", 6)]) (g := gName 6) rfl sc_groups.nd rfl rfl (sw_true rfl rfl rfl (by decide +kernel)) (pi_list (pv 1)) (blkOk_by (N := N_groups) (sc := defScope s_groups) (by decide +kernel)) (fun _ _ _ _ _ => pg_name (i := 6) sc_groups.nd rfl (Or.inl rfl)) (fun _ _ _ _ _ => pts_nil) (fun _ _ _ _ _ => (pe_ifExp (pt_cmpR op_eq (pv 6) (pv 5) (nomark _)) (pv 4) (pv 6))))) pss_nil)))))
  (pss_cons (ps_set (i := 7) sc_groups.nd rfl (by first | exact Or.inl rfl | exact Or.inr rfl) pe_dnewK)
  (pss_cons (ps_for PassesOwn.never rfl (pi_enum (by rfl) T.b_enumerate (pa_cons (pv 1) pa_nil)) (pg_tup (by rfl) (pgs_cons (pg_name (i := 2) sc_groups.nd rfl (by first | exact Or.inl rfl | exact Or.inr rfl)) (pgs_cons (pg_name (i := 6) sc_groups.nd rfl (by first | exact Or.inl rfl | exact Or.inr rfl)) pgs_nil))) (pss_one (ps_expr (pe_bm PySem.F.plainAttrs_list PySem.F.slot_list_append PySem.F.type_list_append mt_append (pe_dsetd (pv 7) (pv 6) (pe_lst pa_nil) ⟨by rfl, by rfl, by rfl, by rfl⟩) (pa_cons (pv 2) pa_nil)))))
  (pss_one (ps_ret (pe_lvals rfl (by rfl) T.b_list (pv 7))))))))), ?_⟩
    refine x_start (σ := [some _, none, none, none, none, none, none, none]) rfl ?_
    walk_at "x"
    refine ⟨a, im, rfl, hS, hI, fun H1 e1 => ?_⟩
    walk_at "x"
    refine x_lstRg1 ?_
    walk_at "x"
    refine ⟨a, _, rfl, .inl (e1.l hS), ?_⟩
    rw [List.length_map]
    refine ⟨_, rfl, RgOk.of_le (by omega) (by omega) (by omega) (by omega), fun l hl => ?_⟩
    rw [rgV_nat]
    walk_at "x"
    refine x_forE ?_
    walk_at "x"
    refine ⟨a, _, rfl, (Ex.trans e1 (Ex.new hl)).l hS, ?_⟩
    have hl0 := e1.none hl
    refine loopE_foldl (p := 2) (q := 3) (xs := im) (List.length_map _) (fun ls i _ => mergeStep im ls i) (fun i ls σ' H' => Ex H H' ∧ ls.length = im.length ∧ ∃ l x y z u v, σ' = [some (.ref a), some (.ref l), x, y, z, u, v, none] ∧ H' l = some (.lst (ls.map vn)) ∧ H l = none)
      (List.range im.length) ⟨Ex.trans e1 (Ex.new hl), List.length_range, l, _, _, _, _, _, rfl, upd_same, hl0⟩ (fun i s σ' H' h => h.1.l hS) ?_ ?_
    · rintro ls i x u t σ' H' hx hu ⟨e, hlen, l, y1, y2, y3, y4, y5, rfl, hH, hn⟩ ht
      dsimp only [List.set_cons_succ, List.set_cons_zero]
      have hu' : u = vn x := by
        rw [List.getElem?_map, hx] at hu
        exact (Option.some.inj hu).symm
      subst hu'
      have hx' := hI x (List.mem_of_getElem? hx)
      have hi : i < im.length := (List.getElem?_eq_some_iff.mp hx).1
      have hxg : gt im i = x := gt_of hx
      have e' := Ex.trans e (Ex.new (o := .tup [vn i, vn x]) ht)
      have hH' : upd H' t (.tup [vn i, vn x]) l = some (.lst (ls.map vn)) := (Ex.new ht) _ _ hH
      walk_at "x"
      refine x_ixN (SqL.of hH') rfl (by omega) ?_
      walk_at "x"
      refine x_ixN (SqL.of hH') rfl (by omega) ?_
      refine ⟨_, _, rfl, ?_⟩
      walk_at "x"
      refine x_ixN (SqL.of hH') rfl (by omega) ?_
      walk_at "x"
      refine x_ixN (SqL.of hH') rfl (by omega) ?_
      refine ⟨_, _, rfl, ?_⟩
      have em : (if (gt ls x : Int) < (gt ls i : Int) then (gt ls x : Int) else (gt ls i : Int)) = ((min (gt ls i) (gt ls x) : Nat) : Int) := by
        split <;> omega
      have eM : (if (gt ls x : Int) > (gt ls i : Int) then (gt ls x : Int) else (gt ls i : Int)) = ((max (gt ls i) (gt ls x) : Nat) : Int) := by
        split <;> omega
      rw [em, eM]
      walk_at "x"
      have lt1000 : ls.length < 100000 := by omega
      refine x_ndecI (fun h1 => ?_) (fun h1 => ?_)
      · walk_at "x"
        refine x_lcL ?_
        walk_at "x"
        refine ⟨l, rfl, ⟨_, SqL.of hH'⟩, ?_⟩
        refine compL_map (xs := ls) (SqL.of hH') (List.length_map _) lt1000 (fun _ => true) (fun z => vn (if z = max (gt ls i) (gt ls x) then min (gt ls i) (gt ls x) else z)) (fun _ => rfl) (fun j z uz H2 hz huz e2 Qt qt => ?_) (fun j z uz H2 hz huz _ e2 Qe qe => ?_) (fun Dl H2 hD e2 hH2 => ?_)
        · exact qt _ (Ex.refl _)
        · have huz' : uz = vn z := by
            rw [List.getElem?_map, hz] at huz
            exact (Option.some.inj huz).symm
          subst huz'
          walk_at "x"
          refine x_decI (fun h2 => ?_) (fun h2 => ?_)
          · walk_at "x"
            have h2' : z = max (gt ls i) (gt ls x) := by omega
            have q := qe _ (Ex.refl _)
            rw [if_pos h2'] at q
            exact q
          · walk_at "x"
            have h2' : ¬ z = max (gt ls i) (gt ls x) := by omega
            have q := qe _ (Ex.refl _)
            rw [if_neg h2'] at q
            exact q
        · walk_at "x"
          refine ⟨Ex.trans e' e2, by rw [mergeStep_len]; exact hlen, Dl, _, _, _, _, _, rfl, ?_, (Ex.trans e (Ex.new ht)).none hD⟩
          rw [hH2, accOf_all]
          unfold mergeStep
          rw [List.map_map, hxg]
          rfl
      · walk_at "x"
        have em : mergeStep im ls i = ls := by
          unfold mergeStep
          rw [hxg]
          refine (List.map_congr_left (g := id) fun z _ => ?_).trans (List.map_id _)
          show (if z = _ then _ else z) = z
          split <;> omega
        rw [em]
        exact ⟨e', hlen, l, _, _, _, _, _, rfl, hH', hn⟩
    · rintro σ' H' ls ⟨e, hlen, l, y1, y2, y3, y4, y5, rfl, hH, hn⟩ els
      have els' : ls = labelsOf im := by
        rw [els, zipIdx_range (mergeStep im) im 0]
        unfold labelsOf
        rw [List.range_eq_range']
      clear els
      walk_at "x"
      intro d hd
      walk_at "x"
      refine x_forE ?_
      walk_at "x"
      have eD := Ex.new (o := .dK []) hd
      have hH2 := eD _ _ hH
      have hne : l ≠ d := fun z => by rw [z, hd] at hH; cases hH
      refine ⟨l, _, rfl, SqL.of hH2, ?_⟩
      refine loopE_foldl (p := 2) (q := 6) (xs := ls) (List.length_map _) (fun fs i x => putIn fs x i) (fun i fs σ' H' => Ex H H' ∧ H' l = some (.lst (ls.map vn)) ∧ fs.length ≤ i ∧ ∃ rows, fs = fsOf rows ∧ FoundAt H H' d rows ∧ (∀ r ∈ rows, r.2.2 ≠ l ∧ r.2.1.length ≤ i) ∧ ∃ y1 y2 y3 y4 y5, σ' = [some (.ref a), some (.ref l), y1, y2, y3, y4, y5, some (.ref d)])
        [] ⟨Ex.trans e eD, hH2, Nat.le_refl _, [], rfl, ⟨upd_same, e.none hd, fun r hr => (by cases hr), List.nodup_nil, List.nodup_nil⟩, fun r hr => (by cases hr), _, _, _, _, _, rfl⟩ (fun i s σ' H' h => SqL.of h.2.1) ?_ ?_
      · rintro fs i x u t σ' H' hx hu ⟨e, hl', hfl, rows, rfl, F, hrl, z1, z2, z3, z4, z5, rfl⟩ ht
        dsimp only [List.set_cons_succ, List.set_cons_zero]
        have hu' : u = vn x := by
          rw [List.getElem?_map, hx] at hu
          exact (Option.some.inj hu).symm
        subst hu'
        have hi : i < ls.length := (List.getElem?_eq_some_iff.mp hx).1
        walk_at "x"
        refine x_dsetd ?_
        walk_at "x"
        have e' := Ex.trans e (Ex.new (o := .tup [vn i, vn x]) ht)
        have F1 : FoundAt H (upd H' t (.tup [vn i, vn x])) d rows := ⟨(Ex.new ht) _ _ F.dict, F.dnew, fun r hr => ⟨(Ex.new ht) _ _ (F.at_ r hr).1, (F.at_ r hr).2⟩, F.nd, F.kd⟩
        have hl1 := (Ex.new (o := .tup [vn i, vn x]) ht) _ _ hl'
        generalize upd H' t (.tup [vn i, vn x]) = Ha at e' F1 hl1 ⊢
        refine ⟨d, rfl, .inl ⟨_, Rd.of F1.dict⟩, ?_⟩
        walk_at "x"
        refine ⟨by decide, fun p hp => ?_⟩
        have e2 := Ex.trans e' (Ex.new (o := .lst []) hp)
        have F2 : FoundAt H (upd Ha p (.lst [])) d rows := ⟨(Ex.new hp) _ _ F1.dict, F1.dnew, fun r hr => ⟨(Ex.new hp) _ _ (F1.at_ r hr).1, (F1.at_ r hr).2⟩, F1.nd, F1.kd⟩
        have hl2 := (Ex.new (o := .lst []) hp) _ _ hl1
        have lenk : (rowKv rows).length ≤ i := by
          unfold rowKv
          unfold fsOf at hfl
          rw [List.length_map] at hfl ⊢
          exact hfl
        have szl : i + 1 < sizeLine := by rw [sizeLine_eq]; omega
        refine ⟨rowKv rows, .inl (x : Int), F2.dict, rfl, by omega, fun v hv => ?_, fun hv => ?_⟩
        · rcases rows_val (l := x) (rows := rows) with ⟨r, hr, h1, h2⟩ | ⟨_, h2⟩
          · rw [h2] at hv
            cases hv
            subst h1
            refine ⟨.inl ⟨rfl, _, SqL.of (F2.at_ r hr).1⟩, ?_⟩
            walk_at "x"
            refine x_append (F2.at_ r hr).1 ?_ ?_
            · rw [List.length_map]
              have := (hrl r hr).2
              omega
            · rw [← List.map_singleton, ← List.map_append]
              refine ⟨Ex.mut e2 (F2.at_ r hr).2, ?_, ?_, rowHit rows r.1 i, (fs_hit hr i).symm, F2.hit hr i, fun q hq => ?_, _, _, _, _, _, rfl⟩
              · rw [upd_ne (fun z => (hrl r hr).1 z.symm)]
                exact hl2
              · have := putIn_len (fsOf rows) r.1 i
                omega
              · obtain ⟨q0, h0, e0⟩ := List.mem_map.mp hq
                obtain ⟨g1, g2⟩ := hrl q0 h0
                rw [← e0]
                split
                · refine ⟨g1, ?_⟩
                  show (q0.2.1 ++ [i]).length ≤ i + 1
                  rw [List.length_append]
                  exact Nat.succ_le_succ g2
                · exact ⟨g1, Nat.le_succ_of_le g2⟩
          · rw [h2] at hv
            cases hv
        · rcases rows_val (l := x) (rows := rows) with ⟨r, hr, h1, h2⟩ | ⟨h1, h2⟩
          · rw [h2] at hv
            cases hv
          · have hpd : p ≠ d := fun z => by rw [z, F1.dict] at hp; cases hp
            have hp3 : upd (upd Ha p (.lst [])) d (.dK (putK (rowKv rows) (.inl (x : Int)) (.ref p))) p = some (.lst []) := by
              rw [upd_ne hpd]
              exact upd_same
            refine ⟨.inl ⟨rfl, _, SqL.of hp3⟩, ?_⟩
            walk_at "x"
            refine x_append hp3 (by decide) ?_
            have ep := e'.none hp
            have lp : l ≠ p := fun z => by rw [z, hp] at hl1; cases hl1
            have ld : l ≠ d := fun z => by rw [z, F1.dict] at hl1; cases hl1
            refine ⟨Ex.mut (Ex.mut e2 F.dnew) ep, ?_, ?_, rows ++ [(x, [i], p)], (fs_more h1).symm, F1.more ep hp h1, fun q hq => ?_, _, _, _, _, _, rfl⟩
            · rw [upd_ne lp, upd_ne ld]
              exact hl2
            · have := putIn_len (fsOf rows) x i
              omega
            · rcases List.mem_append.mp hq with z | z
              · exact ⟨(hrl q z).1, Nat.le_succ_of_le (hrl q z).2⟩
              · rw [List.mem_singleton.mp z]
                exact ⟨fun z => lp z.symm, by show 1 ≤ i + 1; omega⟩
      · rintro σ' H' fs ⟨e, hl', hfl, rows, rfl, F, hrl, z1, z2, z3, z4, z5, rfl⟩ efs
        walk_at "x"
        have efs' : fsOf rows = foundOf ls := by
          rw [efs, zipIdx_gt, List.foldl_map]
          rfl
        clear efs
        refine x_lvals ?_
        walk_at "x"
        refine ⟨d, _, rfl, F.dict, fun l2 hl2 => ?_⟩
        refine q _ _ (Ex.trans e (Ex.new hl2)) ?_
        refine ⟨l2, _, rfl, LstA.new upd_same (e.none hl2), ?_⟩
        unfold groupsOf
        rw [← els', ← efs']
        unfold fsOf rowKv
        rw [List.map_map, List.map_map]
        refine paired_map rows _ _ fun r hr => ?_
        exact rLn' (LstA.new ((Ex.new hl2) _ _ (F.at_ r hr).1) (F.at_ r hr).2)
end
end Pm
end
section
set_option Elab.async false
set_option maxRecDepth 100000
set_option maxHeartbeats 4000000
set_option linter.all false
namespace Pm
open PySem L2
local macro_rules | `(tactic| walk_at "ex") => `(tactic| first | exact Ex.refl _ | assumption | exact Ex.new (by assumption) | exact Ex.trans (by walk_at "ex") (by assumption) | exact Ex.trans (by walk_at "ex") (Ex.new (by assumption)) | exact Ex.mut (by walk_at "ex") (by first | assumption | exact Ex.none (by walk_at "ex") (by assumption)))
local macro_rules | `(tactic| walk_at "sq") => `(tactic| first | assumption | exact Ex.l (by walk_at "ex") (by assumption) | exact Ex.t (by walk_at "ex") (by assumption) | exact SqL.of (by walk_at "hp") | exact SqT.of (by walk_at "hp") | exact Ex.l (by walk_at "ex") (LstA.sq (by assumption)) | exact Ex.t (by walk_at "ex") (TupA.sq (by assumption)))
local macro_rules | `(tactic| walk_at "hp") => `(tactic| first | assumption | exact upd_same | (refine (by walk_at "ex" : Ex _ _) _ _ ?_; assumption) | (refine (by walk_at "ex" : Ex _ _) _ _ ?_; exact upd_same))
local macro_rules | `(tactic| walk_at "x1") => `(tactic| first
  | (with_reducible refine x_seq ?_) | (with_reducible refine x_asg ?_) | ((with_reducible refine x_name ?_); dsimp only [List.set_cons_succ, List.set_cons_zero])
  | (with_reducible refine x_ret ?_) | (with_reducible refine x_if ?_) | (with_reducible refine x_drop ?_) | (with_reducible refine x_next ?_)
  | ((with_reducible refine' x_var ?h ?_); (case h => rfl)) | (with_reducible refine x_c ?_) | (with_reducible refine x_op ?_) | (with_reducible refine x_un ?_)
  | (with_reducible refine x_I0 ?_) | ((with_reducible refine x_I ?h ?_); (case h => first | exact Or.inl (by omega) | exact Or.inr (by omega) | omega | (constructor <;> omega))) | (with_reducible refine x_U ?_)
  | ((with_reducible refine' x_eq ?h ?_); (case h => rfl)) | ((with_reducible refine' x_ne ?h ?_); (case h => rfl))
  | (with_reducible refine x_cb ?_) | (with_reducible refine x_call ?_) | (with_reducible refine x_nil ?_) | (with_reducible refine x_cons ?_)
  | (with_reducible refine x_test ?_) | (with_reducible refine x_tB ?_) | (with_reducible refine x_bl ?_) | (with_reducible refine x_or ?_) | (with_reducible refine x_and ?_) | (with_reducible refine x_not ?_)
  | (with_reducible refine x_ifE ?_) | (with_reducible refine x_lst ?_) | (with_reducible refine x_tup ?_)
  | (with_reducible refine x_bm ?_) | (with_reducible refine x_bmG ?_) | (with_reducible refine x_chain ?_) | (with_reducible refine x_orV ?_) | (with_reducible refine x_andV ?_) | (with_reducible refine x_notV ?_) | (with_reducible refine x_sub ?_) | (with_reducible refine x_star ?_) | (with_reducible refine x_sl ?_) | (with_reducible refine x_po ?_) | (with_reducible refine x_pn ?_))
local macro_rules | `(tactic| walk_at "y1") => `(tactic| first
  | (with_reducible refine x_seq ?_) | (with_reducible refine x_asg ?_) | ((with_reducible refine x_name ?_); dsimp only [List.set_cons_succ, List.set_cons_zero])
  | (with_reducible refine x_drop ?_) | (with_reducible refine x_next ?_)
  | ((with_reducible refine' x_var ?h ?_); (case h => rfl)) | (with_reducible refine x_c ?_) | (with_reducible refine x_op ?_) | (with_reducible refine x_un ?_)
  | (with_reducible refine x_I0 ?_) | ((with_reducible refine x_I ?h ?_); (case h => first | exact Or.inl (by omega) | exact Or.inr (by omega) | omega | (constructor <;> omega))) | (with_reducible refine x_U ?_)
  | ((with_reducible refine' x_eq ?h ?_); (case h => rfl)) | ((with_reducible refine' x_ne ?h ?_); (case h => rfl))
  | (with_reducible refine x_cb ?_) | (with_reducible refine x_call ?_) | (with_reducible refine x_nil ?_) | (with_reducible refine x_cons ?_)
  | (with_reducible refine x_test ?_) | (with_reducible refine x_tB ?_) | (with_reducible refine x_bl ?_) | (with_reducible refine x_or ?_) | (with_reducible refine x_and ?_) | (with_reducible refine x_not ?_)
  | (with_reducible refine x_ifE ?_) | (with_reducible refine x_lst ?_) | (with_reducible refine x_tup ?_)
  | (with_reducible refine x_bm ?_) | (with_reducible refine x_bmG ?_) | (with_reducible refine x_chain ?_) | (with_reducible refine x_orV ?_) | (with_reducible refine x_andV ?_) | (with_reducible refine x_notV ?_) | (with_reducible refine x_sub ?_) | (with_reducible refine x_star ?_) | (with_reducible refine x_sl ?_) | (with_reducible refine x_po ?_) | (with_reducible refine x_pn ?_))
local macro_rules | `(tactic| walk_at "xi") => `(tactic| first | (with_reducible refine iteT ?_) | (with_reducible refine iteF ?_) | (with_reducible refine x_notT ?_) | (with_reducible refine x_notF ?_))
local macro_rules | `(tactic| walk_at "x") => `(tactic| ((try dsimp only); repeat ((first | walk_at "x1" | walk_at "xi"); (try dsimp only))))
local macro_rules | `(tactic| walk_at "y") => `(tactic| ((try dsimp only); repeat ((first | walk_at "y1" | walk_at "xi"); (try dsimp only))))

theorem last_at {xs : List Nat} (h : xs ≠ []) : (xs.map vn)[xs.length - 1]? = some (vn (xs.getLastD 0)) := by
  have hl : xs.length - 1 < xs.length := by have := List.length_pos_iff.mpr h; omega
  rw [List.getElem?_map, List.getElem?_eq_getElem hl]
  rw [List.getLastD_eq_getLast?, List.getLast?_eq_getElem?, List.getElem?_eq_getElem hl]
  rfl
theorem last_mem {xs : List Nat} (h : xs ≠ []) : xs.getLastD 0 ∈ xs := by
  rw [List.getLastD_eq_getLast?, List.getLast?_eq_some_getLast h]
  exact List.getLast_mem h
theorem nodup_len {xs : List Nat} {n : Nat} (nd : xs.Nodup) (h : ∀ x ∈ xs, x < n) : xs.length ≤ n := by
  have := L2.nat_nodup_len xs (List.range n) nd fun x hx => List.mem_range.mpr (h x hx)
  rw [List.length_range] at this
  exact this
theorem walkN_ok {im g : List Nat} (hC : Closed im g) : ∀ (f : Nat) (p : List Nat), p ≠ [] → (∀ r ∈ p, r ∈ g) → p.Nodup → walkN im f p ≠ [] ∧ (∀ r ∈ walkN im f p, r ∈ g) ∧ (walkN im f p).Nodup
  | 0, p, h1, h2, h3 => ⟨h1, h2, h3⟩
  | f + 1, p, h1, h2, h3 => by
    have e : walkN im (f + 1) p = if gt im (p.getLastD 0) ∈ p then p else walkN im f (p ++ [gt im (p.getLastD 0)]) := rfl
    rw [e]
    split
    · exact ⟨h1, h2, h3⟩
    · rename_i h
      refine walkN_ok hC f _ (by simp) (fun r hr => ?_) ?_
      · rcases List.mem_append.mp hr with z | z
        · exact h2 r z
        · rw [List.mem_singleton.mp z]
          exact (hC _ (h2 _ (last_mem h1))).2
      · rw [List.nodup_append]
        refine ⟨h3, by simp, fun x hx y hy => ?_⟩
        rw [List.mem_singleton.mp hy]
        exact fun z => h (z ▸ hx)
theorem atI_last {xs : List V} {v : V} (h : xs ≠ []) (e : xs[xs.length - 1]? = some v) : atI xs (-1) = some v := by
  unfold atI ixN
  have hl := List.length_pos_iff.mpr h
  have e2 : ((-1 : Int) + (xs.length : Int)).toNat = xs.length - 1 := by omega
  rw [if_neg (by omega), if_pos (by omega), e2]
  exact e
section
variable {P : Program} {w : World} {K : PySem.W.Frag} {mg : Str → Option Value} {base : Heap}
theorem x_ixLast {H : Hp} {Q : VK} {p : Addr} {xs : List Nat} (h : SqL K H p (xs.map vn)) (hn : xs ≠ []) (q : Q (vn (xs.getLastD 0)) H) : rIxL K (.ref p) (.int (-1)) H Q :=
  x_ixL h (atI_last (by simpa using hn) (by rw [List.length_map]; exact last_at hn)) q
/-! _walk: slots image 0, start 1, path 2; calls []; built-ins [] -/
abbrev s_walk : Stmt := top 14
abbrev N_walk : List Str := ["image", "start", "path"]
theorem sc_walk : FnScope N_walk ["image", "start"] (defScope s_walk) := ⟨rfl, rfl, rfl, by decide +kernel, rfl, by decide +kernel, by decide +kernel⟩

def spWalk (K : PySem.W.Frag) : Sp := fun vs H Q _ => ∃ (a : Addr) (im g : List Nat) (s : Nat), vs = [.ref a, vn s] ∧ SqL K H a (im.map vn) ∧ Closed im g ∧ s ∈ g ∧ im.length ≤ 1000 ∧ RetL ((walkN im im.length [s]).map vn) H Q
theorem ok_walk {f : Addr} {fd : FuncData} (F : Fun K "_walk" "_walk" s_walk f fd) : FnOk P w K mg base CX0 1 f fd ["image", "start"] (spWalk K) := by
  refine F.ok sc_walk (fun vs H Q E h => ?_) (fun cdv A outer s H vs Q E hr h => ?_)
  · obtain ⟨_, _, _, _, rfl, _⟩ := h
    rfl
  · obtain ⟨a, im, g, st, rfl, hS, hC, hs, hz, q⟩ := h
    refine ⟨_, (pss_cons (ps_set (i := 2) sc_walk.nd rfl (by first | exact Or.inl rfl | exact Or.inr rfl) (pe_lst (pa_cons (pv 1) pa_nil)))
  (pss_cons (ps_while PassesOwn.never (pt_cmpR op_notIn_seq (pe_ix ix_list (pv 0) (pe_ix ix_list (pv 2) (pe_un un_neg pe_int) (fun _ _ => rfl)) (fun _ _ => rfl)) (pv 2) (by rfl)) (pss_one (ps_expr (pe_bm PySem.F.plainAttrs_list PySem.F.slot_list_append PySem.F.type_list_append mt_append (pv 2) (pa_cons (pe_ix ix_list (pv 0) (pe_ix ix_list (pv 2) (pe_un un_neg pe_int) (fun _ _ => rfl)) (fun _ _ => rfl)) pa_nil)))))
  (pss_one (ps_ret (pv 2))))), ?_⟩
    refine x_start (σ := [some _, some _, none]) rfl ?_
    walk_at "x"
    refine ⟨by show 1 ≤ sizeLine; decide, fun l hl => ?_⟩
    walk_at "x"
    refine x_while ?_
    refine ⟨fun m σ' H' => ∃ p : List Nat, m = im.length + 1 - p.length ∧ p ≠ [] ∧ p.Nodup ∧ (∀ r ∈ p, r ∈ g) ∧ walkN im m p = walkN im im.length [st] ∧ Ex H H' ∧ σ' = [some (.ref a), some (vn st), some (.ref l)] ∧ H' l = some (.lst (p.map vn)), ⟨_, [st], rfl, by simp, by simp, by simpa using hs, rfl, Ex.new hl, rfl, upd_same⟩, ?_⟩
    rintro m σ' H' ⟨p, rfl, hne, nd, hg, hw, e, rfl, hH⟩
    have plen : p.length ≤ im.length := nodup_len nd fun r hr => (hC r (hg r hr)).1
    have hla := hC _ (hg _ (last_mem hne))
    walk_at "x"
    refine x_ixLast (SqL.of hH) hne ?_
    refine x_ixN (e.l hS) rfl hla.1 ?_
    walk_at "x"
    refine x_notIn (.inl (SqL.of hH)) ?_
    walk_at "x"
    obtain ⟨fu, hfu⟩ : ∃ fu, im.length + 1 - p.length = fu + 1 := ⟨im.length - p.length, by omega⟩
    refine x_dec (fun h1 => ?_) (fun h1 => ?_)
    · refine ⟨_, fun σ' H' h => h, ?_⟩
      walk_at "x"
      refine ⟨.inl ⟨rfl, _, SqL.of hH⟩, ?_⟩
      walk_at "x"
      refine x_ixLast (SqL.of hH) hne ?_
      refine x_ixN (e.l hS) rfl hla.1 ?_
      walk_at "x"
      refine x_append hH (by rw [List.length_map, sizeLine_eq]; omega) ?_
      rw [← List.map_singleton, ← List.map_append]
      refine ⟨fu, by omega, p ++ [gt im (p.getLastD 0)], by rw [List.length_append]; show fu = im.length + 1 - (p.length + 1); omega, by simp, ?_, fun r hr => ?_, ?_, Ex.mut e hl, rfl, upd_same⟩
      · rw [List.nodup_append]
        refine ⟨nd, by simp, fun x hx y hy => ?_⟩
        rw [List.mem_singleton.mp hy]
        exact fun z => h1 (z ▸ hx)
      · rcases List.mem_append.mp hr with z | z
        · exact hg r z
        · rw [List.mem_singleton.mp z]
          exact hla.2
      · rw [← hw, hfu]
        show _ = (if gt im (p.getLastD 0) ∈ p then p else walkN im fu (p ++ [gt im (p.getLastD 0)]))
        rw [if_neg h1]
    · walk_at "x"
      refine q _ _ e hl ?_
      rw [← hw, hfu]
      show _ = some (HO.lst ((if gt im (p.getLastD 0) ∈ p then p else walkN im fu (p ++ [gt im (p.getLastD 0)])).map vn))
      rw [if_pos (Classical.not_not.mp h1)]
      exact hH
end
end Pm
end
section
set_option Elab.async false
set_option maxRecDepth 100000
set_option maxHeartbeats 4000000
set_option linter.all false
namespace Pm
open PySem L2
local macro_rules | `(tactic| walk_at "ex") => `(tactic| first | exact Ex.refl _ | assumption | exact Ex.new (by assumption) | exact Ex.trans (by walk_at "ex") (by assumption) | exact Ex.trans (by walk_at "ex") (Ex.new (by assumption)) | exact Ex.mut (by walk_at "ex") (by first | assumption | exact Ex.none (by walk_at "ex") (by assumption)))
local macro_rules | `(tactic| walk_at "sq") => `(tactic| first | assumption | exact Ex.l (by walk_at "ex") (by assumption) | exact Ex.t (by walk_at "ex") (by assumption) | exact SqL.of (by walk_at "hp") | exact SqT.of (by walk_at "hp") | exact Ex.l (by walk_at "ex") (LstA.sq (by assumption)) | exact Ex.t (by walk_at "ex") (TupA.sq (by assumption)))
local macro_rules | `(tactic| walk_at "hp") => `(tactic| first | assumption | exact upd_same | (refine (by walk_at "ex" : Ex _ _) _ _ ?_; assumption) | (refine (by walk_at "ex" : Ex _ _) _ _ ?_; exact upd_same))
local macro_rules | `(tactic| walk_at "x1") => `(tactic| first
  | (with_reducible refine x_seq ?_) | (with_reducible refine x_asg ?_) | ((with_reducible refine x_name ?_); dsimp only [List.set_cons_succ, List.set_cons_zero])
  | (with_reducible refine x_ret ?_) | (with_reducible refine x_if ?_) | (with_reducible refine x_drop ?_) | (with_reducible refine x_next ?_)
  | ((with_reducible refine' x_var ?h ?_); (case h => rfl)) | (with_reducible refine x_c ?_) | (with_reducible refine x_op ?_) | (with_reducible refine x_un ?_)
  | (with_reducible refine x_I0 ?_) | ((with_reducible refine x_I ?h ?_); (case h => first | exact Or.inl (by omega) | exact Or.inr (by omega) | omega | (constructor <;> omega))) | (with_reducible refine x_U ?_)
  | ((with_reducible refine' x_eq ?h ?_); (case h => rfl)) | ((with_reducible refine' x_ne ?h ?_); (case h => rfl))
  | (with_reducible refine x_cb ?_) | (with_reducible refine x_call ?_) | (with_reducible refine x_nil ?_) | (with_reducible refine x_cons ?_)
  | (with_reducible refine x_test ?_) | (with_reducible refine x_tB ?_) | (with_reducible refine x_bl ?_) | (with_reducible refine x_or ?_) | (with_reducible refine x_and ?_) | (with_reducible refine x_not ?_)
  | (with_reducible refine x_ifE ?_) | (with_reducible refine x_lst ?_) | (with_reducible refine x_tup ?_)
  | (with_reducible refine x_bm ?_) | (with_reducible refine x_bmG ?_) | (with_reducible refine x_chain ?_) | (with_reducible refine x_orV ?_) | (with_reducible refine x_andV ?_) | (with_reducible refine x_notV ?_) | (with_reducible refine x_sub ?_) | (with_reducible refine x_star ?_) | (with_reducible refine x_sl ?_) | (with_reducible refine x_po ?_) | (with_reducible refine x_pn ?_))
local macro_rules | `(tactic| walk_at "xi") => `(tactic| first | (with_reducible refine iteT ?_) | (with_reducible refine iteF ?_))
local macro_rules | `(tactic| walk_at "x") => `(tactic| ((try dsimp only); repeat ((first | walk_at "x1" | walk_at "xi"); (try dsimp only))))

/-! ### words by their places -/
def wordsL : List Str := ["free", "pair", "claim", "hook", "relay", "clamp", "trail", "wheel"]
def wordOf (k : Nat) : Str := wordsL.getD k "free"
def rWord (K : PySem.W.Frag) : Rp K Nat := ⟨fun _ _ v k => v = .str (wordOf k) ∧ k < 8, fun _ h => h, fun _ h => h⟩
theorem shapes_zip : shapesL = (shapesN.zip wordsL).map fun p => (p.1.map fun (n : Nat) => (n : Int), p.2) := by rfl
theorem int_inj : ∀ {s t : List Nat}, (s.map fun (n : Nat) => (n : Int)) = (t.map fun (n : Nat) => (n : Int)) → s = t
  | [], [], _ => rfl
  | [], _ :: _, h => by cases h
  | _ :: _, [], h => by cases h
  | x :: s, y :: t, h => by
    rw [List.map_cons, List.map_cons] at h
    injection h with h1 h2
    rw [int_inj h2, show x = y by omega]
theorem find_idx {β : Type} (s : List Nat) : ∀ (xs : List (List Nat)) (ws : List β), xs.length = ws.length → ((xs.zip ws).map fun p => ((p.1.map fun (n : Nat) => (n : Int) : List Int), p.2)).find? (fun y => decide (y.1 = s.map fun (n : Nat) => (n : Int))) = ((xs.findIdx? fun t => decide (t = s)).bind fun k => ws[k]?).map fun b => (s.map fun (n : Nat) => (n : Int), b)
  | [], _, _ => rfl
  | x :: xs, [], h => by cases h
  | x :: xs, b :: ws, h => by
    rw [List.zip_cons_cons, List.map_cons, List.findIdx?_cons]
    by_cases e : x = s
    · subst e
      rw [List.find?_cons_of_pos (by simp)]
      simp
    · rw [List.find?_cons_of_neg (by simp; exact fun q => e (int_inj q)), find_idx s xs ws (by simpa using h)]
      simp [e]
      cases xs.findIdx? (fun t => decide (t = s)) <;> rfl
theorem shpGet_eq (s : List Nat) : shpGet (s.map fun (n : Nat) => (n : Int)) = match shapesN.findIdx? (fun t => decide (t = s)) with | some k => .str (wordOf k) | none => .non := by
  unfold shpGet
  rw [shapes_zip, find_idx s shapesN wordsL rfl]
  cases h : shapesN.findIdx? (fun t => decide (t = s)) with
  | none => rfl
  | some k =>
    have hk : k < 8 := (List.findIdx?_eq_some_iff_getElem.mp h).1
    have hk' : k < wordsL.length := hk
    unfold wordOf
    rw [Option.bind_some, List.getElem?_eq_getElem hk']
    show V.str wordsL[k] = V.str (wordsL.getD k "free")
    rw [List.getD_eq_getElem?_getD, List.getElem?_eq_getElem hk']
    rfl
section
variable {P : Program} {w : World} {K : PySem.W.Frag} {mg : Str → Option Value} {base : Heap}
theorem filter_vn {p : Nat → Bool} {xs : List Nat} : accOf p (fun z => vn z) xs = (xs.filter p).map vn := rfl
/-! form_of: slots image 0, group 1, shown 2, record 3, unshown 4, path 5, records 6, shape 7, word 8; calls ['_walk']; built-ins ['len', 'tuple'] -/
abbrev s_form_of : Stmt := top 15
abbrev N_form_of : List Str := ["image", "group", "shown", "record", "unshown", "path", "records", "shape", "word"]
theorem sc_form_of : FnScope N_form_of ["image", "group"] (defScope s_form_of) := ⟨rfl, rfl, rfl, by decide +kernel, rfl, by decide +kernel, by decide +kernel⟩

def spForm (K : PySem.W.Frag) : Sp := fun vs H Q _ => ∃ (a b : Addr) (im g : List Nat), vs = [.ref a, .ref b] ∧ SqL K H a (im.map vn) ∧ SqL K H b (g.map vn) ∧ Closed im g ∧ g ≠ [] ∧ im.length ≤ 1000 ∧ Ret (rO (rP (rWord K) (rT (rNat K)))) (formOf im g) H Q
set_option linter.unusedVariables false in
theorem ok_form_of {f fs : Addr} {fd : FuncData} (F : Fun K "form_of" "form_of" s_form_of f fd) (T : Txt mg) (gL : GInt mg "LARGEST" 4) (gS : mg "SHAPES" = some (.ref fs)) (hSh : ShpAt K fs) (D_walk : Df P w K mg base "_walk" 1 ["image", "start"] (spWalk K)) :
    FnOk P w K mg base CX0 2 f fd ["image", "group"] (spForm K) := by
  refine F.ok sc_form_of (fun vs H Q E h => ?_) (fun cdv A outer s H vs Q E hr h => ?_)
  · obtain ⟨_, _, _, _, rfl, _⟩ := h
    rfl
  · obtain ⟨a, b, im, g, rfl, hS, hG, hC, hne, hz, q⟩ := h
    refine ⟨_, (pss_cons (ps_if (pt_cmpR op_gt (pe_callB call_len_seq (by rfl) T.b_len (by decide +kernel) (pa_cons (pv 1) pa_nil)) (pe_globI (by rfl) gL) (nomark _)) (pss_one (ps_ret pe_non)) pss_nil)
  (pss_cons (ps_set (i := 2) sc_form_of.nd rfl (by first | exact Or.inl rfl | exact Or.inr rfl) (pe_lc (own := [("record", 3)]) (g := gName 3) rfl sc_form_of.nd (pi_list (pv 1)) (blkOk_by (N := N_form_of) (sc := defScope s_form_of) (by decide +kernel)) (fun _ _ _ _ _ => pg_name (i := 3) sc_form_of.nd rfl (Or.inl rfl)) (fun _ _ _ _ _ => pts_nil) (fun _ _ _ _ _ => (pe_ix (ix_listK K rfl) (pv 0) (pv 3) (fun _ _ => rfl)))))
  (pss_cons (ps_setLc (i := 4) (own := [("record", 3)]) (g := gName 3) rfl sc_form_of.nd rfl rfl (sw_true rfl rfl rfl (by decide +kernel)) (pi_list (pv 1)) (blkOk_by (N := N_form_of) (sc := defScope s_form_of) (by decide +kernel)) (fun _ _ _ _ _ => pg_name (i := 3) sc_form_of.nd rfl (Or.inl rfl)) (fun _ _ _ _ _ => (pts_one (pt_cmpR (op_notInK K rfl) (pv 3) (pv 2) (by rfl)))) (fun _ _ _ _ _ => (pv 3)))
  (pss_cons (ps_set (i := 5) sc_form_of.nd rfl (by first | exact Or.inl rfl | exact Or.inr rfl) (pe_callD D_walk (hr.mono (by decide)) (by rfl) (pa_cons (pv 0) (pa_cons (pe_ifExp (pt_truth (pv 4) (by intro _; rfl)) (pe_ix ix_list (pv 4) pe_int (fun _ _ => rfl)) (pe_ix ix_list (pv 1) pe_int (fun _ _ => rfl))) pa_nil))))
  (pss_cons (ps_set (i := 6) sc_form_of.nd rfl (by first | exact Or.inl rfl | exact Or.inr rfl) (pe_op op_cat (pv 5) (pe_lc (own := [("record", 3)]) (g := gName 3) rfl sc_form_of.nd (pi_list (pv 1)) (blkOk_by (N := N_form_of) (sc := defScope s_form_of) (by decide +kernel)) (fun _ _ _ _ _ => pg_name (i := 3) sc_form_of.nd rfl (Or.inl rfl)) (fun _ _ _ _ _ => (pts_one (pt_cmpR (op_notInK K rfl) (pv 3) (pv 5) (by rfl)))) (fun _ _ _ _ _ => (pv 3)))))
  (pss_cons (ps_set (i := 7) sc_form_of.nd rfl (by first | exact Or.inl rfl | exact Or.inr rfl) (pe_callTy call_tuple_of (by rfl) T.b_tuple (by decide +kernel) (pa_cons (pe_lc (own := [("record", 3)]) (g := gName 3) rfl sc_form_of.nd (pi_list (pv 6)) (blkOk_by (N := N_form_of) (sc := defScope s_form_of) (by decide +kernel)) (fun _ _ _ _ _ => pg_name (i := 3) sc_form_of.nd rfl (Or.inl rfl)) (fun _ _ _ _ _ => pts_nil) (fun _ _ _ _ _ => (pe_idxL K rfl (pv 6) (pa_cons (pe_ix (ix_listK K rfl) (pv 0) (pv 3) (fun _ _ => rfl)) pa_nil)))) pa_nil)))
  (pss_cons (ps_set (i := 8) sc_form_of.nd rfl (by first | exact Or.inl rfl | exact Or.inr rfl) (pe_bmG PySem.F.plainAttrs_dict PySem.F.slot_dict_get PySem.F.type_dict_get (mt_shpGet (hu_of hr)) (pe_globR (by rfl) gS) (pa_cons (pv 7) pa_nil)))
  (pss_cons (ps_if (pt_cmpR op_isN (pv 8) pe_non (nomark _)) (pss_one (ps_ret pe_non)) pss_nil)
  (pss_one (ps_ret (pe_tup (pa_cons (pv 8) (pa_cons (pe_callTy call_tuple_of (by rfl) T.b_tuple (by decide +kernel) (pa_cons (pv 6) pa_nil)) pa_nil))))))))))))), ?_⟩
    refine x_start (σ := [some _, some _, none, none, none, none, none, none, none]) rfl ?_
    walk_at "x"
    refine ⟨b, _, rfl, .inl hG, ?_⟩
    rw [List.length_map]
    walk_at "x"
    refine x_dec (fun h1 => ?_) (fun h1 => ?_)
    · walk_at "x"
      refine q _ _ (Ex.refl _) ?_
      have : formOf im g = none := by
        unfold formOf
        rw [if_pos (by omega)]
      rw [this]
      rfl
    have hg4 : g.length ≤ 4 := by omega
    have glt : g.length < 100000 := by omega
    walk_at "x"
    refine x_lcL ?_
    walk_at "x"
    refine ⟨b, rfl, ⟨_, hG⟩, ?_⟩
    refine compL_nat hG glt (fun _ => true) (gt im) (fun _ => rfl) (fun z H2 hz e2 Qt qt => qt _ (Ex.refl _)) (fun z H2 hz _ e2 Qe qe => ?_) (fun l1 H1 n1 e1 h1' => ?_)
    · walk_at "x"
      refine x_ixN (e2.l hS) rfl (hC z hz).1 ?_
      exact qe _ (Ex.refl _)
    rw [filter_all] at h1'
    walk_at "x"
    refine x_lcL ?_
    walk_at "x"
    refine ⟨b, rfl, ⟨_, e1.l hG⟩, ?_⟩
    refine compL_nat (e1.l hG) glt (fun r => decide (r ∉ g.map (gt im))) id (fun _ => rfl) (fun z H2 hz e2 Qt qt => ?_) (fun z H2 hz _ e2 Qe qe => ?_) (fun l2 H2 n2 e2 h2' => ?_)
    · walk_at "x"
      refine x_notIn (.inl (SqL.of (e2 _ _ h1'))) ?_
      walk_at "x"
      exact qt _ (Ex.refl _)
    · walk_at "x"
      exact qe _ (Ex.refl _)
    rw [List.map_id] at h2'
    have hU : g.filter (fun r => decide (r ∉ g.map (gt im))) = unshownOf im g := rfl
    rw [hU] at h2'
    have e02 := Ex.trans e1 e2
    walk_at "x"
    refine ⟨_, .inl ⟨_, SqL.of h2', rfl⟩, ?_⟩
    generalize hst : (if unshownOf im g = [] then gt g 0 else gt (unshownOf im g) 0) = st
    have g0 : 0 < g.length := List.length_pos_iff.mpr hne
    have stg : st ∈ g := by
      rw [← hst]
      split
      · exact gt_mem g0
      · rename_i h
        exact (List.mem_filter.mp (gt_mem (List.length_pos_iff.mpr h))).1
    have hpath : pathOf im g = walkN im im.length [st] := by unfold pathOf; rw [hst]
    refine x_ite2 (vn st) (fun hc R' q' => ?_) (fun hc R' q' => ?_) ?_
    · have hu : unshownOf im g ≠ [] := by
        intro z
        rw [z] at hc
        cases hc
      walk_at "x"
      refine x_ixN (n := 0) (SqL.of h2') rfl (List.length_pos_iff.mpr hu) ?_
      rw [if_neg hu] at hst
      rw [hst]
      exact q'
    · have hu : unshownOf im g = [] := by
        cases h : unshownOf im g with
        | nil => rfl
        | cons _ _ => rw [h] at hc; cases hc
      walk_at "x"
      refine x_ixN (n := 0) (e02.l hG) rfl g0 ?_
      rw [if_pos hu] at hst
      rw [hst]
      exact q'
    walk_at "x"
    refine ⟨a, im, g, st, rfl, e02.l hS, hC, stg, hz, fun l3 H3 e3 n3 h3 => ?_⟩
    rw [← hpath] at h3
    have e03 := Ex.trans e02 e3
    walk_at "x"
    refine x_lcL ?_
    walk_at "x"
    refine ⟨b, rfl, ⟨_, e03.l hG⟩, ?_⟩
    refine compL_nat (e03.l hG) glt (fun r => decide (r ∉ pathOf im g)) id (fun _ => rfl) (fun z H2 hz e2 Qt qt => ?_) (fun z H2 hz _ e2 Qe qe => ?_) (fun l4 H4 n4 e4 h4 => ?_)
    · walk_at "x"
      refine x_notIn (.inl (SqL.of (e2 _ _ h3))) ?_
      walk_at "x"
      exact qt _ (Ex.refl _)
    · walk_at "x"
      exact qe _ (Ex.refl _)
    rw [List.map_id] at h4
    obtain ⟨pne, psub, pnd⟩ : pathOf im g ≠ [] ∧ (∀ r ∈ pathOf im g, r ∈ g) ∧ (pathOf im g).Nodup := by
      rw [hpath]
      exact walkN_ok hC _ _ (by simp) (fun r hr => by rw [List.mem_singleton.mp hr]; exact stg) (by simp)
    have pl : (pathOf im g).length ≤ im.length := nodup_len pnd fun r hr => (hC r (psub r hr)).1
    refine ⟨l3, l4, _, _, rfl, rfl, e4 _ _ h3, h4, ?_, fun l5 n5 => ?_⟩
    · rw [List.length_map, List.length_map, sizeLine_eq]
      have := List.length_filter_le (fun r => decide (r ∉ pathOf im g)) g
      omega
    rw [← List.map_append]
    have hrec : pathOf im g ++ g.filter (fun r => decide (r ∉ pathOf im g)) = recsOf im g := rfl
    rw [hrec]
    have e05 := Ex.trans (Ex.trans e03 e4) (Ex.new (o := .lst ((recsOf im g).map vn)) n5)
    have h5 : upd H4 l5 (.lst ((recsOf im g).map vn)) l5 = some (.lst ((recsOf im g).map vn)) := upd_same
    have n5' := (Ex.trans e03 e4).none n5
    generalize upd H4 l5 (.lst ((recsOf im g).map vn)) = H5 at e05 h5 ⊢
    have rsub : ∀ r ∈ recsOf im g, r ∈ g := fun r hr => by
      rcases List.mem_append.mp hr with z | z
      · exact psub r z
      · exact (List.mem_filter.mp z).1
    have gsub : ∀ r ∈ g, r ∈ recsOf im g := fun r hr => by
      by_cases h : r ∈ pathOf im g
      · exact List.mem_append_left _ h
      · exact List.mem_append_right _ (List.mem_filter.mpr ⟨hr, by simpa using h⟩)
    have rl : (recsOf im g).length < 100000 := by
      unfold recsOf
      rw [List.length_append]
      have := List.length_filter_le (fun r => decide (r ∉ pathOf im g)) g
      omega
    walk_at "x"
    refine x_lcL ?_
    walk_at "x"
    refine ⟨l5, rfl, ⟨_, SqL.of h5⟩, ?_⟩
    refine compL_nat (SqL.of h5) rl (fun _ => true) (fun r => (recsOf im g).idxOf (gt im r)) (fun _ => rfl) (fun z H2 hz e2 Qt qt => qt _ (Ex.refl _)) (fun z H2 hz _ e2 Qe qe => ?_) (fun l6 H6 n6 e6 h6 => ?_)
    · walk_at "x"
      refine ⟨.inl ⟨rfl, _, SqL.of (e2 _ _ h5)⟩, ?_⟩
      have hzc := hC z (rsub z hz)
      walk_at "x"
      refine x_ixN ((Ex.trans e05 e2).l hS) rfl hzc.1 ?_
      walk_at "x"
      refine x_idx (SqL.of (e2 _ _ h5)) (gsub _ hzc.2) ?_
      exact qe _ (Ex.refl _)
    rw [filter_all] at h6
    have hsh : (recsOf im g).map (fun r => (recsOf im g).idxOf (gt im r)) = shapeOf im g := rfl
    rw [hsh] at h6
    walk_at "x"
    refine ⟨l6, _, rfl, .inl ⟨SqL.of h6, fun l7 n7 => ?_⟩⟩
    walk_at "x"
    obtain ⟨so, es, ep, xs, hk, hx, _⟩ := hSh.ex
    refine ⟨TyO.k hk hx.1 hx.2.1, ?_⟩
    walk_at "x"
    refine ⟨fs, l7, (shapeOf im g).map fun (n : Nat) => (n : Int), rfl, rfl, hSh, SqT.of (by rw [vn_int] at *; exact upd_same), ?_⟩
    rw [shpGet_eq]
    have hform : formOf im g = (shapesN.findIdx? fun s => decide (s = shapeOf im g)).map fun w => (w, recsOf im g) := by
      unfold formOf
      rw [if_neg (by omega)]
    have e07 := Ex.trans (Ex.trans e05 e6) (Ex.new (o := .tup ((shapeOf im g).map vn)) n7)
    have h57 := (Ex.new (o := .tup ((shapeOf im g).map vn)) n7) _ _ (e6 _ _ h5)
    generalize upd H6 l7 (.tup ((shapeOf im g).map vn)) = H7 at e07 h57 ⊢
    walk_at "x"
    cases hfi : shapesN.findIdx? (fun s => decide (s = shapeOf im g)) with
    | none =>
      refine ⟨rfl, ?_⟩
      walk_at "x"
      refine dec_t rfl ?_
      walk_at "x"
      refine q _ _ e07 ?_
      rw [hform, hfi]
      rfl
    | some k =>
      refine ⟨rfl, ?_⟩
      walk_at "x"
      refine dec_f (by intro z; cases z) ?_
      walk_at "x"
      refine ⟨l5, _, rfl, .inl ⟨SqL.of h57, fun l8 n8 => ?_⟩⟩
      walk_at "x"
      refine ⟨by show 2 ≤ sizeLine; decide, fun l9 n9 => ?_⟩
      refine q _ _ (Ex.trans (Ex.trans e07 (Ex.new n8)) (Ex.new n9)) ?_
      rw [hform, hfi]
      refine ⟨l9, _, _, rfl, TupA.new upd_same ((Ex.trans e07 (Ex.new n8)).none n9), ⟨rfl, (List.findIdx?_eq_some_iff_getElem.mp hfi).1⟩, rTn' (TupA.new ?_ (e07.none n8))⟩
      exact (Ex.new n9) _ _ upd_same
end
end Pm
end
section
set_option Elab.async false
set_option maxRecDepth 100000
set_option maxHeartbeats 4000000
set_option linter.all false
namespace Pm
open PySem L2
local macro_rules | `(tactic| walk_at "ex") => `(tactic| first | exact Ex.refl _ | assumption | exact Ex.new (by assumption) | exact Ex.trans (by walk_at "ex") (by assumption) | exact Ex.trans (by walk_at "ex") (Ex.new (by assumption)) | exact Ex.mut (by walk_at "ex") (by first | assumption | exact Ex.none (by walk_at "ex") (by assumption)))
local macro_rules | `(tactic| walk_at "sq") => `(tactic| first | assumption | exact Ex.l (by walk_at "ex") (by assumption) | exact Ex.t (by walk_at "ex") (by assumption) | exact SqL.of (by walk_at "hp") | exact SqT.of (by walk_at "hp") | exact Ex.l (by walk_at "ex") (LstA.sq (by assumption)) | exact Ex.t (by walk_at "ex") (TupA.sq (by assumption)))
local macro_rules | `(tactic| walk_at "hp") => `(tactic| first | assumption | exact upd_same | (refine (by walk_at "ex" : Ex _ _) _ _ ?_; assumption) | (refine (by walk_at "ex" : Ex _ _) _ _ ?_; exact upd_same))
local macro_rules | `(tactic| walk_at "x1") => `(tactic| first
  | (with_reducible refine x_seq ?_) | (with_reducible refine x_asg ?_) | ((with_reducible refine x_name ?_); dsimp only [List.set_cons_succ, List.set_cons_zero])
  | (with_reducible refine x_ret ?_) | (with_reducible refine x_if ?_) | (with_reducible refine x_drop ?_) | (with_reducible refine x_next ?_)
  | ((with_reducible refine' x_var ?h ?_); (case h => rfl)) | (with_reducible refine x_c ?_) | (with_reducible refine x_op ?_) | (with_reducible refine x_un ?_)
  | (with_reducible refine x_I0 ?_) | ((with_reducible refine x_I ?h ?_); (case h => first | exact Or.inl (by omega) | exact Or.inr (by omega) | omega | (constructor <;> omega))) | (with_reducible refine x_U ?_)
  | ((with_reducible refine' x_eq ?h ?_); (case h => rfl)) | ((with_reducible refine' x_ne ?h ?_); (case h => rfl))
  | (with_reducible refine x_cb ?_) | (with_reducible refine x_call ?_) | (with_reducible refine x_nil ?_) | (with_reducible refine x_cons ?_)
  | (with_reducible refine x_test ?_) | (with_reducible refine x_tB ?_) | (with_reducible refine x_bl ?_) | (with_reducible refine x_or ?_) | (with_reducible refine x_and ?_) | (with_reducible refine x_not ?_)
  | (with_reducible refine x_ifE ?_) | (with_reducible refine x_lst ?_) | (with_reducible refine x_tup ?_)
  | (with_reducible refine x_bm ?_) | (with_reducible refine x_bmG ?_) | (with_reducible refine x_chain ?_) | (with_reducible refine x_orV ?_) | (with_reducible refine x_andV ?_) | (with_reducible refine x_notV ?_) | (with_reducible refine x_sub ?_) | (with_reducible refine x_star ?_) | (with_reducible refine x_sl ?_) | (with_reducible refine x_po ?_) | (with_reducible refine x_pn ?_))
local macro_rules | `(tactic| walk_at "xi") => `(tactic| first | (with_reducible refine iteT ?_) | (with_reducible refine iteF ?_))
local macro_rules | `(tactic| walk_at "x") => `(tactic| ((try dsimp only); repeat ((first | walk_at "x1" | walk_at "xi"); (try dsimp only))))

theorem foldl_all {α : Type} (p : α → Bool) : ∀ (xs : List α) (b : Bool), xs.foldl (fun s x => s && p x) b = (b && xs.all p)
  | [], b => by simp
  | x :: t, b => by rw [List.foldl_cons, foldl_all p t, List.all_cons, Bool.and_assoc]
section
variable {P : Program} {w : World} {K : PySem.W.Frag} {mg : Str → Option Value} {base : Heap}
/-! first_bad: slots image 0, group 1; calls ['groups', 'form_of']; built-ins [] -/
abbrev s_first_bad : Stmt := top 16
abbrev N_first_bad : List Str := ["image", "group"]
theorem sc_first_bad : FnScope N_first_bad ["image"] (defScope s_first_bad) := ⟨rfl, rfl, rfl, by decide +kernel, rfl, by decide +kernel, by decide +kernel⟩

def spFB (K : PySem.W.Frag) : Sp := fun vs H Q _ => ∃ (a : Addr) (im : List Nat), vs = [.ref a] ∧ SqL K H a (im.map vn) ∧ Img im ∧ im.length ≤ 1000 ∧ ∀ v H', Ex H H' → decide (v = V.non) = repairable im → Q v H'
set_option linter.unusedVariables false in
theorem ok_first_bad {f : Addr} {fd : FuncData} (F : Fun K "first_bad" "first_bad" s_first_bad f fd) (D_groups : Df P w K mg base "groups" 2 ["image"] (spGroups K)) (D_form_of : Df P w K mg base "form_of" 2 ["image", "group"] (spForm K)) :
    FnOk P w K mg base CX0 3 f fd ["image"] (spFB K) := by
  refine F.ok sc_first_bad (fun vs H Q E h => ?_) (fun cdv A outer s H vs Q E hr h => ?_)
  · obtain ⟨_, _, rfl, _⟩ := h
    rfl
  · obtain ⟨a, im, rfl, hS, hI, hz, q⟩ := h
    refine ⟨_, (pss_cons (ps_for PassesOwn.never rfl (pi_list (pe_callD D_groups (hr.mono (by decide)) (by rfl) (pa_cons (pv 0) pa_nil))) (pg_name (i := 1) sc_first_bad.nd rfl (by first | exact Or.inl rfl | exact Or.inr rfl)) (pss_one (ps_if (pt_cmpR op_isN (pe_callD D_form_of (hr.mono (by decide)) (by rfl) (pa_cons (pv 0) (pa_cons (pv 1) pa_nil))) pe_non (nomark _)) (pss_one (ps_ret (pv 1))) pss_nil)))
  (pss_one (ps_ret pe_non))), ?_⟩
    refine x_start (σ := [some _, none]) rfl ?_
    walk_at "x"
    refine x_forL ?_
    walk_at "x"
    refine ⟨a, im, rfl, hS, hI, hz, fun v H1 e1 r1 => ?_⟩
    obtain ⟨lg, us, rfl, hl, hp⟩ := r1
    refine ⟨lg, rfl, ⟨us, hl.sq⟩, ?_⟩
    refine loopL_foldl (xs := groupsOf im) hp.length (fun s g => s && (formOf im g).isSome) (fun s σ' H' => s = true ∧ Ex H H' ∧ Ex H1 H' ∧ ∃ y, σ' = [some (.ref a), y]) true ⟨rfl, e1, Ex.refl _, _, rfl⟩ (fun s σ' H' h => h.2.2.1.l hl.sq) ?_ ?_
    · rintro s i g u σ' H' hg hu ⟨rfl, e, e', y, rfl⟩
      have gm := List.mem_of_getElem? hg
      obtain ⟨gc, gn⟩ := groups_closed hI gm
      obtain ⟨u', hu', ru⟩ := pair_at hp hg
      rw [hu] at hu'
      cases hu'
      obtain ⟨b, rfl, hb⟩ := rLn ru
      walk_at "x"
      refine ⟨a, b, im, g, rfl, e.l hS, e'.l hb.sq, gc, gn, hz, fun v2 H2 e2 r2 => ?_⟩
      walk_at "x"
      refine ⟨rfl, ?_⟩
      walk_at "x"
      cases hf : formOf im g with
      | none =>
        rw [hf] at r2
        have hv : v2 = .non := r2
        refine dec_t hv ?_
        walk_at "x"
        refine q _ _ (Ex.trans e e2) ?_
        have : repairable im = false := by
          unfold repairable
          rw [List.all_eq_false]
          exact ⟨g, gm, by rw [hf]; simp⟩
        rw [this]
        exact decide_eq_false (by intro z; cases z)
      | some z =>
        rw [hf] at r2
        obtain ⟨c, _, _, rfl, _⟩ := r2
        refine dec_f (by intro z; cases z) ?_
        walk_at "x"
        exact ⟨rfl, Ex.trans e e2, Ex.trans e' e2, _, rfl⟩
    · rintro σ' H' ⟨ha, e, e', y, rfl⟩
      walk_at "x"
      refine q _ _ e ?_
      rw [foldl_all, Bool.true_and] at ha
      show true = _
      exact ha.symm
/-! is_repairable: slots image 0; calls ['first_bad']; built-ins [] -/
abbrev s_is_repairable : Stmt := top 18
abbrev N_is_repairable : List Str := ["image"]
theorem sc_is_repairable : FnScope N_is_repairable ["image"] (defScope s_is_repairable) := ⟨rfl, rfl, rfl, by decide +kernel, rfl, by decide +kernel, by decide +kernel⟩

def spRep (K : PySem.W.Frag) : Sp := fun vs H Q _ => ∃ (a : Addr) (im : List Nat), vs = [.ref a] ∧ SqL K H a (im.map vn) ∧ Img im ∧ im.length ≤ 1000 ∧ ∀ H', Ex H H' → Q (.bl (repairable im)) H'
set_option linter.unusedVariables false in
theorem ok_is_repairable {f : Addr} {fd : FuncData} (F : Fun K "is_repairable" "is_repairable" s_is_repairable f fd) (D_first_bad : Df P w K mg base "first_bad" 3 ["image"] (spFB K)) : FnOk P w K mg base CX0 4 f fd ["image"] (spRep K) := by
  refine F.ok sc_is_repairable (fun vs H Q E h => ?_) (fun cdv A outer s H vs Q E hr h => ?_)
  · obtain ⟨_, _, rfl, _⟩ := h
    rfl
  · obtain ⟨a, im, rfl, hS, hI, hz, q⟩ := h
    refine ⟨_, (pss_one (ps_ret (pe_cmpR op_isN (pe_callD D_first_bad (hr.mono (by decide)) (by rfl) (pa_cons (pv 0) pa_nil)) pe_non (nomark _)))), ?_⟩
    refine x_start (σ := [some _]) rfl ?_
    walk_at "x"
    refine ⟨a, im, rfl, hS, hI, hz, fun v H1 e1 r1 => ?_⟩
    walk_at "x"
    refine ⟨rfl, ?_⟩
    rw [r1]
    exact q _ e1
/-! pieces: slots image 0, found 1, group 2, piece 3; calls ['groups', 'form_of']; built-ins [] -/
abbrev s_pieces : Stmt := top 17
abbrev N_pieces : List Str := ["image", "found", "group", "piece"]
theorem sc_pieces : FnScope N_pieces ["image"] (defScope s_pieces) := ⟨rfl, rfl, rfl, by decide +kernel, rfl, by decide +kernel, by decide +kernel⟩

def rPiece (K : PySem.W.Frag) : Rp K (Nat × List Nat) := rP (rWord K) (rT (rNat K))
def spPieces (K : PySem.W.Frag) : Sp := fun vs H Q _ => ∃ (a : Addr) (im : List Nat), vs = [.ref a] ∧ SqL K H a (im.map vn) ∧ Img im ∧ im.length ≤ 1000 ∧ repairable im = true ∧ Ret (rL (rPiece K)) (piecesOf im) H Q
def pushO {β : Type} (s : List β) : Option β → List β
  | some y => s ++ [y]
  | none => s
theorem filterMap_foldl {α β : Type} (f : α → Option β) : ∀ (xs : List α) (s : List β), xs.foldl (fun s x => pushO s (f x)) s = s ++ xs.filterMap f
  | [], s => by simp
  | x :: t, s => by
    rw [List.foldl_cons, filterMap_foldl f t, List.filterMap_cons]
    cases f x with
    | none => rfl
    | some y => show s ++ [y] ++ _ = _; rw [List.append_assoc]; rfl
theorem groups_few {im : List Nat} (hI : Img im) : (groupsOf im).length ≤ im.length := by
  unfold groupsOf
  rw [List.length_map]
  have h : ∀ (k : Nat), ((List.range k).foldl (fun f r => putIn f (gt (labelsOf im) r) r) []).length ≤ k := by
    intro k
    induction k with
    | zero => exact Nat.le_refl _
    | succ k ih =>
      rw [List.range_succ, List.foldl_append]
      exact Nat.le_trans (putIn_len _ _ _) (Nat.succ_le_succ ih)
  have := h (labelsOf im).length
  rw [labels_len hI] at this
  unfold foundOf
  rw [labels_len hI]
  exact this
set_option linter.unusedVariables false in
theorem ok_pieces {f : Addr} {fd : FuncData} (F : Fun K "pieces" "pieces" s_pieces f fd) (D_groups : Df P w K mg base "groups" 2 ["image"] (spGroups K)) (D_form_of : Df P w K mg base "form_of" 2 ["image", "group"] (spForm K)) :
    FnOk P w K mg base CX0 3 f fd ["image"] (spPieces K) := by
  refine F.ok sc_pieces (fun vs H Q E h => ?_) (fun cdv A outer s H vs Q E hr h => ?_)
  · obtain ⟨_, _, rfl, _⟩ := h
    rfl
  · obtain ⟨a, im, rfl, hS, hI, hz, hR, q⟩ := h
    refine ⟨_, (pss_cons (ps_set (i := 1) sc_pieces.nd rfl (by first | exact Or.inl rfl | exact Or.inr rfl) (pe_lst pa_nil))
  (pss_cons (ps_for PassesOwn.never rfl (pi_list (pe_callD D_groups (hr.mono (by decide)) (by rfl) (pa_cons (pv 0) pa_nil))) (pg_name (i := 2) sc_pieces.nd rfl (by first | exact Or.inl rfl | exact Or.inr rfl)) (pss_cons (ps_set (i := 3) sc_pieces.nd rfl (by first | exact Or.inl rfl | exact Or.inr rfl) (pe_callD D_form_of (hr.mono (by decide)) (by rfl) (pa_cons (pv 0) (pa_cons (pv 2) pa_nil))))
  (pss_cons (ps_if (pt_cmpR op_isN (pv 3) pe_non (nomark _)) (pss_one ps_never) pss_nil)
  (pss_one (ps_expr (pe_bm PySem.F.plainAttrs_list PySem.F.slot_list_append PySem.F.type_list_append mt_append (pv 1) (pa_cons (pv 3) pa_nil)))))))
  (pss_one (ps_ret (pv 1))))), ?_⟩
    refine x_start (σ := [some _, none, none, none]) rfl ?_
    walk_at "x"
    refine ⟨by decide, fun l hl => ?_⟩
    have e0 := Ex.new (o := .lst []) hl
    have hl0 : upd H l (.lst []) l = some (.lst []) := upd_same
    generalize upd H l (.lst []) = H0 at e0 hl0 ⊢
    walk_at "x"
    refine x_forL ?_
    walk_at "x"
    refine ⟨a, im, rfl, e0.l hS, hI, hz, fun v H1 e1 r1 => ?_⟩
    obtain ⟨lg, us, rfl, hlg, hp⟩ := r1
    refine ⟨lg, rfl, ⟨us, hlg.sq⟩, ?_⟩
    have hdl : ∀ x, (Dom H x ∨ x = l) → Dom H0 x := fun x hx => by
      rcases hx with h | h
      · exact e0.dom h
      · rw [h]; exact dom_of hl0
    refine loopL_foldi (xs := groupsOf im) hp.length (fun s g => pushO s (formOf im g)) (fun i s σ' H' => s.length ≤ i ∧ Ex H H' ∧ ExA (fun a => Dom H a ∨ a = l) H1 H' ∧ ∃ ws y z, H' l = some (.lst ws) ∧ Paired ((rPiece K).rel (fun a => Dom H a ∨ a = l) H') ws s ∧ σ' = [some (.ref a), some (.ref l), y, z])
      [] ⟨by decide, Ex.trans e0 e1, (Ex.refl _).a, [], _, _, e1 _ _ hl0, .nil, rfl⟩ (fun i s σ' H' h => ?_) ?_ ?_
    · exact (LstA.mono h.2.2.1 (LstA.weak hdl hlg)).sq
    · rintro s i g u σ' H' hg hu ⟨hsl, e, e', ws, y, z, hH, hw, rfl⟩
      have gm := List.mem_of_getElem? hg
      obtain ⟨gc, gn⟩ := groups_closed hI gm
      obtain ⟨u', hu', ru⟩ := pair_at hp hg
      rw [hu] at hu'
      cases hu'
      obtain ⟨b, rfl, hb⟩ := rLn ((rL (rNat K)).mono e' ((rL (rNat K)).weak hdl ru))
      have gi : i < (groupsOf im).length := (List.getElem?_eq_some_iff.mp hg).1
      have gf := groups_few hI
      walk_at "x"
      refine ⟨a, b, im, g, rfl, e.l hS, hb.sq, gc, gn, hz, fun v2 H2 e2 r2 => ?_⟩
      walk_at "x"
      refine ⟨rfl, ?_⟩
      walk_at "x"
      have hf : (formOf im g).isSome = true := List.all_eq_true.mp hR g gm
      obtain ⟨fm, hfm⟩ := Option.isSome_iff_exists.mp hf
      rw [hfm] at r2 ⊢
      have r3 : (rPiece K).rel (Dom H') H2 v2 fm := r2
      refine dec_f (by obtain ⟨c, _, _, rfl, _⟩ := r3; intro z; cases z) ?_
      walk_at "x"
      refine ⟨.inl ⟨rfl, _, SqL.of (e2 _ _ hH)⟩, ?_⟩
      walk_at "x"
      refine x_append (e2 _ _ hH) ?_ ?_
      · rw [hw.length, sizeLine_eq]
        omega
      · refine ⟨?_, Ex.mut (Ex.trans e e2) hl, ?_, ws ++ [v2], _, _, upd_same, ?_, rfl⟩
        · show (s ++ [fm]).length ≤ i + 1
          rw [List.length_append]
          exact Nat.succ_le_succ hsl
        · exact (e'.trans e2.a).trans (ExA.put (Or.inr rfl))
        · refine pair_snoc (pmono hw fun _ _ q => (rPiece K).mono (e2.a.trans (ExA.put (Or.inr rfl))) q) ?_
          refine (rPiece K).mono (ExA.put (Or.inr rfl)) ((rPiece K).weak (fun x hx => ?_) r3)
          rcases hx with h | h
          · exact e.dom h
          · rw [h]; exact dom_of hH
    · rintro σ' H' ⟨hsl, e, e', ws, y, z, hH, hw, rfl⟩
      walk_at "x"
      rw [filterMap_foldl, List.nil_append] at hw
      refine q _ _ e ⟨l, ws, rfl, LstA.new hH hl, pmono hw fun _ _ q => (rPiece K).weak (fun x h => Or.inl h) q⟩
/-! torn_pieces: slots image 0, piece 1; calls ['pieces']; built-ins [] -/
abbrev s_torn_pieces : Stmt := top 19
abbrev N_torn_pieces : List Str := ["image", "piece"]
theorem sc_torn_pieces : FnScope N_torn_pieces ["image"] (defScope s_torn_pieces) := ⟨rfl, rfl, rfl, by decide +kernel, rfl, by decide +kernel, by decide +kernel⟩

def spTorn (K : PySem.W.Frag) : Sp := fun vs H Q _ => ∃ (a : Addr) (im : List Nat), vs = [.ref a] ∧ SqL K H a (im.map vn) ∧ Img im ∧ im.length ≤ 1000 ∧ repairable im = true ∧ (∀ l H' us, Ex H H' → H l = none → H' l = some (.lst us) → us.length = (tornOf im).length → Q (.ref l) H')
theorem inW_words : ((List.range 8).all fun k => inV (.str (wordOf k)) [.str "free", .str "pair"] == decide (k < 2)) = true := by decide +kernel
theorem inW {k : Nat} (h : k < 8) : inV (.str (wordOf k)) [.str "free", .str "pair"] = decide (k < 2) := eq_of_beq (List.all_eq_true.mp inW_words k (List.mem_range.mpr h))
theorem filter_zip {α β : Type} (p : β → Bool) : ∀ (us : List α) (xs : List β), us.length = xs.length → ((us.zip xs).filter fun z => p z.2).length = (xs.filter p).length
  | [], [], _ => rfl
  | [], _ :: _, h => by cases h
  | _ :: _, [], h => by cases h
  | u :: us, x :: xs, h => by
    rw [List.zip_cons_cons]
    have ih := filter_zip p us xs (by simpa using h)
    by_cases e : p x = true
    · rw [List.filter_cons_of_pos (p := p) e, List.filter_cons_of_pos (p := fun z : α × β => p z.2) e, List.length_cons, List.length_cons, ih]
    · rw [List.filter_cons_of_neg (p := p) e, List.filter_cons_of_neg (p := fun z : α × β => p z.2) e, ih]
set_option linter.unusedVariables false in
theorem ok_torn_pieces {f fw : Addr} {fd : FuncData} (F : Fun K "torn_pieces" "torn_pieces" s_torn_pieces f fd) (gW : mg "WHOLE_WORDS" = some (.ref fw)) (hW : ∀ H, SqT K H fw [.str "free", .str "pair"]) (D_pieces : Df P w K mg base "pieces" 3 ["image"] (spPieces K)) :
    FnOk P w K mg base CX0 4 f fd ["image"] (spTorn K) := by
  refine F.ok sc_torn_pieces (fun vs H Q E h => ?_) (fun cdv A outer s H vs Q E hr h => ?_)
  · obtain ⟨_, _, rfl, _⟩ := h
    rfl
  · obtain ⟨a, im, rfl, hS, hI, hz, hR, q⟩ := h
    refine ⟨_, (pss_one (ps_ret (pe_lc (own := [("piece", 1)]) (g := gName 1) rfl sc_torn_pieces.nd (pi_list (pe_callD D_pieces (hr.mono (by decide)) (by rfl) (pa_cons (pv 0) pa_nil))) (blkOk_by (N := N_torn_pieces) (sc := defScope s_torn_pieces) (by decide +kernel)) (fun _ _ _ _ _ => pg_name (i := 1) sc_torn_pieces.nd rfl (Or.inl rfl)) (fun _ _ _ _ _ => (pts_one (pt_cmpR (op_notInK K rfl) (pe_ix (ix_tupK K rfl) (pv 1) pe_int (fun _ _ => rfl)) (pe_globR (by rfl) gW) (by rfl)))) (fun _ _ _ _ _ => (pv 1))))), ?_⟩
    refine x_start (σ := [some _, none]) rfl ?_
    walk_at "x"
    refine x_lcL ?_
    walk_at "x"
    refine ⟨a, im, rfl, hS, hI, hz, hR, fun v H1 e1 r1 => ?_⟩
    obtain ⟨lg, us, rfl, hlg, hp⟩ := r1
    refine ⟨lg, rfl, ⟨us, hlg.sq⟩, ?_⟩
    have hlen := hp.length
    have few : (piecesOf im).length ≤ 1000 := Nat.le_trans (Nat.le_trans (List.length_filterMap_le _ _) (groups_few hI)) hz
    have zl : (us.zip (piecesOf im)).length = us.length := by rw [List.length_zip]; omega
    refine compL_map (xs := us.zip (piecesOf im)) hlg.sq zl.symm (by omega) (fun z => decide (2 ≤ z.2.1)) (fun z => z.1) (fun _ => rfl) (fun i x u H2 hx hu e2 Qt qt => ?_) (fun i x u H2 hx hu _ e2 Qe qe => ?_) (fun Dl H2 hD e2 hH2 => ?_)
    · obtain ⟨z1, z2⟩ := List.getElem?_zip_eq_some.mp hx
      rw [hu] at z1
      cases z1
      obtain ⟨u', hu', ru⟩ := pair_at hp z2
      rw [hu] at hu'
      cases hu'
      obtain ⟨b, u1, u2, eb, ht, ⟨hw, h8⟩, _⟩ := (rPiece K).mono e2.a ru
      rw [eb]
      walk_at "x"
      refine x_ixT ht.sq (at_n (n := 0) rfl rfl) ?_
      rw [hw]
      walk_at "x"
      refine ⟨fw, _, rfl, .inr (hW _), rfl, rfl, ?_⟩
      rw [inW h8]
      walk_at "x"
      have eb2 : (!decide (x.2.1 < 2)) = decide (2 ≤ x.2.1) := by
        rw [← decide_not]
        exact decide_eq_decide.mpr (by omega)
      show Qt (!decide (x.2.1 < 2)) H2
      rw [eb2]
      exact qt _ (Ex.refl _)
    · obtain ⟨z1, z2⟩ := List.getElem?_zip_eq_some.mp hx
      rw [hu] at z1
      cases z1
      walk_at "x"
      exact qe _ (Ex.refl _)
    · refine q Dl H2 _ (Ex.trans e1 e2) (e1.none hD) hH2 ?_
      unfold accOf
      rw [List.length_map]
      exact filter_zip (fun z => decide (2 ≤ z.1)) us (piecesOf im) hlen
end
end Pm
end
section
set_option Elab.async false
set_option maxRecDepth 100000
set_option maxHeartbeats 4000000
set_option linter.all false
namespace Pm
open PySem L2
local macro_rules | `(tactic| walk_at "ex") => `(tactic| first | exact Ex.refl _ | assumption | exact Ex.new (by assumption) | exact Ex.trans (by walk_at "ex") (by assumption) | exact Ex.trans (by walk_at "ex") (Ex.new (by assumption)) | exact Ex.mut (by walk_at "ex") (by first | assumption | exact Ex.none (by walk_at "ex") (by assumption)))
local macro_rules | `(tactic| walk_at "sq") => `(tactic| first | assumption | exact Ex.l (by walk_at "ex") (by assumption) | exact Ex.t (by walk_at "ex") (by assumption) | exact SqL.of (by walk_at "hp") | exact SqT.of (by walk_at "hp") | exact Ex.l (by walk_at "ex") (LstA.sq (by assumption)) | exact Ex.t (by walk_at "ex") (TupA.sq (by assumption)))
local macro_rules | `(tactic| walk_at "hp") => `(tactic| first | assumption | exact upd_same | (refine (by walk_at "ex" : Ex _ _) _ _ ?_; assumption) | (refine (by walk_at "ex" : Ex _ _) _ _ ?_; exact upd_same))
local macro_rules | `(tactic| walk_at "x1") => `(tactic| first
  | (with_reducible refine x_seq ?_) | (with_reducible refine x_asg ?_) | ((with_reducible refine x_name ?_); dsimp only [List.set_cons_succ, List.set_cons_zero])
  | (with_reducible refine x_ret ?_) | (with_reducible refine x_if ?_) | (with_reducible refine x_drop ?_) | (with_reducible refine x_next ?_)
  | ((with_reducible refine' x_var ?h ?_); (case h => rfl)) | (with_reducible refine x_c ?_) | (with_reducible refine x_op ?_) | (with_reducible refine x_un ?_)
  | (with_reducible refine x_I0 ?_) | ((with_reducible refine x_I ?h ?_); (case h => first | exact Or.inl (by omega) | exact Or.inr (by omega) | omega | (constructor <;> omega))) | (with_reducible refine x_U ?_)
  | ((with_reducible refine' x_eq ?h ?_); (case h => rfl)) | ((with_reducible refine' x_ne ?h ?_); (case h => rfl))
  | (with_reducible refine x_cb ?_) | (with_reducible refine x_call ?_) | (with_reducible refine x_nil ?_) | (with_reducible refine x_cons ?_)
  | (with_reducible refine x_test ?_) | (with_reducible refine x_tB ?_) | (with_reducible refine x_bl ?_) | (with_reducible refine x_or ?_) | (with_reducible refine x_and ?_) | (with_reducible refine x_not ?_)
  | (with_reducible refine x_ifE ?_) | (with_reducible refine x_lst ?_) | (with_reducible refine x_tup ?_)
  | (with_reducible refine x_bm ?_) | (with_reducible refine x_bmG ?_) | (with_reducible refine x_chain ?_) | (with_reducible refine x_orV ?_) | (with_reducible refine x_andV ?_) | (with_reducible refine x_notV ?_) | (with_reducible refine x_sub ?_) | (with_reducible refine x_star ?_) | (with_reducible refine x_sl ?_) | (with_reducible refine x_po ?_) | (with_reducible refine x_pn ?_))
local macro_rules | `(tactic| walk_at "xi") => `(tactic| first | (with_reducible refine iteT ?_) | (with_reducible refine iteF ?_))
local macro_rules | `(tactic| walk_at "x") => `(tactic| ((try dsimp only); repeat ((first | walk_at "x1" | walk_at "xi"); (try dsimp only))))

section
variable {P : Program} {w : World} {K : PySem.W.Frag} {mg : Str → Option Value} {base : Heap}
/-! key_of: slots image 0, records 1, ascending 2, record 3; calls []; built-ins ['sorted', 'tuple', 'len'] -/
abbrev s_key_of : Stmt := top 23
abbrev N_key_of : List Str := ["image", "records", "ascending", "record"]
theorem sc_key_of : FnScope N_key_of ["image", "records"] (defScope s_key_of) := ⟨rfl, rfl, rfl, by decide +kernel, rfl, by decide +kernel, by decide +kernel⟩

def spKey (K : PySem.W.Frag) : Sp := fun vs H Q _ => ∃ (a b : Addr) (im recs : List Nat), vs = [.ref a, .ref b] ∧ SqL K H a (im.map vn) ∧ SqT K H b (recs.map vn) ∧ (∀ r ∈ recs, r < im.length) ∧ recs.length ≤ 1000 ∧
  ∀ (t pa pn : Addr) (so : Obj) (H' : Hp), Ex H H' → H' t = some (.tup [vn (srt recs).length, .ref pa, .ref pn]) → H' pa = some (.frz so (.tup ((srt recs).map vn))) → so.cls = .type "tuple" → so.dict = none → SqT K H' pn (((srt recs).map (gt im)).map vn) → Q (.ref t) H'
set_option linter.unusedVariables false in
theorem ok_key_of {f : Addr} {fd : FuncData} (F : Fun K "key_of" "key_of" s_key_of f fd) (T : Txt mg) : FnOk P w K mg base CX0 1 f fd ["image", "records"] (spKey K) := by
  refine F.ok sc_key_of (fun vs H Q E h => ?_) (fun cdv A outer s H vs Q E hr h => ?_)
  · obtain ⟨_, _, _, _, rfl, _⟩ := h
    rfl
  · obtain ⟨a, b, im, recs, rfl, hS, hB, hI, hz, q⟩ := h
    refine ⟨_, (pss_cons (ps_set (i := 2) sc_key_of.nd rfl (by first | exact Or.inl rfl | exact Or.inr rfl) (pe_callTy call_tupF (by rfl) T.b_tuple (by decide +kernel) (pa_cons (pe_callB cr_sortedTu (by rfl) T.b_sorted (by decide +kernel) (pa_cons (pv 1) pa_nil)) pa_nil)))
  (pss_one (ps_ret (pe_tup (pa_cons (pe_callB call_len_seq (by rfl) T.b_len (by decide +kernel) (pa_cons (pv 2) pa_nil)) (pa_cons (pv 2) (pa_cons (pe_callTy call_tupF (by rfl) T.b_tuple (by decide +kernel) (pa_cons (pe_lc (own := [("record", 3)]) (g := gName 3) rfl sc_key_of.nd (pi_tup (pv 2)) (blkOk_by (N := N_key_of) (sc := defScope s_key_of) (by decide +kernel)) (fun _ _ _ _ _ => pg_name (i := 3) sc_key_of.nd rfl (Or.inl rfl)) (fun _ _ _ _ _ => pts_nil) (fun _ _ _ _ _ => (pe_ix (ix_listK K rfl) (pv 0) (pv 3) (fun _ _ => rfl)))) pa_nil)) pa_nil))))))), ?_⟩
    refine x_start (σ := [some _, some _, none, none]) rfl ?_
    walk_at "x"
    refine ⟨b, recs.map fun (n : Nat) => (n : Int), rfl, by rw [← vn_int]; exact hB, fun ns l hp hs hl => ?_⟩
    rw [srt_int hp hs]
    have sl : (srt recs).length = recs.length := (perm_srt recs).1.length_eq
    walk_at "x"
    refine ⟨l, _, rfl, SqL.of upd_same, fun pa so npa hc hd => ?_⟩
    have e2 := Ex.trans (Ex.new (o := .lst ((srt recs).map vn)) hl) (Ex.new (o := .frz so (.tup ((srt recs).map vn))) npa)
    have hpa : upd (upd H l (.lst ((srt recs).map vn))) pa (.frz so (.tup ((srt recs).map vn))) pa = some (.frz so (.tup ((srt recs).map vn))) := upd_same
    generalize upd (upd H l (.lst ((srt recs).map vn))) pa (.frz so (.tup ((srt recs).map vn))) = H2 at e2 hpa ⊢
    have sqa : ∀ {H'}, Ex H2 H' → SqT K H' pa ((srt recs).map vn) := fun e => .inl (.inr ⟨so, e _ _ hpa⟩)
    walk_at "x"
    refine ⟨pa, _, rfl, .inr (sqa (Ex.refl _)), ?_⟩
    rw [List.length_map]
    walk_at "x"
    refine x_lcT ?_
    walk_at "x"
    refine ⟨pa, rfl, ⟨_, sqa (Ex.refl _)⟩, ?_⟩
    refine compT_nat (sqa (Ex.refl _)) (by omega) (fun _ => true) (gt im) (fun _ => rfl) (fun z H2 hz e2 Qt qt => qt _ (Ex.refl _)) (fun z H3 hz _ e3 Qe qe => ?_) (fun l3 H3 n3 e3 h3 => ?_)
    · walk_at "x"
      refine x_ixN ((Ex.trans e2 e3).l hS) rfl (hI z ((perm_srt recs).1.mem_iff.mp hz)) ?_
      exact qe _ (Ex.refl _)
    rw [filter_all] at h3
    walk_at "x"
    refine ⟨l3, _, rfl, SqL.of h3, fun pn so2 npn hc2 hd2 => ?_⟩
    walk_at "x"
    refine ⟨by show 3 ≤ sizeLine; decide, fun t nt => ?_⟩
    refine q t pa pn so _ (Ex.trans (Ex.trans (Ex.trans e2 e3) (Ex.new npn)) (Ex.new nt)) upd_same ?_ hc hd (.inl (.inr ⟨so2, ?_⟩))
    · exact (Ex.new nt) _ _ ((Ex.new npn) _ _ (e3 _ _ hpa))
    · exact (Ex.new nt) _ _ upd_same
/-! _names: slots shape 0, records 1, names 2, record 3, place 4; calls []; built-ins ['len', 'zip', 'tuple'] -/
abbrev s_names : Stmt := top 29
abbrev N_names : List Str := ["shape", "records", "names", "record", "place"]
theorem sc_names : FnScope N_names ["shape", "records"] (defScope s_names) := ⟨rfl, rfl, rfl, by decide +kernel, rfl, by decide +kernel, by decide +kernel⟩

def spNames (K : PySem.W.Frag) : Sp := fun vs H Q _ => ∃ (a b : Addr) (sh recs : List Nat), vs = [.ref a, .ref b] ∧ SqT K H a (sh.map vn) ∧ SqT K H b (recs.map vn) ∧ sh.length = recs.length ∧ (∀ r ∈ recs, r < recs.length) ∧ (∀ r ∈ sh, r < recs.length) ∧ recs.length ≤ 1000 ∧
  ∀ (t : Addr) (H' : Hp), Ex H H' → H t = none → H' t = some (.tup ((namesN sh recs).map vn)) → Q (.ref t) H'
theorem ok_names {f : Addr} {fd : FuncData} (F : Fun K "_names" "_names" s_names f fd) (T : Txt mg) : FnOk P w K mg base CX0 1 f fd ["shape", "records"] (spNames K) := by
  refine F.ok sc_names (fun vs H Q E h => ?_) (fun cdv A outer s H vs Q E hr h => ?_)
  · obtain ⟨_, _, _, _, rfl, _⟩ := h
    rfl
  · obtain ⟨a, b, sh, recs, rfl, hA, hB, hl, hR, hSh, hz, q⟩ := h
    refine ⟨_, (pss_cons (ps_set (i := 2) sc_names.nd rfl (by first | exact Or.inl rfl | exact Or.inr rfl) (pe_op op_rep (pe_lst (pa_cons pe_int pa_nil)) (pe_callB call_len_seq (by rfl) T.b_len (by decide +kernel) (pa_cons (pv 1) pa_nil))))
  (pss_cons (ps_for PassesOwn.never rfl (RZ.pi_zipA (by rfl) T.b_zip (pa_cons (pv 1) (pa_cons (pv 0) pa_nil))) (pg_tup (by rfl) (pgs_cons (pg_name (i := 3) sc_names.nd rfl (by first | exact Or.inl rfl | exact Or.inr rfl)) (pgs_cons (pg_name (i := 4) sc_names.nd rfl (by first | exact Or.inl rfl | exact Or.inr rfl)) pgs_nil))) (pss_one (ps_asg (pe_ix ix_tup (pv 1) (pv 4) (fun _ _ => rfl)) (pg_sub (pv 2) (pv 3) set_list))))
  (pss_one (ps_ret (pe_callTy call_tuple_of (by rfl) T.b_tuple (by decide +kernel) (pa_cons (pv 2) pa_nil)))))), ?_⟩
    refine x_start (σ := [some _, some _, none, none, none]) rfl ?_
    walk_at "x"
    refine ⟨by decide, fun l0 n0 => ?_⟩
    walk_at "x"
    refine ⟨b, _, rfl, .inr ((Ex.new n0).t hB), ?_⟩
    rw [List.length_map]
    refine ⟨l0, _, _, rfl, rfl, upd_same, by omega, by omega, ?_, fun l n1 => ?_⟩
    · show 1 * ((recs.length : Int)).toNat ≤ sizeLine
      rw [sizeLine_eq]
      omega
    rw [Int.toNat_natCast, show ([V.int 0] : List V) = [vn 0] from rfl, rep_vn]
    have e1 := Ex.trans (Ex.new (o := .lst [vn 0]) n0) (Ex.new (o := .lst ((List.replicate recs.length 0).map vn)) n1)
    have h1 : upd (upd H l0 (.lst [vn 0])) l (.lst ((List.replicate recs.length 0).map vn)) l = some (.lst ((List.replicate recs.length 0).map vn)) := upd_same
    have nl : H l = none := (Ex.new n0).none n1
    show gName 2 (V.ref l) _ (upd (upd H l0 (.lst [vn 0])) l (.lst ((List.replicate recs.length 0).map vn))) _
    generalize upd (upd H l0 (.lst [vn 0])) l (.lst ((List.replicate recs.length 0).map vn)) = H1 at e1 h1 ⊢
    walk_at "x"
    refine x_forZA ?_
    walk_at "x"
    refine ⟨b, a, _, _, rfl, .inr ⟨e1.t hB, e1.t hA, ?_⟩⟩
    refine loopZ_foldl (p := 3) (q := 4) (xs := recs) (ys := sh) (List.length_map _) (List.length_map _) hl.symm (fun ns r p => ns.set r (gt recs p)) (fun ns σ' H' => Ex H H' ∧ ns.length = recs.length ∧ H' l = some (.lst (ns.map vn)) ∧ ∃ x y, σ' = [some (.ref a), some (.ref b), some (.ref l), x, y])
      (List.replicate recs.length 0) ⟨e1, List.length_replicate, h1, _, _, rfl⟩ (fun ns σ' H' h => ⟨h.1.t hB, h.1.t hA⟩) ?_ ?_
    · rintro ns i r p u v t σ' H' hr' hu hp hv ⟨e, hnl, hH, x, y, rfl⟩ ht
      dsimp only [List.set_cons_succ, List.set_cons_zero]
      cases vn_of hr' hu
      cases vn_of hp hv
      have rm := hR r (List.mem_of_getElem? hr')
      have pm := hSh p (List.mem_of_getElem? hp)
      have e' := Ex.trans e (Ex.new (o := .tup [vn r, vn p]) ht)
      have hH' := (Ex.new (o := .tup [vn r, vn p]) ht) _ _ hH
      walk_at "x"
      refine x_ixNT (e'.t hB) rfl pm ?_
      walk_at "x"
      refine x_setN hH' rfl (by omega) ?_
      refine ⟨Ex.mut e' nl, by rw [List.length_set]; exact hnl, upd_same, _, _, rfl⟩
    · rintro σ' H' ⟨e, hnl, hH, x, y, rfl⟩
      walk_at "x"
      refine ⟨l, _, rfl, .inl ⟨SqL.of hH, fun t nt => ?_⟩⟩
      exact q t _ (Ex.trans e (Ex.new nt)) (e.none nt) upd_same
end
end Pm
end
section
set_option Elab.async false
set_option maxRecDepth 100000
set_option maxHeartbeats 4000000
set_option linter.all false
namespace Pm
open PySem L2
local macro_rules | `(tactic| walk_at "ex") => `(tactic| first | exact Ex.refl _ | assumption | exact Ex.new (by assumption) | exact Ex.trans (by walk_at "ex") (by assumption) | exact Ex.trans (by walk_at "ex") (Ex.new (by assumption)) | exact Ex.mut (by walk_at "ex") (by first | assumption | exact Ex.none (by walk_at "ex") (by assumption)))
local macro_rules | `(tactic| walk_at "sq") => `(tactic| first | assumption | exact Ex.l (by walk_at "ex") (by assumption) | exact Ex.t (by walk_at "ex") (by assumption) | exact SqL.of (by walk_at "hp") | exact SqT.of (by walk_at "hp") | exact Ex.l (by walk_at "ex") (LstA.sq (by assumption)) | exact Ex.t (by walk_at "ex") (TupA.sq (by assumption)))
local macro_rules | `(tactic| walk_at "hp") => `(tactic| first | assumption | exact upd_same | (refine (by walk_at "ex" : Ex _ _) _ _ ?_; assumption) | (refine (by walk_at "ex" : Ex _ _) _ _ ?_; exact upd_same))
local macro_rules | `(tactic| walk_at "x1") => `(tactic| first
  | (with_reducible refine x_seq ?_) | (with_reducible refine x_asg ?_) | ((with_reducible refine x_name ?_); dsimp only [List.set_cons_succ, List.set_cons_zero])
  | (with_reducible refine x_ret ?_) | (with_reducible refine x_if ?_) | (with_reducible refine x_drop ?_) | (with_reducible refine x_next ?_)
  | ((with_reducible refine' x_var ?h ?_); (case h => rfl)) | (with_reducible refine x_c ?_) | (with_reducible refine x_op ?_) | (with_reducible refine x_un ?_)
  | (with_reducible refine x_I0 ?_) | ((with_reducible refine x_I ?h ?_); (case h => first | exact Or.inl (by omega) | exact Or.inr (by omega) | omega | (constructor <;> omega))) | (with_reducible refine x_U ?_)
  | ((with_reducible refine' x_eq ?h ?_); (case h => rfl)) | ((with_reducible refine' x_ne ?h ?_); (case h => rfl))
  | (with_reducible refine x_cb ?_) | (with_reducible refine x_call ?_) | (with_reducible refine x_nil ?_) | (with_reducible refine x_cons ?_)
  | (with_reducible refine x_test ?_) | (with_reducible refine x_tB ?_) | (with_reducible refine x_bl ?_) | (with_reducible refine x_or ?_) | (with_reducible refine x_and ?_) | (with_reducible refine x_not ?_)
  | (with_reducible refine x_ifE ?_) | (with_reducible refine x_lst ?_) | (with_reducible refine x_tup ?_)
  | (with_reducible refine x_bm ?_) | (with_reducible refine x_bmG ?_) | (with_reducible refine x_chain ?_) | (with_reducible refine x_orV ?_) | (with_reducible refine x_andV ?_) | (with_reducible refine x_notV ?_) | (with_reducible refine x_sub ?_) | (with_reducible refine x_star ?_) | (with_reducible refine x_sl ?_) | (with_reducible refine x_po ?_) | (with_reducible refine x_pn ?_))
local macro_rules | `(tactic| walk_at "xi") => `(tactic| first | (with_reducible refine iteT ?_) | (with_reducible refine iteF ?_))
local macro_rules | `(tactic| walk_at "x") => `(tactic| ((try dsimp only); repeat ((first | walk_at "x1" | walk_at "xi"); (try dsimp only))))

/-! ### the set comprehension of _patterns -/
def TwoL (P : Program) (w : World) (K : PySem.W.Frag) (a : Addr) (g : TG) (wj : TI) (gj : TG) (te : TE) (vs vs1 : List Nat) (σ : L2.St) (H1 : Hp) (Q : VK) : Prop := ∀ D, H1 D = none →
  ∃ W : Nat → Nat → Hp → Prop, (∃ m, W 0 m (upd H1 D (SetTO P w D []))) ∧ ∀ i m H, W i m H → ((Itl K a).stop i H ∧ Q (.ref D) H) ∨
    ((Itl K a).go i H ∧ ∃ N : Hp → Prop, (∀ H', N H' → ∃ m', m' < m ∧ W (i + 1) m' H') ∧ ∀ x H', (Itl K a).yld i H x H' → g x (wipe σ vs) H' fun τ H2 => wipe τ vs = wipe σ vs ∧ wj τ H2 fun Jj H3 =>
      ∃ V : Nat → Nat → Hp → Prop, (∃ m, V 0 m H3) ∧ ∀ j k H, V j k H → (Jj.stop j H ∧ N H) ∨
        (Jj.go j H ∧ ∃ Nj : Hp → Prop, (∀ H', Nj H' → ∃ k', k' < k ∧ V (j + 1) k' H') ∧ ∀ x H', Jj.yld j H x H' → gj x (wipe τ vs1) H' fun υ H4 => wipe υ vs1 = wipe τ vs1 ∧ te υ H4 (Adds P w K D Nj)))
theorem x_twoL {P : Program} {w : World} {K : PySem.W.Frag} {tl : TE} {g : TG} {wj : TI} {gj : TG} {te : TE} {vs vs1 : List Nat} {σ : L2.St} {H : Hp} {Q : VK} (q : tl σ H fun x H1 => ∃ a, x = .ref a ∧ (∃ xs, SqL K H1 a xs) ∧ TwoL P w K a g wj gj te vs vs1 σ H1 Q) :
    tTwo P w K (iList K tl) g wj gj te vs vs1 σ H Q := q
def CompS (K : PySem.W.Frag) (a : Addr) (g : TG) (tt : TT) (te : TE) (vs : List Nat) (σ : L2.St) (H1 : Hp) (Q : VK) : Prop :=
  ∀ Dl, H1 Dl = none → ∃ W : Nat → Nat → Hp → Prop, (∃ m, W 0 m (upd H1 Dl (.lst []))) ∧ ∀ i m H, W i m H →
  ((ItShp K a).stop i H ∧ Q (.ref Dl) H) ∨ ((ItShp K a).go i H ∧ ∃ Nx : Hp → Prop, (∀ H', Nx H' → ∃ m', m' < m ∧ W (i + 1) m' H') ∧ ∀ x H', (ItShp K a).yld i H x H' → g x (wipe σ vs) H' fun σ2 H2 => wipe σ2 vs = wipe σ vs ∧ tt σ2 H2 fun b H3 =>
    if b = true then te σ2 H3 fun y H4 => ∃ acc, H4 Dl = some (.lst acc) ∧ acc.length < sizeLine ∧ Nx (upd H4 Dl (.lst (acc ++ [y]))) else Nx H3)
theorem x_lcS {K : PySem.W.Frag} {tl : TE} {g : TG} {tt : TT} {te : TE} {vs : List Nat} {σ : L2.St} {H : Hp} {Q : VK} (q : tl σ H fun x H1 => ∃ a, x = .ref a ∧ ShpAt K a ∧ CompS K a g tt te vs σ H1 Q) : tLc (iShp K tl) g tt te vs σ H Q := q
theorem walk_shp {K : PySem.W.Frag} {a : Addr} : Walk (ItShp K a) 8 (fun _ => ShpAt K a) (fun i H x H' => H' = H ∧ ∃ (p : Addr) (y : List Int × Str), x = .ref p ∧ shapesL[i]? = some y ∧ SqT K H0 p (y.1.map V.int)) :=
  ⟨fun _ _ hi q => ⟨q, hi⟩, fun _ q => ⟨q, Nat.le_refl _⟩, fun _ _ _ _ _ _ y => y⟩
abbrev nI (k : List Nat) : List Int := k.map fun (n : Nat) => (n : Int)
theorem nI_vn (k : List Nat) : (nI k).map V.int = k.map vn := (vn_int k).symm
/-- by each shape of m places and each order of them -/
def shapesOf (m : Nat) : List (List Nat) := shapesN.filter fun s => decide (s.length = m)
theorem pat_in : ((List.range 5).all fun m => (shapesOf m).all fun s => decide (1 ≤ m) && (List.range (pqTab m).length).all fun j => decide (namesN s (pqAt m j).1 ∈ patsN m) && s.all (fun p => decide (p < m))) = true := by decide +kernel
theorem pat_all : ((List.range 5).all fun m => (patsN m).all fun k => (shapesOf m).any fun s => (List.range (pqTab m).length).any fun j => decide (namesN s (pqAt m j).1 = k)) = true := by decide +kernel
theorem pat_ok : ((List.range 5).all fun m => (patsN m).all fun k => decide (k.length = m) && k.all fun p => decide (p < 4)) = true := by decide +kernel
theorem pat_srt : ((List.range 5).all fun m => decide (((patsN m).map fun k => TS.code 4 (nI k)).Pairwise (· < ·))) = true := by decide +kernel
theorem pat_len : ((List.range 5).all fun m => decide ((patsN m).length < 60)) = true := by decide +kernel
theorem nodup_sub {α : Type} [DecidableEq α] : ∀ {xs ys : List α}, xs.Nodup → (∀ x ∈ xs, x ∈ ys) → xs.length ≤ ys.length
  | [], _, _, _ => Nat.zero_le _
  | x :: t, ys, nd, h => by
    rw [List.nodup_cons] at nd
    have hx := h x List.mem_cons_self
    have ih := nodup_sub (xs := t) (ys := ys.erase x) nd.2 fun y hy => (List.mem_erase_of_ne fun e => nd.1 (by rw [← e]; exact hy)).mpr (h y (List.mem_cons_of_mem _ hy))
    rw [List.length_erase_of_mem hx] at ih
    have := List.length_pos_of_mem hx
    rw [List.length_cons]
    omega
theorem x_pq {te : TE} {σ : L2.St} {H : Hp} {R : It → Hp → Prop} (q : te σ H fun x H1 => ∃ k : Int, x = .int k ∧ ∃ n : Nat, (0 : Int) = 0 ∧ k = n ∧ (1 ≤ n ∧ n ≤ 4) ∧ R (ItPq n) H1) : iPq (tRg1 te) σ H R := q
abbrev nQ : Addr × List Nat → Addr × List Int := fun q => (q.1, nI q.2)
theorem nI_back (k : List Nat) : (nI k).map Int.toNat = k := by
  rw [List.map_map]
  refine (List.map_congr_left (g := id) fun x _ => ?_).trans (List.map_id _)
  show ((x : Int)).toNat = x
  omega
theorem perm_back {L' : List (Addr × List Int)} {M : List (Addr × List Nat)} (h : L'.Perm (M.map nQ)) : ∃ L : List (Addr × List Nat), L.Perm M ∧ L' = L.map nQ := by
  refine ⟨L'.map fun q => (q.1, q.2.map Int.toNat), ?_, ?_⟩
  · have h2 := h.map fun q : Addr × List Int => (q.1, q.2.map Int.toNat)
    rw [List.map_map] at h2
    refine h2.trans (List.Perm.of_eq ((List.map_congr_left (g := id) fun x _ => ?_).trans (List.map_id _)))
    show (x.1, (nI x.2).map Int.toNat) = x
    rw [nI_back]
  · rw [List.map_map]
    refine ((List.map_congr_left (g := id) fun x hx => ?_).trans (List.map_id _)).symm
    obtain ⟨y, _, rfl⟩ := List.mem_map.mp (h.mem_iff.mp hx)
    show (y.1, nI ((nI y.2).map Int.toNat)) = _
    rw [nI_back]
    rfl
theorem mem_nQ {L : List (Addr × List Nat)} {k : List Nat} : nI k ∈ (L.map nQ).map (·.2) ↔ k ∈ L.map (·.2) := by
  rw [List.map_map]
  constructor
  · intro h
    obtain ⟨q, hq, e⟩ := List.mem_map.mp h
    have e' : nI q.2 = nI k := e
    have : q.2 = k := by rw [← nI_back q.2, e', nI_back]
    exact List.mem_map.mpr ⟨q, hq, this⟩
  · intro h
    obtain ⟨q, hq, e⟩ := List.mem_map.mp h
    exact List.mem_map.mpr ⟨q, hq, by show nI q.2 = nI k; rw [e]⟩
theorem code_one {m : Nat} (hm : m ≤ 4) {ks : List (List Nat)} (hp : ks.Perm (patsN m)) (hs : ks.Pairwise fun a b => TS.code 4 (nI a) ≤ TS.code 4 (nI b)) : ks = patsN m := by
  have lt : ((patsN m).map fun k => TS.code 4 (nI k)).Pairwise (· < ·) := of_decide_eq_true (List.all_eq_true.mp pat_srt m (List.mem_range.mpr (by omega)))
  have e : ks.map (fun k => TS.code 4 (nI k)) = (patsN m).map fun k => TS.code 4 (nI k) :=
    PySem.W.Srt.one _ _ (hp.map _) (List.pairwise_map.mpr hs) (lt.imp fun h => Int.le_of_lt h)
  have inj : ∀ a ∈ patsN m, ∀ b ∈ patsN m, TS.code 4 (nI a) = TS.code 4 (nI b) → a = b := by
    rw [List.pairwise_map] at lt
    intro a ha b hb e
    obtain ⟨i, hi, rfl⟩ := List.getElem_of_mem ha
    obtain ⟨j, hj, rfl⟩ := List.getElem_of_mem hb
    rw [List.pairwise_iff_getElem] at lt
    rcases Nat.lt_trichotomy i j with z | z | z
    · have := lt i j hi hj z
      omega
    · subst z; rfl
    · have := lt j i hj hi z
      omega
  refine List.ext_getElem (by have := congrArg List.length e; simpa using this) fun i h1 h2 => ?_
  refine inj _ (hp.mem_iff.mp (List.getElem_mem h1)) _ (List.getElem_mem h2) ?_
  have := congrArg (fun l => l[i]?) e
  rw [List.getElem?_map, List.getElem?_map, List.getElem?_eq_getElem h1, List.getElem?_eq_getElem h2] at this
  exact Option.some.inj this
section
variable {P : Program} {w : World} {K : PySem.W.Frag} {mg : Str → Option Value} {base : Heap}
/-! _patterns: slots many 0, shapes 1, shape 2, records 3; calls ['_names']; built-ins ['len', 'range', 'sorted'] -/
abbrev s_patterns : Stmt := top 30
abbrev N_patterns : List Str := ["many", "shapes", "shape", "records"]
theorem sc_patterns : FnScope N_patterns ["many"] (defScope s_patterns) := ⟨rfl, rfl, rfl, by decide +kernel, rfl, by decide +kernel, by decide +kernel⟩

def spPat (K : PySem.W.Frag) : Sp := fun vs H Q _ => ∃ m : Nat, vs = [vn m] ∧ m ≤ 4 ∧ Ret (rL (rT (rNat K))) (patsN m) H Q
set_option linter.unusedVariables false in
theorem ok_patterns {f fs : Addr} {fd : FuncData} (F : Fun K "_patterns" "_patterns" s_patterns f fd) (T : Txt mg) (gS : mg "SHAPES" = some (.ref fs)) (hSh : ShpAt K fs) (gP : mg "permutations" = some (.type "itertools.permutations")) (D_names : Df P w K mg base "_names" 1 ["shape", "records"] (spNames K)) :
    FnOk P w K mg base CX0 2 f fd ["many"] (spPat K) := by
  refine F.ok sc_patterns (fun vs H Q E h => ?_) (fun cdv A outer s H vs Q E hr h => ?_)
  · obtain ⟨_, rfl, _⟩ := h
    rfl
  · obtain ⟨m, rfl, hm, q⟩ := h
    refine ⟨_, (pss_cons (ps_setLc (i := 1) (own := [("shape", 2)]) (g := gName 2) rfl sc_patterns.nd rfl rfl (sw_true rfl rfl rfl (by decide +kernel)) (pi_shp (pe_globR (by rfl) gS)) (blkOk_by (N := N_patterns) (sc := defScope s_patterns) (by decide +kernel)) (fun _ _ _ _ _ => pg_name (i := 2) sc_patterns.nd rfl (Or.inl rfl)) (fun _ _ _ _ _ => (pts_one (pt_cmpR op_eq (pe_callB (call_lenK K rfl) (by rfl) T.b_len (by decide +kernel) (pa_cons (pv 2) pa_nil)) (pv 0) (nomark _)))) (fun _ _ _ _ _ => (pv 2)))
  (pss_one (ps_ret (pe_callB (cr_sortedT rfl) (by rfl) T.b_sorted (by decide +kernel) (pa_cons (pe_two (own := [("shape", 2), ("records", 3)]) (vs1 := [3]) (g := gName 2) (gj := gName 3) rfl (hu64_of hr) sc_patterns.nd (pi_list (pv 1)) (blkOk_by (N := N_patterns) (sc := defScope s_patterns) (by decide +kernel)) (by decide) (fun _ _ _ _ _ => pg_name (i := 2) sc_patterns.nd rfl (Or.inl rfl)) (fun _ _ _ _ _ => (pi_pq rfl (by rfl) gP (prg_1 (by rfl) T.b_range (pv 0)))) (fun _ _ _ _ _ => pg_name (i := 3) sc_patterns.nd rfl (Or.inl rfl)) (fun _ _ _ _ _ => (pe_callD D_names (hr.mono (by decide)) (by rfl) (pa_cons (pv 2) (pa_cons (pv 3) pa_nil))))) pa_nil))))), ?_⟩
    refine x_start (σ := [some _, none, none, none]) rfl ?_
    walk_at "x"
    refine x_lcS ?_
    walk_at "x"
    refine ⟨fs, rfl, hSh, fun l hl => ?_⟩
    have hi8 : ∀ i, i < 8 → ∃ s, shapesN[i]? = some s ∧ ∀ y, shapesL[i]? = some y → y.1 = nI s := fun i hi => by
      rcases (by omega : i = 0 ∨ i = 1 ∨ i = 2 ∨ i = 3 ∨ i = 4 ∨ i = 5 ∨ i = 6 ∨ i = 7) with h | h | h | h | h | h | h | h <;> subst h <;> exact ⟨_, rfl, fun y hy => by cases hy; rfl⟩
    refine lc_it walk_shp (fun i H' => Ex H H' ∧ ∃ rows : List (Addr × List Nat), H' l = some (.lst (rows.map fun r => V.ref r.1)) ∧ rows.map (·.2) = (shapesN.take i).filter (fun s => decide (s.length = m)) ∧ ∀ r ∈ rows, SqT K H0 r.1 (r.2.map vn))
      ⟨Ex.new hl, [], upd_same, rfl, fun r hr => (by cases hr)⟩ (fun _ _ _ _ => hSh) ?_ ?_
    · rintro i x H1 H2 hi ⟨e, rows, hH, hrows, hsq⟩ ⟨rfl, p, y, rfl, hy, hp⟩
      obtain ⟨s, hs, hsy⟩ := hi8 i hi
      rw [hsy y hy, nI_vn] at hp
      have tk : (shapesN.take (i + 1)).filter (fun s => decide (s.length = m)) = (shapesN.take i).filter (fun s => decide (s.length = m)) ++ (if s.length = m then [s] else []) := by
        rw [List.take_add_one, hs, List.filter_append]
        by_cases hlm : s.length = m
        · rw [if_pos hlm]
          show _ ++ [s].filter _ = _
          rw [List.filter_cons_of_pos (by simpa using hlm)]
          rfl
        · rw [if_neg hlm]
          show _ ++ [s].filter _ = _
          rw [List.filter_cons_of_neg (by simpa using hlm)]
          rfl
      walk_at "x"
      refine ⟨rfl, ?_⟩
      walk_at "x"
      refine ⟨p, _, rfl, .inr ((ex_none H2).t hp), ?_⟩
      rw [List.length_map]
      walk_at "x"
      have rl : rows.length ≤ 8 := by
        have := congrArg List.length hrows
        rw [List.length_map] at this
        rw [this]
        refine Nat.le_trans (List.length_filter_le _ _) ?_
        rw [List.length_take]
        exact Nat.min_le_right _ _
      refine x_decI (fun h1 => ?_) (fun h1 => ?_)
      · have h1' : s.length = m := by omega
        rw [if_pos h1'] at tk
        walk_at "x"
        refine ⟨_, hH, by rw [List.length_map, sizeLine_eq]; omega, Ex.mut e hl, rows ++ [(p, s)], ?_, ?_, fun r hr => ?_⟩
        · rw [upd_same, List.map_append]
          rfl
        · rw [tk, ← hrows, List.map_append]
          rfl
        · rcases List.mem_append.mp hr with z | z
          · exact hsq r z
          · rw [List.mem_singleton.mp z]
            exact hp
      · have h1' : ¬ s.length = m := by omega
        rw [if_neg h1', List.append_nil] at tk
        exact ⟨e, rows, hH, by rw [tk]; exact hrows, hsq⟩
    · rintro H1 ⟨e1, rows, h1, hrows, hsq⟩
      have hrows' : rows.map (·.2) = shapesOf m := hrows
      clear hrows
      walk_at "x"
      refine x_twoL ?_
      walk_at "x"
      refine ⟨l, rfl, ⟨_, SqL.of h1⟩, fun D hD => ?_⟩
      have hn0 : H D = none := e1.none hD
      -- before the shape i
      have cnt : (patsN m).length < 60 := of_decide_eq_true (List.all_eq_true.mp pat_len m (List.mem_range.mpr (by omega)))
      let Inv1 : (List (List Nat) → Prop) → Hp → Prop := fun done H' => Ex H H' ∧ H' l = some (.lst (rows.map fun r => V.ref r.1)) ∧ ∃ L : List (Addr × List Nat), H' D = some (SetTO P w D (L.map fun q => (q.1, nI q.2))) ∧ (∀ q ∈ L, H' q.1 = some (.tup (q.2.map vn)) ∧ H q.1 = none) ∧ (L.map (·.2)).Nodup ∧ (∀ q ∈ L, q.2 ∈ patsN m) ∧ done (L.map (·.2))
      have hone : ∀ {L : List (Addr × List Nat)}, (L.map (·.2)).Nodup → (∀ q ∈ L, q.2 ∈ patsN m) → L.length < 60 := fun {L} nd hm' => by
        have := nodup_sub nd (ys := patsN m) fun x hx => by
          obtain ⟨q, hq, rfl⟩ := List.mem_map.mp hx
          exact hm' q hq
        rw [List.length_map] at this
        omega
      refine ⟨fun i k H' => k = rows.length - i ∧ i ≤ rows.length ∧ Inv1 (fun ks => ∀ s ∈ (shapesOf m).take i, ∀ j < (pqTab m).length, namesN s (pqAt m j).1 ∈ ks) H',
        ⟨_, rfl, Nat.zero_le _, Ex.mut e1 hn0, ?_, [], upd_same, fun q hq => (by cases hq), List.nodup_nil, fun q hq => (by cases hq), fun s hs => (by cases hs)⟩, ?_⟩
      · rw [upd_ne (fun z => by rw [← z, h1] at hD; cases hD)]
        exact h1
      rintro i k H2 ⟨rfl, hi, e2, h2, L, hL, hT, nd, hin, hdone⟩
      by_cases hlt : i < rows.length
      · have em : rows[i].2 ∈ shapesOf m := by rw [← hrows']; exact List.mem_map.mpr ⟨_, List.getElem_mem hlt, rfl⟩
        have sqs := hsq rows[i] (List.getElem_mem hlt)
        have facts := List.all_eq_true.mp (List.all_eq_true.mp pat_in m (List.mem_range.mpr (by omega))) _ em
        rw [Bool.and_eq_true, decide_eq_true_iff, List.all_eq_true] at facts
        obtain ⟨m1, fj⟩ := facts
        have slen : rows[i].2.length = m := of_decide_eq_true (List.mem_filter.mp em).2
        have tks : (shapesOf m).take (i + 1) = (shapesOf m).take i ++ [rows[i].2] := by
          rw [← hrows', List.take_add_one, List.getElem?_map, List.getElem?_eq_getElem hlt]
          rfl
        refine .inr ⟨⟨_, .ref rows[i].1, SqL.of h2, by rw [List.getElem?_map, List.getElem?_eq_getElem hlt]; rfl⟩, fun H' => Inv1 (fun ks => ∀ s ∈ (shapesOf m).take (i + 1), ∀ j < (pqTab m).length, namesN s (pqAt m j).1 ∈ ks) H', fun H' h => ⟨_, by omega, rfl, hlt, h⟩, fun x H' yl => ?_⟩
        obtain ⟨rfl, yx⟩ := yl
        have hx : x = .ref rows[i].1 := by
          have := yx _ (SqL.of h2)
          rw [List.getElem?_map, List.getElem?_eq_getElem hlt] at this
          exact (Option.some.inj this).symm
        subst hx
        walk_at "x"
        refine ⟨rfl, ?_⟩
        refine x_pq ?_
        walk_at "x"
        refine ⟨_, rfl, m, rfl, rfl, ⟨m1, hm⟩, ?_⟩
        refine ⟨fun j k H' => k = (pqTab m).length - j ∧ j ≤ (pqTab m).length ∧ Inv1 (fun ks => (∀ s ∈ (shapesOf m).take i, ∀ j < (pqTab m).length, namesN s (pqAt m j).1 ∈ ks) ∧ ∀ j' < j, namesN rows[i].2 (pqAt m j').1 ∈ ks) H',
          ⟨_, rfl, Nat.zero_le _, e2, h2, L, hL, hT, nd, hin, hdone, fun j' hj' => by omega⟩, ?_⟩
        rintro j k H3 ⟨rfl, hj, e3, h3, L, hL, hT, nd, hin, hdone, hd2⟩
        by_cases hjl : j < (pqTab m).length
        · refine .inr ⟨hjl, fun H' => Inv1 (fun ks => (∀ s ∈ (shapesOf m).take i, ∀ j < (pqTab m).length, namesN s (pqAt m j).1 ∈ ks) ∧ ∀ j' < j + 1, namesN rows[i].2 (pqAt m j').1 ∈ ks) H', fun H' h => ⟨_, by omega, rfl, hjl, h⟩, fun x H' yl => ?_⟩
          obtain ⟨t, rfl, nt, rfl⟩ := yl
          walk_at "x"
          refine ⟨rfl, ?_⟩
          have fjj := fj j (List.mem_range.mpr hjl)
          rw [Bool.and_eq_true, decide_eq_true_iff, List.all_eq_true] at fjj
          obtain ⟨nmem, splt⟩ := fjj
          have plen := pq_len m ⟨m1, hm⟩ j hjl
          walk_at "x"
          refine ⟨rows[i].1, t, rows[i].2, (pqAt m j).1, rfl, (ex_none _).t sqs, SqT.of upd_same, by rw [slen, plen], fun r hr => by rw [plen]; exact pq_idx m hm j hjl r hr, fun r hr => by rw [plen]; exact of_decide_eq_true (splt r hr), by rw [plen]; omega, fun t2 H4 e4 n4 h4 => ?_⟩
          have e34 : Ex H3 H4 := Ex.trans (Ex.new nt) e4
          have nt2 : H3 t2 = none := (Ex.new nt).none n4
          have few : L.length < 60 := hone nd hin
          refine ⟨L.map nQ, t2, nI (namesN rows[i].2 (pqAt m j).1), rfl, ⟨e34 _ _ hL, fun q hq => ?_, by rw [List.length_map]; omega⟩, by rw [nI_vn]; exact SqT.of h4, fun L' c1 c2 => ?_⟩
          · obtain ⟨q0, hq0, rfl⟩ := List.mem_map.mp hq
            show SqT K H4 q0.1 ((nI q0.2).map V.int)
            rw [nI_vn]
            exact SqT.of (e34 _ _ (hT q0 hq0).1)
          · have nD4 : ∀ {q : Addr} {us : List V}, H4 q = some (.tup us) → q ≠ D := fun {q us} h z => by
              have := e34 _ _ hL
              rw [← z, h] at this
              cases this
            have e5 : Ex H (upd H4 D (SetTO P w D L')) := Ex.mut (Ex.trans e3 e34) hn0
            have h5 : upd H4 D (SetTO P w D L') l = some (.lst (rows.map fun r => V.ref r.1)) := by
              rw [upd_ne (fun z => by rw [z] at h3; rw [hL] at h3; cases h3)]
              exact e34 _ _ h3
            have old : ∀ q ∈ L, upd H4 D (SetTO P w D L') q.1 = some (.tup (q.2.map vn)) ∧ H q.1 = none := fun q hq => by
              have h6 := e34 _ _ (hT q hq).1
              rw [upd_ne (nD4 h6)]
              exact ⟨h6, (hT q hq).2⟩
            by_cases hk : namesN rows[i].2 (pqAt m j).1 ∈ L.map (·.2)
            · have el := c1 (mem_nQ.mpr hk)
              subst el
              refine ⟨e5, h5, L, upd_same, old, nd, hin, hdone, fun j' hj' => ?_⟩
              by_cases z : j' = j
              · rw [z]; exact hk
              · exact hd2 j' (by omega)
            · obtain ⟨L2, pm, rfl⟩ := perm_back (M := (t2, namesN rows[i].2 (pqAt m j).1) :: L) (c2 fun z => hk (mem_nQ.mp z))
              have pm2 := pm.map (·.2)
              refine ⟨e5, h5, L2, upd_same, fun q hq => ?_, pm2.nodup_iff.mpr (List.nodup_cons.mpr ⟨hk, nd⟩), fun q hq => ?_, fun s hs j' hj' => ?_, fun j' hj' => ?_⟩
              · rcases List.mem_cons.mp (pm.mem_iff.mp hq) with z | z
                · subst z
                  rw [upd_ne (nD4 h4)]
                  exact ⟨h4, e3.none nt2⟩
                · exact old q z
              · rcases List.mem_cons.mp (pm.mem_iff.mp hq) with z | z
                · subst z; exact nmem
                · exact hin q z
              · exact pm2.mem_iff.mpr (List.mem_cons_of_mem _ (hdone s hs j' hj'))
              · refine pm2.mem_iff.mpr ?_
                by_cases z : j' = j
                · rw [z]; exact List.mem_cons_self
                · exact List.mem_cons_of_mem _ (hd2 j' (by omega))
        · have ej : j = (pqTab m).length := by omega
          subst ej
          refine .inl ⟨rfl, e3, h3, L, hL, hT, nd, hin, fun s hs j' hj' => ?_⟩
          rw [tks] at hs
          rcases List.mem_append.mp hs with z | z
          · exact hdone s z j' hj'
          · rw [List.mem_singleton.mp z]
            exact hd2 j' hj'
      · have ei : i = rows.length := by omega
        subst ei
        refine .inl ⟨⟨_, SqL.of h2, by rw [List.length_map]; exact Nat.le_refl _⟩, ?_⟩
        have rl : rows.length = (shapesOf m).length := by rw [← hrows', List.length_map]
        rw [rl, List.take_length] at hdone
        have hks : ∀ k ∈ patsN m, k ∈ L.map (·.2) := fun k hk => by
          have f := List.all_eq_true.mp (List.all_eq_true.mp pat_all m (List.mem_range.mpr (by omega))) k hk
          obtain ⟨s, hs, f⟩ := List.any_eq_true.mp f
          obtain ⟨j, hj, f⟩ := List.any_eq_true.mp f
          rw [← of_decide_eq_true f]
          exact hdone s hs j (List.mem_range.mp hj)
        have pnd : (patsN m).Nodup := by
          have lt : ((patsN m).map fun k => TS.code 4 (nI k)).Pairwise (· < ·) := of_decide_eq_true (List.all_eq_true.mp pat_srt m (List.mem_range.mpr (by omega)))
          rw [List.pairwise_map] at lt
          exact lt.imp fun h e => by rw [e] at h; omega
        have pall : (L.map (·.2)).Perm (patsN m) := (List.perm_ext_iff_of_nodup nd pnd).mpr fun k => ⟨fun h => by
          obtain ⟨q, hq, rfl⟩ := List.mem_map.mp h
          exact hin q hq, hks k⟩
        have pok : ∀ q ∈ L, q.2.length = (if m = 0 then 1 else m) ∧ TS.Bd 4 (nI q.2) := fun q1 hq1 => by
          have f := List.all_eq_true.mp (List.all_eq_true.mp pat_ok m (List.mem_range.mpr (by omega))) _ (hin q1 hq1)
          rw [Bool.and_eq_true, decide_eq_true_iff, List.all_eq_true] at f
          refine ⟨?_, fun z hz => ?_⟩
          · split
            · rename_i z
              have h9 := hin q1 hq1
              rw [z] at h9
              exact absurd h9 (by simp [patsN])
            · exact f.1
          · obtain ⟨y, hy, rfl⟩ := List.mem_map.mp hz
            have := of_decide_eq_true (f.2 y hy)
            omega
        walk_at "x"
        refine ⟨D, L.map nQ, (if m = 0 then 1 else m), 4, rfl, hL, fun p hp => ?_, by split <;> omega, fun p hp => ?_, fun L' p pm nd' few srt' np => ?_⟩
        · obtain ⟨q0, hq0, rfl⟩ := List.mem_map.mp hp
          show SqT K H2 q0.1 ((nI q0.2).map V.int)
          rw [nI_vn]
          exact SqT.of (hT q0 hq0).1
        · obtain ⟨q0, hq0, rfl⟩ := List.mem_map.mp hp
          exact ⟨by show (nI q0.2).length = _; rw [List.length_map]; exact (pok q0 hq0).1, (pok q0 hq0).2⟩
        · obtain ⟨L2, pm2, rfl⟩ := perm_back pm
          have eks : L2.map (·.2) = patsN m := code_one hm ((pm2.map _).trans pall) (by
            rw [List.pairwise_map] at srt' ⊢
            exact srt')
          refine q _ _ (Ex.trans e2 (Ex.new np)) ⟨p, _, rfl, LstA.new upd_same (e2.none np), ?_⟩
          rw [← eks, List.map_map]
          refine paired_map L2 _ _ fun q hq => ?_
          have hq' := hT q (pm2.mem_iff.mp hq)
          exact rTn' (TupA.new ((Ex.new np) _ _ hq'.1) hq'.2)
end
end Pm
end
section
set_option Elab.async false
set_option maxRecDepth 100000
set_option maxHeartbeats 4000000
set_option linter.all false
namespace Pm
open PySem L2
local macro_rules | `(tactic| walk_at "ex") => `(tactic| first | exact Ex.refl _ | assumption | exact Ex.new (by assumption) | exact Ex.trans (by walk_at "ex") (by assumption) | exact Ex.trans (by walk_at "ex") (Ex.new (by assumption)) | exact Ex.mut (by walk_at "ex") (by first | assumption | exact Ex.none (by walk_at "ex") (by assumption)))
local macro_rules | `(tactic| walk_at "sq") => `(tactic| first | assumption | exact Ex.l (by walk_at "ex") (by assumption) | exact Ex.t (by walk_at "ex") (by assumption) | exact SqL.of (by walk_at "hp") | exact SqT.of (by walk_at "hp") | exact Ex.l (by walk_at "ex") (LstA.sq (by assumption)) | exact Ex.t (by walk_at "ex") (TupA.sq (by assumption)))
local macro_rules | `(tactic| walk_at "hp") => `(tactic| first | assumption | exact upd_same | (refine (by walk_at "ex" : Ex _ _) _ _ ?_; assumption) | (refine (by walk_at "ex" : Ex _ _) _ _ ?_; exact upd_same))
local macro_rules | `(tactic| walk_at "x1") => `(tactic| first
  | (with_reducible refine x_seq ?_) | (with_reducible refine x_asg ?_) | ((with_reducible refine x_name ?_); dsimp only [List.set_cons_succ, List.set_cons_zero])
  | (with_reducible refine x_ret ?_) | (with_reducible refine x_if ?_) | (with_reducible refine x_drop ?_) | (with_reducible refine x_next ?_)
  | ((with_reducible refine' x_var ?h ?_); (case h => rfl)) | (with_reducible refine x_c ?_) | (with_reducible refine x_op ?_) | (with_reducible refine x_un ?_)
  | (with_reducible refine x_I0 ?_) | ((with_reducible refine x_I ?h ?_); (case h => first | exact Or.inl (by omega) | exact Or.inr (by omega) | omega | (constructor <;> omega))) | (with_reducible refine x_U ?_)
  | ((with_reducible refine' x_eq ?h ?_); (case h => rfl)) | ((with_reducible refine' x_ne ?h ?_); (case h => rfl))
  | (with_reducible refine x_cb ?_) | (with_reducible refine x_call ?_) | (with_reducible refine x_nil ?_) | (with_reducible refine x_cons ?_)
  | (with_reducible refine x_test ?_) | (with_reducible refine x_tB ?_) | (with_reducible refine x_bl ?_) | (with_reducible refine x_or ?_) | (with_reducible refine x_and ?_) | (with_reducible refine x_not ?_)
  | (with_reducible refine x_ifE ?_) | (with_reducible refine x_lst ?_) | (with_reducible refine x_tup ?_)
  | (with_reducible refine x_bm ?_) | (with_reducible refine x_bmG ?_) | (with_reducible refine x_chain ?_) | (with_reducible refine x_orV ?_) | (with_reducible refine x_andV ?_) | (with_reducible refine x_notV ?_) | (with_reducible refine x_sub ?_) | (with_reducible refine x_star ?_) | (with_reducible refine x_sl ?_) | (with_reducible refine x_po ?_) | (with_reducible refine x_pn ?_))
local macro_rules | `(tactic| walk_at "xi") => `(tactic| first | (with_reducible refine iteT ?_) | (with_reducible refine iteF ?_))
local macro_rules | `(tactic| walk_at "x") => `(tactic| ((try dsimp only); repeat ((first | walk_at "x1" | walk_at "xi"); (try dsimp only))))

section
variable {P : Program} {w : World} {K : PySem.W.Frag} {mg : Str → Option Value} {base : Heap}
/-! _set_at: slots number 0, n 1, many 2, places 3, at 4, place 5; calls ['choose']; built-ins ['range'] -/
abbrev s_set_at : Stmt := top 32
abbrev N_set_at : List Str := ["number", "n", "many", "places", "at", "place"]
theorem sc_set_at : FnScope N_set_at ["number", "n", "many"] (defScope s_set_at) := ⟨rfl, rfl, rfl, by decide +kernel, rfl, by decide +kernel, by decide +kernel⟩

def spSetAt (K : PySem.W.Frag) : Sp := fun vs H Q _ => ∃ number n m : Nat, ∃ ps : List Nat, vs = [vn number, vn n, vn m] ∧ setAt number n m = some ps ∧ (n ≤ 9 ∧ 1 ≤ m ∧ m ≤ 4) ∧ RetL (ps.map vn) H Q
theorem ok_set_at {f : Addr} {fd : FuncData} (F : Fun K "_set_at" "_set_at" s_set_at f fd) (T : Txt mg) (D_choose : Df P w K mg base "choose" 1 ["m", "k"] spChoose) : FnOk P w K mg base CX0 2 f fd ["number", "n", "many"] (spSetAt K) := by
  refine F.ok sc_set_at (fun vs H Q E h => ?_) (fun cdv A outer s H vs Q E hr h => ?_)
  · obtain ⟨_, _, _, _, rfl, _⟩ := h
    rfl
  · obtain ⟨number, n, m, ps, rfl, hps, ⟨hn, hm1, hm4⟩, q⟩ := h
    refine ⟨_, (pss_cons (ps_set (i := 3) sc_set_at.nd rfl (by first | exact Or.inl rfl | exact Or.inr rfl) (pe_lst (pa_cons pe_int pa_nil)))
  (pss_cons (ps_for PassesOwn.never rfl (pi_range2 (by rfl) T.b_range (pa_cons pe_int (pa_cons (pv 2) pa_nil))) (pg_name (i := 4) sc_set_at.nd rfl (by first | exact Or.inl rfl | exact Or.inr rfl)) (pss_cons (ps_set (i := 5) sc_set_at.nd rfl (by first | exact Or.inl rfl | exact Or.inr rfl) (pe_op op_add (pe_ix ix_list (pv 3) (pe_un un_neg pe_int) (fun _ _ => rfl)) pe_int))
  (pss_cons (ps_while PassesOwn.never (pt_cmpR op_ge (pv 0) (pe_callD D_choose (hr.mono (by decide)) (by rfl) (pa_cons (pe_op op_sub (pe_op op_sub (pv 1) pe_int) (pv 5)) (pa_cons (pe_op op_sub (pe_op op_sub (pv 2) pe_int) (pv 4)) pa_nil))) (nomark _)) (pss_cons (ps_set (i := 0) sc_set_at.nd rfl (by first | exact Or.inl rfl | exact Or.inr rfl) (pe_op op_sub (pv 0) (pe_callD D_choose (hr.mono (by decide)) (by rfl) (pa_cons (pe_op op_sub (pe_op op_sub (pv 1) pe_int) (pv 5)) (pa_cons (pe_op op_sub (pe_op op_sub (pv 2) pe_int) (pv 4)) pa_nil)))))
  (pss_one (ps_set (i := 5) sc_set_at.nd rfl (by first | exact Or.inl rfl | exact Or.inr rfl) (pe_op op_add (pv 5) pe_int)))))
  (pss_one (ps_expr (pe_bm PySem.F.plainAttrs_list PySem.F.slot_list_append PySem.F.type_list_append mt_append (pv 3) (pa_cons (pv 5) pa_nil)))))))
  (pss_one (ps_ret (pv 3))))), ?_⟩
    refine x_start (σ := [some _, some _, some _, none, none, none]) rfl ?_
    walk_at "x"
    refine ⟨by decide, fun l hl => ?_⟩
    have h0 : upd H l (.lst [V.int 0]) l = some (.lst (([0] : List Nat).map vn)) := upd_same
    have e0 := Ex.new (o := .lst [V.int 0]) hl
    generalize upd H l (.lst [V.int 0]) = H0 at h0 e0 ⊢
    walk_at "x"
    refine x_forR2 ?_
    walk_at "x"
    refine ⟨_, _, rfl, by omega, ?_⟩
    have e1 : ((m : Int) - 1).toNat = m - 1 := by omega
    rw [e1]
    unfold setAt at hps
    obtain ⟨⟨lastn, ps'⟩, hfold, rfl⟩ := Option.map_eq_some_iff.mp hps
    refine loopR_foldo (saOut n m) (fun i z σ' H' => Ex H H' ∧ z.2 ≠ [] ∧ z.2.length = i + 1 ∧ H' l = some (.lst (z.2.map vn)) ∧ ∃ x y, σ' = [some (vn z.1), some (vn n), some (vn m), some (.ref l), x, y]) hfold ⟨e0, by simp, rfl, h0, _, _, rfl⟩ ?_ ?_
    · rintro ⟨nu, pl⟩ i ⟨nu', pl'⟩ σ' H' hi hz ⟨e, hne, hlen, hH, x, y, rfl⟩
      dsimp only at hne hlen hH
      obtain ⟨⟨z1, z2⟩, hin, ez⟩ := Option.map_eq_some_iff.mp (show (saIn n (m - 1 - (i + 1)) 10 nu (pl.getLastD 0 + 1)).map (fun z => (z.1, pl ++ [z.2])) = some (nu', pl') from hz)
      cases ez
      walk_at "x"
      refine x_ixLast (SqL.of hH) hne ?_
      walk_at "x"
      refine x_while ?_
      refine ⟨fun k σ' H' => ∃ nu place, saIn n (m - 1 - (i + 1)) k nu place = some (z1, z2) ∧ H' l = some (.lst (pl.map vn)) ∧ Ex H H' ∧ σ' = [some (vn nu), some (vn n), some (vn m), some (.ref l), some (.int (1 + (i : Nat))), some (vn place)], ⟨10, nu, pl.getLastD 0 + 1, hin, hH, e, rfl⟩, ?_⟩
      rintro k σ' H2 ⟨nu, place, hk, hH2, e2, rfl⟩
      cases k with
      | zero => cases hk
      | succ k =>
        have hk' : (if n ≤ place then none else if cN (n - 1 - place) (m - 1 - (i + 1)) ≤ nu then saIn n (m - 1 - (i + 1)) k (nu - cN (n - 1 - place) (m - 1 - (i + 1))) (place + 1) else some (nu, place)) = some (z1, z2) := hk
        have hpl : ¬ n ≤ place := by
          intro z
          rw [if_pos z] at hk'
          cases hk'
        rw [if_neg hpl] at hk'
        have ec : chI ((n : Int) - 1 - (place : Nat)) ((m : Int) - 1 - (1 + (i : Nat))) = (cN (n - 1 - place) (m - 1 - (i + 1)) : Nat) := by
          rw [← chI_nat (by omega) (by omega)]
          congr 1 <;> omega
        walk_at "x"
        refine ⟨_, _, rfl, by omega, ?_⟩
        rw [ec]
        walk_at "x"
        refine x_dec (fun h1 => ?_) (fun h1 => ?_)
        · have h1' : cN (n - 1 - place) (m - 1 - (i + 1)) ≤ nu := by
            have : ((cN (n - 1 - place) (m - 1 - (i + 1)) : Nat) : Int) ≤ (nu : Int) := h1
            omega
          rw [if_pos h1'] at hk'
          refine ⟨_, fun σ' H' h => h, ?_⟩
          walk_at "x"
          refine ⟨_, _, rfl, by omega, ?_⟩
          rw [ec]
          walk_at "x"
          refine ⟨k, by omega, nu - cN (n - 1 - place) (m - 1 - (i + 1)), place + 1, hk', hH2, e2, ?_⟩
          have e3 : (nu : Int) - ((cN (n - 1 - place) (m - 1 - (i + 1)) : Nat) : Int) = ((nu - cN (n - 1 - place) (m - 1 - (i + 1)) : Nat) : Int) := by omega
          rw [e3]
          rfl
        · have h1' : ¬ cN (n - 1 - place) (m - 1 - (i + 1)) ≤ nu := fun z => h1 (by show ((cN (n - 1 - place) (m - 1 - (i + 1)) : Nat) : Int) ≤ (nu : Int); omega)
          rw [if_neg h1'] at hk'
          cases hk'
          walk_at "x"
          refine ⟨.inl ⟨rfl, _, SqL.of hH2⟩, ?_⟩
          walk_at "x"
          refine x_append hH2 (by rw [List.length_map, sizeLine_eq]; omega) ?_
          rw [← List.map_singleton, ← List.map_append]
          exact ⟨Ex.mut e2 hl, by simp, by show (pl ++ [_]).length = i + 1 + 1; rw [List.length_append, hlen]; rfl, upd_same, _, _, rfl⟩
    · rintro σ' H' ⟨e, hne, hlen, hH, x, y, rfl⟩
      walk_at "x"
      exact q l _ e hl hH
/-! totals: slots size 0, found 1, n 2, many 3; calls ['_block']; built-ins ['range', 'min', 'sum'] -/
abbrev s_totals : Stmt := top 27
abbrev N_totals : List Str := ["size", "found", "n", "many"]
theorem sc_totals : FnScope N_totals ["size"] (defScope s_totals) := ⟨rfl, rfl, rfl, by decide +kernel, rfl, by decide +kernel, by decide +kernel⟩

def spTotals (K : PySem.W.Frag) : Sp := fun vs H Q _ => ∃ n : Nat, vs = [vn n] ∧ n ≤ 9 ∧ RetL ((totalsN n).map vn) H Q
theorem sum_nI (xs : List Nat) : (xs.map fun (n : Nat) => (n : Int)).sum = (xs.sum : Nat) := by
  induction xs with
  | nil => rfl
  | cons x t ih => rw [List.map_cons, List.sum_cons, List.sum_cons, ih, Int.natCast_add]
theorem ok_totals {f : Addr} {fd : FuncData} (F : Fun K "totals" "totals" s_totals f fd) (T : Txt mg) (gL : GInt mg "LARGEST" 4) (D_block : Df P w K mg base "_block" 2 ["counts", "n", "many"] (spBlock K)) : FnOk P w K mg base CX0 3 f fd ["size"] (spTotals K) := by
  refine F.ok sc_totals (fun vs H Q E h => ?_) (fun cdv A outer s H vs Q E hr h => ?_)
  · obtain ⟨_, rfl, _⟩ := h
    rfl
  · obtain ⟨n, rfl, hn, q⟩ := h
    refine ⟨_, (pss_cons (ps_set (i := 1) sc_totals.nd rfl (by first | exact Or.inl rfl | exact Or.inr rfl) (pe_lst (pa_cons pe_int pa_nil)))
  (pss_cons (ps_for PassesOwn.never rfl (pi_range2 (by rfl) T.b_range (pa_cons pe_int (pa_cons (pe_op op_add (pv 0) pe_int) pa_nil))) (pg_name (i := 2) sc_totals.nd rfl (by first | exact Or.inl rfl | exact Or.inr rfl)) (pss_one (ps_expr (pe_bm PySem.F.plainAttrs_list PySem.F.slot_list_append PySem.F.type_list_append mt_append (pv 1) (pa_cons (pe_callB (cr_sum rfl) (by rfl) T.b_sum (by decide +kernel) (pa_cons (pe_lc (own := [("many", 3)]) (g := gName 3) rfl sc_totals.nd (pi_range2 (by rfl) T.b_range (pa_cons pe_int (pa_cons (pe_op op_add (pe_callB (call_min2 rfl) (by rfl) T.b_min (by decide +kernel) (pa_cons (pv 2) (pa_cons (pe_globI (by rfl) gL) pa_nil))) pe_int) pa_nil))) (blkOk_by (N := N_totals) (sc := defScope s_totals) (by decide +kernel)) (fun _ _ _ _ _ => pg_name (i := 3) sc_totals.nd rfl (Or.inl rfl)) (fun _ _ _ _ _ => pts_nil) (fun _ _ _ _ _ => (pe_callD D_block (hr.mono (by decide)) (by rfl) (pa_cons (pv 1) (pa_cons (pv 2) (pa_cons (pv 3) pa_nil)))))) pa_nil)) pa_nil)))))
  (pss_one (ps_ret (pv 1))))), ?_⟩
    refine x_start (σ := [some _, none, none, none]) rfl ?_
    walk_at "x"
    refine ⟨by decide, fun l hl => ?_⟩
    have h0 : upd H l (.lst [V.int 1]) l = some (.lst (([1] : List Nat).map vn)) := upd_same
    have e0 := Ex.new (o := .lst [V.int 1]) hl
    generalize upd H l (.lst [V.int 1]) = H0 at h0 e0 ⊢
    walk_at "x"
    refine x_forR2 ?_
    walk_at "x"
    refine ⟨_, _, rfl, by omega, ?_⟩
    have e1 : ((n : Int) + 1 - 1).toNat = n := by omega
    rw [e1]
    refine loopR_foldi (fun f i => totStep f (i + 1)) (fun i fs σ' H' => Ex H H' ∧ fs.length = i + 1 ∧ H' l = some (.lst (fs.map vn)) ∧ ∃ x, σ' = [some (vn n), some (.ref l), x, none]) [1] ⟨e0, rfl, h0, _, rfl⟩ ?_ ?_
    · rintro fs i σ' H' hi ⟨e, hlen, hH, x, rfl⟩
      walk_at "x"
      refine ⟨.inl ⟨rfl, _, SqL.of hH⟩, ?_⟩
      walk_at "x"
      refine x_lcR2 ?_
      walk_at "x"
      refine ⟨_, _, rfl, ?_⟩
      walk_at "x"
      refine ⟨_, _, rfl, ?_, ?_⟩
      · split <;> omega
      have e2 : ((if (4 : Int) < 1 + (i : Int) then (4 : Int) else 1 + (i : Int)) + 1 - 1).toNat = min (i + 1) 4 := by split <;> omega
      rw [e2]
      refine compR_map (by omega) (fun _ => true) (fun k => vn (blockI fs (i + 1) (k + 1))) (fun _ => rfl) (fun k H2 hk e2 Qt qt => qt _ (Ex.refl _)) (fun k H2 hk _ e2 Qe qe => ?_) (fun Dl H2 hD e2 hH2 => ?_)
      · walk_at "x"
        refine ⟨l, fs, i + 1, k + 1, ?_, e2.l (SqL.of hH), by omega, by omega, qe _ (Ex.refl _)⟩
        show [V.ref l, V.int (1 + (i : Nat)), V.int (1 + (k : Nat))] ++ [] = [V.ref l, V.int ((i + 1 : Nat) : Int), V.int ((k + 1 : Nat) : Int)]
        rw [show (1 + (i : Nat) : Int) = ((i + 1 : Nat) : Int) by omega, show (1 + (k : Nat) : Int) = ((k + 1 : Nat) : Int) by omega]
        rfl
      · rw [accOf_all] at hH2
        walk_at "x"
        refine ⟨Dl, ((List.range (min (i + 1) 4)).map fun k => blockI fs (i + 1) (k + 1)).map fun (z : Nat) => (z : Int), rfl, SqL.of ?_, ?_⟩
        · rw [← vn_int, List.map_map]
          exact hH2
        rw [sum_nI]
        walk_at "x"
        refine x_append (e2 _ _ hH) (by rw [List.length_map, sizeLine_eq]; omega) ?_
        refine ⟨Ex.mut (Ex.trans e e2) hl, ?_, ?_, _, rfl⟩
        · unfold totStep
          rw [List.length_append, hlen]
          rfl
        · rw [upd_same]
          unfold totStep
          rw [List.map_append]
          rfl
    · rintro σ' H' ⟨e, hlen, hH, x, rfl⟩
      walk_at "x"
      exact q l _ e hl hH
end
end Pm
end
section
set_option Elab.async false
set_option maxRecDepth 100000
set_option maxHeartbeats 4000000
set_option linter.all false
namespace Pm
open PySem L2
local macro_rules | `(tactic| walk_at "ex") => `(tactic| first | exact Ex.refl _ | assumption | exact Ex.new (by assumption) | exact Ex.trans (by walk_at "ex") (by assumption) | exact Ex.trans (by walk_at "ex") (Ex.new (by assumption)) | exact Ex.mut (by walk_at "ex") (by first | assumption | exact Ex.none (by walk_at "ex") (by assumption)))
local macro_rules | `(tactic| walk_at "sq") => `(tactic| first | assumption | exact Ex.l (by walk_at "ex") (by assumption) | exact Ex.t (by walk_at "ex") (by assumption) | exact SqL.of (by walk_at "hp") | exact SqT.of (by walk_at "hp") | exact Ex.l (by walk_at "ex") (LstA.sq (by assumption)) | exact Ex.t (by walk_at "ex") (TupA.sq (by assumption)))
local macro_rules | `(tactic| walk_at "hp") => `(tactic| first | assumption | exact upd_same | (refine (by walk_at "ex" : Ex _ _) _ _ ?_; assumption) | (refine (by walk_at "ex" : Ex _ _) _ _ ?_; exact upd_same))
local macro_rules | `(tactic| walk_at "x1") => `(tactic| first
  | (with_reducible refine x_seq ?_) | (with_reducible refine x_asg ?_) | ((with_reducible refine x_name ?_); dsimp only [List.set_cons_succ, List.set_cons_zero])
  | (with_reducible refine x_ret ?_) | (with_reducible refine x_if ?_) | (with_reducible refine x_drop ?_) | (with_reducible refine x_next ?_)
  | ((with_reducible refine' x_var ?h ?_); (case h => rfl)) | (with_reducible refine x_c ?_) | (with_reducible refine x_op ?_) | (with_reducible refine x_un ?_)
  | (with_reducible refine x_I0 ?_) | ((with_reducible refine x_I ?h ?_); (case h => first | exact Or.inl (by omega) | exact Or.inr (by omega) | omega | (constructor <;> omega))) | (with_reducible refine x_U ?_)
  | ((with_reducible refine' x_eq ?h ?_); (case h => rfl)) | ((with_reducible refine' x_ne ?h ?_); (case h => rfl))
  | (with_reducible refine x_cb ?_) | (with_reducible refine x_call ?_) | (with_reducible refine x_nil ?_) | (with_reducible refine x_cons ?_)
  | (with_reducible refine x_test ?_) | (with_reducible refine x_tB ?_) | (with_reducible refine x_bl ?_) | (with_reducible refine x_or ?_) | (with_reducible refine x_and ?_) | (with_reducible refine x_not ?_)
  | (with_reducible refine x_ifE ?_) | (with_reducible refine x_lst ?_) | (with_reducible refine x_tup ?_)
  | (with_reducible refine x_bm ?_) | (with_reducible refine x_bmG ?_) | (with_reducible refine x_chain ?_) | (with_reducible refine x_orV ?_) | (with_reducible refine x_andV ?_) | (with_reducible refine x_notV ?_) | (with_reducible refine x_sub ?_) | (with_reducible refine x_star ?_) | (with_reducible refine x_sl ?_) | (with_reducible refine x_po ?_) | (with_reducible refine x_pn ?_))
local macro_rules | `(tactic| walk_at "xi") => `(tactic| first | (with_reducible refine iteT ?_) | (with_reducible refine iteF ?_))
local macro_rules | `(tactic| walk_at "x") => `(tactic| ((try dsimp only); repeat ((first | walk_at "x1" | walk_at "xi"); (try dsimp only))))

section
variable {P : Program} {w : World} {K : PySem.W.Frag} {mg : Str → Option Value} {base : Heap}
/-! torn_counts: slots size 0, most 1, none 2, one 3, two 4, three 5, four 6, m 7, triples 8, quadruples 9, row 10, t 11, first_torn 12; calls ['choose']; built-ins ['range'] -/
abbrev s_torn_counts : Stmt := top 26
abbrev N_torn_counts : List Str := ["size", "most", "none", "one", "two", "three", "four", "m", "triples", "quadruples", "row", "t", "first_torn"]
theorem sc_torn_counts : FnScope N_torn_counts ["size", "most"] (defScope s_torn_counts) := ⟨rfl, rfl, rfl, by decide +kernel, rfl, by decide +kernel, by decide +kernel⟩

def spTC (K : PySem.W.Frag) : Sp := fun vs H Q _ => ∃ n m : Nat, vs = [vn n, vn m] ∧ n ≤ 4 ∧ m ≤ 4 ∧ RetL ((tornCounts n m).map vn) H Q
def fourL (H H' : Hp) (m : Nat) (z : List Nat × List Nat × List Nat × List Nat) (a1 a2 a3 a4 : Addr) : Prop :=
  (H' a1 = some (.lst (z.1.map vn)) ∧ z.1.length = m + 1 ∧ H a1 = none) ∧ (H' a2 = some (.lst (z.2.1.map vn)) ∧ z.2.1.length = m + 1 ∧ H a2 = none) ∧ (H' a3 = some (.lst (z.2.2.1.map vn)) ∧ z.2.2.1.length = m + 1 ∧ H a3 = none) ∧ (H' a4 = some (.lst (z.2.2.2.map vn)) ∧ z.2.2.2.length = m + 1 ∧ H a4 = none)
theorem tcRow_len (most m : Nat) (o t th fo : List Nat) : (tcRow most m o t th fo).length = most + 1 := by
  unfold tcRow
  have : ∀ k (f : Nat → Nat) (s : List Nat), ((List.range k).foldl (fun row i => row ++ [f i]) s).length = s.length + k := by
    intro k f s
    induction k with
    | zero => rfl
    | succ k ih => rw [List.range_succ, List.foldl_append]; show (_ ++ [_]).length = _; rw [List.length_append, ih]; rfl
  rw [this]
  show 1 + most = _
  omega
set_option linter.unusedVariables false in
theorem ok_torn_counts {f fc : Addr} {fd : FuncData} (F : Fun K "torn_counts" "torn_counts" s_torn_counts f fd) (T : Txt mg) (gF : mg "FORM_COUNTS" = some (.ref fc)) (hF : ∀ H, SqT K H fc ([0, 1, 3, 12, 42].map vn)) (D_choose : Df P w K mg base "choose" 1 ["m", "k"] spChoose) :
    FnOk P w K mg base CX0 2 f fd ["size", "most"] (spTC K) := by
  refine F.ok sc_torn_counts (fun vs H Q E h => ?_) (fun cdv A outer s H vs Q E hr h => ?_)
  · obtain ⟨_, _, rfl, _⟩ := h
    rfl
  · obtain ⟨n, m, rfl, hn, hm, q⟩ := h
    refine ⟨_, (pss_cons (ps_set (i := 2) sc_torn_counts.nd rfl (by first | exact Or.inl rfl | exact Or.inr rfl) (pe_op op_rep (pe_lst (pa_cons pe_int pa_nil)) (pe_op op_add (pv 1) pe_int)))
  (pss_cons (ps_asg (pe_tup (pa_cons (pe_lst (pa_cons pe_int (StX.pa_star (pe_slice sl_list (pv 2) (po_some pe_int) po_none) pa_nil))) (pa_cons (pv 2) (pa_cons (pv 2) (pa_cons (pv 2) pa_nil))))) (pg_tup (by rfl) (pgs_cons (pg_name (i := 3) sc_torn_counts.nd rfl (by first | exact Or.inl rfl | exact Or.inr rfl)) (pgs_cons (pg_name (i := 4) sc_torn_counts.nd rfl (by first | exact Or.inl rfl | exact Or.inr rfl)) (pgs_cons (pg_name (i := 5) sc_torn_counts.nd rfl (by first | exact Or.inl rfl | exact Or.inr rfl)) (pgs_cons (pg_name (i := 6) sc_torn_counts.nd rfl (by first | exact Or.inl rfl | exact Or.inr rfl)) pgs_nil))))))
  (pss_cons (ps_for PassesOwn.never rfl (pi_range1 (by rfl) T.b_range (pa_cons (pv 0) pa_nil)) (pg_name (i := 7) sc_torn_counts.nd rfl (by first | exact Or.inl rfl | exact Or.inr rfl)) (pss_cons (ps_set (i := 8) sc_torn_counts.nd rfl (by first | exact Or.inl rfl | exact Or.inr rfl) (pe_op op_mul (pe_ix ix_tup (pe_globR (by rfl) gF) pe_int (fun _ _ => rfl)) (pe_callD D_choose (hr.mono (by decide)) (by rfl) (pa_cons (pv 7) (pa_cons pe_int pa_nil)))))
  (pss_cons (ps_set (i := 9) sc_torn_counts.nd rfl (by first | exact Or.inl rfl | exact Or.inr rfl) (pe_op op_mul (pe_ix ix_tup (pe_globR (by rfl) gF) pe_int (fun _ _ => rfl)) (pe_callD D_choose (hr.mono (by decide)) (by rfl) (pa_cons (pv 7) (pa_cons pe_int pa_nil)))))
  (pss_cons (ps_set (i := 10) sc_torn_counts.nd rfl (by first | exact Or.inl rfl | exact Or.inr rfl) (pe_lst (pa_cons (pe_op op_add (pe_ix ix_list (pv 3) pe_int (fun _ _ => rfl)) (pe_op op_mul (pv 7) (pe_ix ix_list (pv 4) pe_int (fun _ _ => rfl)))) pa_nil)))
  (pss_cons (ps_for PassesOwn.never rfl (pi_range2 (by rfl) T.b_range (pa_cons pe_int (pa_cons (pe_op op_add (pv 1) pe_int) pa_nil))) (pg_name (i := 11) sc_torn_counts.nd rfl (by first | exact Or.inl rfl | exact Or.inr rfl)) (pss_cons (ps_set (i := 12) sc_torn_counts.nd rfl (by first | exact Or.inl rfl | exact Or.inr rfl) (pe_op op_add (pe_op op_add (pe_op op_mul (pe_op op_mul pe_int (pv 7)) (pe_ix ix_list (pv 4) (pe_op op_sub (pv 11) pe_int) (fun _ _ => rfl))) (pe_op op_mul (pv 8) (pe_ix ix_list (pv 5) (pe_op op_sub (pv 11) pe_int) (fun _ _ => rfl)))) (pe_op op_mul (pv 9) (pe_ix ix_list (pv 6) (pe_op op_sub (pv 11) pe_int) (fun _ _ => rfl)))))
  (pss_one (ps_expr (pe_bm PySem.F.plainAttrs_list PySem.F.slot_list_append PySem.F.type_list_append mt_append (pv 10) (pa_cons (pe_op op_add (pe_op op_add (pe_ix ix_list (pv 3) (pv 11) (fun _ _ => rfl)) (pe_op op_mul (pv 7) (pe_ix ix_list (pv 4) (pv 11) (fun _ _ => rfl)))) (pv 12)) pa_nil))))))
  (pss_one (ps_asg (pe_tup (pa_cons (pv 10) (pa_cons (pv 3) (pa_cons (pv 4) (pa_cons (pv 5) pa_nil))))) (pg_tup (by rfl) (pgs_cons (pg_name (i := 3) sc_torn_counts.nd rfl (by first | exact Or.inl rfl | exact Or.inr rfl)) (pgs_cons (pg_name (i := 4) sc_torn_counts.nd rfl (by first | exact Or.inl rfl | exact Or.inr rfl)) (pgs_cons (pg_name (i := 5) sc_torn_counts.nd rfl (by first | exact Or.inl rfl | exact Or.inr rfl)) (pgs_cons (pg_name (i := 6) sc_torn_counts.nd rfl (by first | exact Or.inl rfl | exact Or.inr rfl)) pgs_nil))))))))))))
  (pss_one (ps_ret (pv 3)))))), ?_⟩
    refine x_start (σ := [some _, some _, none, none, none, none, none, none, none, none, none, none, none]) rfl ?_
    walk_at "x"
    refine ⟨by decide, fun l0 n0 => ?_⟩
    walk_at "x"
    refine ⟨l0, _, _, rfl, rfl, upd_same, by omega, by omega, ?_, fun l n1 => ?_⟩
    · show 1 * (((m : Int) + 1)).toNat ≤ sizeLine
      rw [sizeLine_eq]
      omega
    rw [show ((m : Int) + 1).toNat = m + 1 by omega, show ([V.int 0] : List V) = [vn 0] from rfl, rep_vn]
    have e1 := Ex.trans (Ex.new (o := .lst [vn 0]) n0) (Ex.new (o := .lst ((List.replicate (m + 1) 0).map vn)) n1)
    have h1 : upd (upd H l0 (.lst [vn 0])) l (.lst ((List.replicate (m + 1) 0).map vn)) l = some (.lst ((List.replicate (m + 1) 0).map vn)) := upd_same
    have nl : H l = none := (Ex.new n0).none n1
    show gName 2 (V.ref l) _ (upd (upd H l0 (.lst [vn 0])) l (.lst ((List.replicate (m + 1) 0).map vn))) _
    generalize upd (upd H l0 (.lst [vn 0])) l (.lst ((List.replicate (m + 1) 0).map vn)) = H1 at e1 h1 ⊢
    walk_at "x"
    walk_at "x"
    walk_at "x"
    refine ⟨_, rfl, ?_⟩
    refine ⟨l, _, rfl, SqL.of h1, fun l2 n2 => ?_⟩
    have ecut : cutV ((List.replicate (m + 1) 0).map vn) (some 1) none = (List.replicate m 0).map vn := by
      rw [show (some 1 : Option Int) = some ((1 : Nat) : Int) from rfl, cut_from, ← List.map_drop, List.drop_replicate]
      rfl
    rw [ecut]
    refine ⟨l2, _, rfl, .inr (SqL.of upd_same), ?_⟩
    have e2 := Ex.trans e1 (Ex.new (o := .lst ((List.replicate m 0).map vn)) n2)
    have h2 := (Ex.new (o := .lst ((List.replicate m 0).map vn)) n2) _ _ h1
    have n2' := e1.none n2
    generalize upd H1 l2 (.lst ((List.replicate m 0).map vn)) = H2 at e2 h2 ⊢
    walk_at "x"
    have eone : V.int 1 :: ((List.replicate m 0).map vn ++ []) = (1 :: List.replicate m 0 : List Nat).map vn := by rw [List.append_nil]; rfl
    rw [eone]
    refine ⟨by rw [List.length_map, List.length_cons, List.length_replicate, sizeLine_eq]; omega, fun p np => ?_⟩
    walk_at "x"
    refine ⟨by show 4 ≤ sizeLine; decide, fun p2 np2 => ?_⟩
    refine g4_by rfl upd_same ?_
    dsimp only [List.set_cons_succ, List.set_cons_zero]
    have e3 := Ex.trans (Ex.trans e2 (Ex.new (o := .lst ((1 :: List.replicate m 0 : List Nat).map vn)) np)) (Ex.new (o := .tup [V.ref p, V.ref l, V.ref l, V.ref l]) np2)
    have h3 := (Ex.new (o := .tup [V.ref p, V.ref l, V.ref l, V.ref l]) np2) _ _ ((Ex.new (o := .lst ((1 :: List.replicate m 0 : List Nat).map vn)) np) _ _ h2)
    have hp3 := (Ex.new (o := .tup [V.ref p, V.ref l, V.ref l, V.ref l]) np2) p _ upd_same
    have np' := e2.none np
    generalize upd (upd H2 p (.lst ((1 :: List.replicate m 0 : List Nat).map vn))) p2 (.tup [V.ref p, V.ref l, V.ref l, V.ref l]) = H3 at e3 h3 hp3 ⊢
    walk_at "x"
    refine x_forR1 ?_
    walk_at "x"
    refine ⟨_, rfl, by omega, by omega, ?_⟩
    rw [Int.toNat_natCast]
    refine loopR_foldi (tcStep m) (fun i z σ' H' => Ex H H' ∧ ∃ a1 a2 a3 a4, fourL H H' m z a1 a2 a3 a4 ∧ ∃ y1 y2 y3 y4 y5 y6, σ' = [some (vn n), some (vn m), some (.ref l), some (.ref a1), some (.ref a2), some (.ref a3), some (.ref a4), y1, y2, y3, y4, y5, y6])
      (1 :: List.replicate m 0, List.replicate (m + 1) 0, List.replicate (m + 1) 0, List.replicate (m + 1) 0) ⟨e3, p, l, l, l, ⟨⟨hp3, by rw [List.length_cons, List.length_replicate], np'⟩, ⟨h3, List.length_replicate, nl⟩, ⟨h3, List.length_replicate, nl⟩, ⟨h3, List.length_replicate, nl⟩⟩, _, _, _, _, _, _, rfl⟩ ?_ ?_
    · rintro ⟨one, two, three, four⟩ i σ' H' hi ⟨e, a1, a2, a3, a4, ⟨⟨g1, l1, m1⟩, ⟨g2, l2, m2⟩, ⟨g3, l3, m3⟩, ⟨g4, l4, m4⟩⟩, y1, y2, y3, y4, y5, y6, rfl⟩
      dsimp only at g1 g2 g3 g4 l1 l2 l3 l4
      have c2 : chI (0 + (i : Nat)) 2 = (cN i 2 : Nat) := by rw [Int.zero_add]; exact chI_nat (k := 2) (by omega) (by omega)
      have c3 : chI (0 + (i : Nat)) 3 = (cN i 3 : Nat) := by rw [Int.zero_add]; exact chI_nat (k := 3) (by omega) (by omega)
      have b2 := cN_small i 2 (by omega) (by omega)
      have b3 := cN_small i 3 (by omega) (by omega)
      walk_at "x"
      refine x_ixNT (n := 3) (hF _) rfl (by decide) ?_
      walk_at "x"
      refine ⟨_, _, rfl, by omega, ?_⟩
      rw [c2]
      walk_at "x"
      refine x_ixNT (n := 4) (hF _) rfl (by decide) ?_
      rw [show gt [0, 1, 3, 12, 42] 3 = 12 from rfl, show gt [0, 1, 3, 12, 42] 4 = 42 from rfl]
      walk_at "x"
      refine ⟨_, _, rfl, by omega, ?_⟩
      rw [c3]
      walk_at "x"
      refine x_ixN (n := 0) (SqL.of g1) rfl (by omega) ?_
      walk_at "x"
      refine x_ixN (n := 0) (SqL.of g2) rfl (by omega) ?_
      walk_at "x"
      refine ⟨by show 1 ≤ sizeLine; decide, fun r nr => ?_⟩
      have er : ([V.int ((gt one 0 : Nat) + (0 + (i : Nat)) * (gt two 0 : Nat))] : List V) = ([gt one 0 + i * gt two 0] : List Nat).map vn := by
        show [V.int _] = [V.int _]
        rw [Int.zero_add, ← Int.natCast_mul, ← Int.natCast_add]
      rw [er]
      have e5 := Ex.new (o := .lst (([gt one 0 + i * gt two 0] : List Nat).map vn)) nr
      have hr5 : upd H' r (.lst (([gt one 0 + i * gt two 0] : List Nat).map vn)) r = some (.lst (([gt one 0 + i * gt two 0] : List Nat).map vn)) := upd_same
      have nr' := e.none nr
      have nef : ∀ {a : Addr} {us : List V}, H' a = some (.lst us) → a ≠ r := fun h z => by rw [z, nr] at h; cases h
      have d1 := nef g1
      have d2 := nef g2
      have d3 := nef g3
      have d4 := nef g4
      have e6 := Ex.trans e e5
      replace g1 := e5 _ _ g1
      replace g2 := e5 _ _ g2
      replace g3 := e5 _ _ g3
      replace g4 := e5 _ _ g4
      generalize upd H' r (.lst (([gt one 0 + i * gt two 0] : List Nat).map vn)) = H5 at e5 e6 hr5 g1 g2 g3 g4 ⊢
      walk_at "x"
      refine x_forR2 ?_
      walk_at "x"
      refine ⟨_, _, rfl, by omega, ?_⟩
      rw [show ((m : Int) + 1 - 1).toNat = m by omega]
      refine loopR_foldi (fun row t => row ++ [gt one (t + 1) + i * gt two (t + 1) + (2 * i * gt two t + 12 * cN i 2 * gt three t + 42 * cN i 3 * gt four t)])
        (fun t row σ' H' => row.length = t + 1 ∧ Ex H H' ∧ fourL H H' m (one, two, three, four) a1 a2 a3 a4 ∧ H' r = some (.lst (row.map vn)) ∧ ∃ z1 z2, σ' = [some (vn n), some (vn m), some (.ref l), some (.ref a1), some (.ref a2), some (.ref a3), some (.ref a4), some (.int (0 + (i : Nat))), some (.int (((12 : Nat) : Int) * (cN i 2 : Nat))), some (.int (((42 : Nat) : Int) * (cN i 3 : Nat))), some (.ref r), z1, z2])
        [gt one 0 + i * gt two 0] ⟨rfl, e6, ⟨⟨g1, l1, m1⟩, ⟨g2, l2, m2⟩, ⟨g3, l3, m3⟩, ⟨g4, l4, m4⟩⟩, hr5, _, _, rfl⟩ ?_ ?_
      · rintro row t σ' H6 ht ⟨lr, e7, ⟨⟨g1, l1, m1⟩, ⟨g2, l2, m2⟩, ⟨g3, l3, m3⟩, ⟨g4, l4, m4⟩⟩, hr6, z1, z2, rfl⟩
        dsimp only at g1 g2 g3 g4 l1 l2 l3 l4
        walk_at "x"
        refine x_ixN (n := t) (SqL.of g2) (by omega) (by omega) ?_
        walk_at "x"
        refine x_ixN (n := t) (SqL.of g3) (by omega) (by omega) ?_
        walk_at "x"
        refine x_ixN (n := t) (SqL.of g4) (by omega) (by omega) ?_
        walk_at "x"
        refine ⟨.inl ⟨rfl, _, SqL.of hr6⟩, ?_⟩
        walk_at "x"
        refine x_ixN (n := t + 1) (SqL.of g1) (by omega) (by omega) ?_
        walk_at "x"
        refine x_ixN (n := t + 1) (SqL.of g2) (by omega) (by omega) ?_
        walk_at "x"
        refine x_append hr6 (by rw [List.length_map, sizeLine_eq]; omega) ?_
        refine ⟨by rw [List.length_append, lr]; rfl, Ex.mut e7 nr', ⟨⟨?_, l1, m1⟩, ⟨?_, l2, m2⟩, ⟨?_, l3, m3⟩, ⟨?_, l4, m4⟩⟩, ?_, _, _, rfl⟩
        · rw [upd_ne d1]; exact g1
        · rw [upd_ne d2]; exact g2
        · rw [upd_ne d3]; exact g3
        · rw [upd_ne d4]; exact g4
        · rw [upd_same, List.map_append]
          refine congrArg (fun z => some (HO.lst (row.map vn ++ [V.int z]))) ?_
          push_cast
          rw [Int.zero_add]
      · rintro σ' H6 ⟨lr, e7, ⟨⟨g1, l1, m1⟩, ⟨g2, l2, m2⟩, ⟨g3, l3, m3⟩, ⟨g4, l4, m4⟩⟩, hr6, z1, z2, rfl⟩
        walk_at "x"
        refine ⟨by show 4 ≤ sizeLine; decide, fun p4 np4 => ?_⟩
        have e8 := Ex.new (o := .tup [V.ref r, V.ref a1, V.ref a2, V.ref a3]) np4
        refine g4_by rfl upd_same ?_
        dsimp only [List.set_cons_succ, List.set_cons_zero]
        exact ⟨Ex.trans e7 e8, r, a1, a2, a3, ⟨⟨e8 _ _ hr6, tcRow_len m i one two three four, nr'⟩, ⟨e8 _ _ g1, l1, m1⟩, ⟨e8 _ _ g2, l2, m2⟩, ⟨e8 _ _ g3, l3, m3⟩⟩, _, _, _, _, _, _, rfl⟩
    · rintro σ' H' ⟨e, a1, a2, a3, a4, ⟨⟨g1, l1, m1⟩, _⟩, y1, y2, y3, y4, y5, y6, rfl⟩
      walk_at "x"
      exact q a1 _ e m1 g1
end
end Pm
end
section
set_option Elab.async false
set_option maxRecDepth 100000
set_option maxHeartbeats 4000000
set_option linter.all false
namespace Pm
open PySem L2
local macro_rules | `(tactic| walk_at "ex") => `(tactic| first | exact Ex.refl _ | assumption | exact Ex.new (by assumption) | exact Ex.trans (by walk_at "ex") (by assumption) | exact Ex.trans (by walk_at "ex") (Ex.new (by assumption)) | exact Ex.mut (by walk_at "ex") (by first | assumption | exact Ex.none (by walk_at "ex") (by assumption)))
local macro_rules | `(tactic| walk_at "sq") => `(tactic| first | assumption | exact Ex.l (by walk_at "ex") (by assumption) | exact Ex.t (by walk_at "ex") (by assumption) | exact SqL.of (by walk_at "hp") | exact SqT.of (by walk_at "hp") | exact Ex.l (by walk_at "ex") (LstA.sq (by assumption)) | exact Ex.t (by walk_at "ex") (TupA.sq (by assumption)))
local macro_rules | `(tactic| walk_at "hp") => `(tactic| first | assumption | exact upd_same | (refine (by walk_at "ex" : Ex _ _) _ _ ?_; assumption) | (refine (by walk_at "ex" : Ex _ _) _ _ ?_; exact upd_same))
local macro_rules | `(tactic| walk_at "x1") => `(tactic| first
  | (with_reducible refine x_seq ?_) | (with_reducible refine x_asg ?_) | ((with_reducible refine x_name ?_); dsimp only [List.set_cons_succ, List.set_cons_zero])
  | (with_reducible refine x_ret ?_) | (with_reducible refine x_if ?_) | (with_reducible refine x_drop ?_) | (with_reducible refine x_next ?_)
  | ((with_reducible refine' x_var ?h ?_); (case h => rfl)) | (with_reducible refine x_c ?_) | (with_reducible refine x_op ?_) | (with_reducible refine x_un ?_)
  | (with_reducible refine x_I0 ?_) | ((with_reducible refine x_I ?h ?_); (case h => first | exact Or.inl (by omega) | exact Or.inr (by omega) | omega | (constructor <;> omega))) | (with_reducible refine x_U ?_)
  | ((with_reducible refine' x_eq ?h ?_); (case h => rfl)) | ((with_reducible refine' x_ne ?h ?_); (case h => rfl))
  | (with_reducible refine x_cb ?_) | (with_reducible refine x_call ?_) | (with_reducible refine x_nil ?_) | (with_reducible refine x_cons ?_)
  | (with_reducible refine x_test ?_) | (with_reducible refine x_tB ?_) | (with_reducible refine x_bl ?_) | (with_reducible refine x_or ?_) | (with_reducible refine x_and ?_) | (with_reducible refine x_not ?_)
  | (with_reducible refine x_ifE ?_) | (with_reducible refine x_lst ?_) | (with_reducible refine x_tup ?_)
  | (with_reducible refine x_bm ?_) | (with_reducible refine x_bmG ?_) | (with_reducible refine x_chain ?_) | (with_reducible refine x_orV ?_) | (with_reducible refine x_andV ?_) | (with_reducible refine x_notV ?_) | (with_reducible refine x_sub ?_) | (with_reducible refine x_star ?_) | (with_reducible refine x_sl ?_) | (with_reducible refine x_po ?_) | (with_reducible refine x_pn ?_))
local macro_rules | `(tactic| walk_at "xi") => `(tactic| first | (with_reducible refine iteT ?_) | (with_reducible refine iteF ?_))
local macro_rules | `(tactic| walk_at "x") => `(tactic| ((try dsimp only); repeat ((first | walk_at "x1" | walk_at "xi"); (try dsimp only))))

/-! ### a def with a keyword-only parameter -/
/-- called without it, and with it -/
structure DfK (P : Program) (w : World) (K : PySem.W.Frag) (mg : Str → Option Value) (base : Heap) (x : Str) (k : Nat) (ps : List Str) (kw : Str) (d : V) (sp : Sp) : Prop where
  ex : ∃ f fd ds, FnOk P w K mg base CX0 k f fd ps sp ∧ mg x = some (.ref f) ∧ PySem.W.keepIn K (.ref f) = true ∧ Vals [d] ds ∧ Binds K fd ps ds ∧ ∀ (s : Shared) (u v : Value), BindsTo s fd ⟨[u], [(kw, v)]⟩ (ps.zip [u, v])
theorem pe_callD0 {X : Cx} {x : Str} {k : Nat} {ps : List Str} {kw : Str} {d : V} {sp : Sp} {e : Expr} {t : TA} {p pos : Pos} (F : DfK X.prog X.w X.K X.mg X.base x k ps kw d sp) (hr : Room k X.A) (hg : Gl X x) (ha : PA X [e] t)
    (hdb : (x == ("__debug__" : Str)) = false := by decide) (he : starEach [e] X.env = (false, eval e X.env) :: starEach [] X.env := by rfl) (hpl : (backTo pos (starEach [] X.env)).any (·.1) = false := by rfl) :
    PE X (.Call (.Name x p) [e] [] pos) (tCall sp [d] E0 t) := by
  obtain ⟨f, fd, ds, F, hm, hk, hv, hb, _⟩ := F.ex
  exact pe_call F hr hg hm hk hb hv pass0 ha hdb he hpl
theorem x_callD {σ : L2.St} {H : Hp} {Q : VK} {sp : Sp} {E : XK} {t : TA} {ds : List V} (q : t σ H fun vs H1 => sp (vs ++ ds) H1 Q E) : tCall sp ds E t σ H Q := q
def tCallK1 (sp : Sp) (t tk : TA) : TE := fun σ H Q => t σ H fun vs H1 => tk σ H1 fun zs H2 => ∃ a b, vs = [a] ∧ zs = [b] ∧ sp [a, b] H2 Q E0
theorem x_callK1 {σ : L2.St} {H : Hp} {Q : VK} {sp : Sp} {t tk : TA} (q : t σ H fun vs H1 => tk σ H1 fun zs H2 => ∃ a b, vs = [a] ∧ zs = [b] ∧ sp [a, b] H2 Q E0) : tCallK1 sp t tk σ H Q := q
theorem pe_callK1 {X : Cx} {x kw : Str} {k : Nat} {ps : List Str} {d : V} {sp : Sp} {e v : Expr} {t tk : TA} {p pos kpos : Pos} (F : DfK X.prog X.w X.K X.mg X.base x k ps kw d sp) (hr : Room k X.A) (hg : Gl X x) (ha : PA X [e] t) (hv : PK X [⟨some kw, v, kpos⟩] tk)
    (hall : (backToKw pos (keywordEach [⟨some kw, v, kpos⟩] X.env)).all (·.1.isSome) = true := by rfl) (hks : (backToKw pos (keywordEach [⟨some kw, v, kpos⟩] X.env)).filterMap (·.1) = [kw] := by rfl)
    (hdb : (x == ("__debug__" : Str)) = false := by decide) (he : starEach [e] X.env = (false, eval e X.env) :: starEach [] X.env := by rfl)
    (hpl : ((backTo pos (starEach [e] X.env)).any (·.1) || (backToKw pos (keywordEach [⟨some kw, v, kpos⟩] X.env)).any (·.1.isNone)) = false := by rfl) :
    PE X (.Call (.Name x p) [e] [⟨some kw, v, kpos⟩] pos) (tCallK1 sp t tk) := by
  obtain ⟨f, fd, ds, F, hm, hk, _, _, hb⟩ := F.ex
  refine ⟨fun pins s σ H Q I h => ?_⟩
  refine wpAny_Call_Name_kw (ld_glob I hg hm ?_ hdb)
  refine PySem.W.callWith_KW (h₀ := X.base) I.ok.mod.kin hk hall (thn (ha.run pos pins s σ H _ I h) fun us s1 ⟨vs, H1, I1, r, q⟩ => ?_) hpl he
  refine thn (hv.run pos pins s1 σ H1 _ I1 q) fun ws s2 ⟨zs, H2, I2, rz, a, b, ea, eb, q2⟩ => ⟨I2.kIn, ?_⟩
  subst ea; subst eb
  rw [hks]
  obtain ⟨u, rfl, ru⟩ : ∃ u, us = [u] ∧ RelV a u := by
    cases r with
    | cons r1 r2 => cases r2; exact ⟨_, rfl, r1⟩
  obtain ⟨z, rfl, rz'⟩ : ∃ z, ws = [z] ∧ RelV b z := by
    cases rz with
    | cons r1 r2 => cases r2; exact ⟨_, rfl, r1⟩
  refine wpAny_call (codeAny_mono (F.run X.A X.stack s2 H2 ⟨[u], [(kw, z)]⟩ [u, z] [a, b] Q E0 hr I2.env0 (hb s2 u z) (.cons ru (.cons rz' .nil)) q2) fun r s' hq => ?_)
  cases r with
  | error e => exact pass0 pins σ H2 s2 e s' I2 hq
  | ok fl =>
    cases fl with
    | ret u => exact I2.after hq
    | next => exact False.elim hq
    | brk => exact False.elim hq
    | cont => exact False.elim hq
section
variable {P : Program} {w : World} {K : PySem.W.Frag} {mg : Str → Option Value} {base : Heap}
/-! count_images: slots size 0, torn 1; calls ['totals', 'torn_counts']; built-ins [] -/
abbrev s_count_images : Stmt := top 24
abbrev N_count_images : List Str := ["size", "torn"]
theorem sc_count_images : FnScope N_count_images ["size", "torn"] (defScope s_count_images) := ⟨rfl, rfl, rfl, by decide +kernel, rfl, by decide +kernel, by decide +kernel⟩

/-- torn: None or a number -/
def tornV : Option Int → V
  | none => .non
  | some t => .int t
def spCount (K : PySem.W.Frag) : Sp := fun vs H Q _ => ∃ (n : Nat) (t : Option Int), vs = [vn n, tornV t] ∧ (n ≤ 4 ∨ (t = none ∧ n ≤ 9)) ∧ (∀ i, t = some i → -1000 ≤ i ∧ i ≤ 1000) ∧ ∀ H', Ex H H' → Q (vn (countImages n t)) H'
theorem tot_len (n : Nat) : (totalsN n).length = n + 1 := by
  unfold totalsN
  induction n with
  | zero => rfl
  | succ n ih =>
    rw [List.range_succ, List.foldl_append]
    have : ∀ f m, (totStep f m).length = f.length + 1 := fun f m => by unfold totStep; rw [List.length_append]; rfl
    exact (this _ _).trans (by rw [ih])
theorem tc_len (n m : Nat) : (tornCounts n m).length = m + 1 := by
  unfold tornCounts
  cases n with
  | zero => show (1 :: List.replicate m 0).length = m + 1; rw [List.length_cons, List.length_replicate]
  | succ n =>
    rw [List.range_succ, List.foldl_append]
    exact tcRow_len _ _ _ _ _ _
set_option linter.unusedVariables false in
theorem ok_count_images {f : Addr} {fd : FuncData} (F : Fun K "count_images" "count_images" s_count_images f fd) (D_totals : Df P w K mg base "totals" 3 ["size"] (spTotals K)) (D_torn_counts : Df P w K mg base "torn_counts" 2 ["size", "most"] (spTC K)) :
    FnOk P w K mg base CX0 4 f fd ["size", "torn"] (spCount K) := by
  refine F.ok sc_count_images (fun vs H Q E h => ?_) (fun cdv A outer s H vs Q E hr h => ?_)
  · obtain ⟨_, _, rfl, _⟩ := h
    rfl
  · obtain ⟨n, t, rfl, hn, ht, q⟩ := h
    refine ⟨_, (pss_cons (ps_if (pt_cmpR op_lt (pv 0) pe_int (nomark _)) (pss_one (ps_ret pe_int)) pss_nil)
  (pss_cons (ps_if (pt_cmpR op_isN (pv 1) pe_non (nomark _)) (pss_one (ps_ret (pe_ix ix_list (pe_callD D_totals (hr.mono (by decide)) (by rfl) (pa_cons (pv 0) pa_nil)) (pv 0) (fun _ _ => rfl)))) pss_nil)
  (pss_cons (ps_if (PW.pt (pw_or (pt_cmpR op_lt (pv 1) pe_int (nomark _)) (pw_or1 (pt_cmpR op_gt (pe_op op_mul pe_int (pv 1)) (pv 0) (nomark _))))) (pss_one (ps_ret pe_int)) pss_nil)
  (pss_one (ps_ret (pe_ix ix_list (pe_callD D_torn_counts (hr.mono (by decide)) (by rfl) (pa_cons (pv 0) (pa_cons (pv 1) pa_nil))) (pv 1) (fun _ _ => rfl))))))), ?_⟩
    refine x_start (σ := [some _, some _]) rfl ?_
    walk_at "x"
    refine dec_f (by omega) ?_
    walk_at "x"
    refine ⟨rfl, ?_⟩
    walk_at "x"
    cases t with
    | none =>
      refine dec_t rfl ?_
      walk_at "x"
      refine ⟨n, rfl, by omega, fun l H1 e1 n1 h1 => ?_⟩
      walk_at "x"
      refine x_ixN (SqL.of h1) rfl (by rw [tot_len]; omega) ?_
      exact q _ e1
    | some t =>
      have hn4 : n ≤ 4 := by
        rcases hn with h | ⟨h, _⟩
        · exact h
        · cases h
      obtain ⟨ht1, ht2⟩ := ht t rfl
      dsimp only [tornV]
      refine dec_f (by intro z; cases z) ?_
      walk_at "x"
      have hc : countImages n (some t) = if t < 0 ∨ 2 * t > (n : Int) then 0 else gt (tornCounts n t.toNat) t.toNat := rfl
      refine x_dec (p := t < 0) (fun h1 => ?_) (fun h1 => ?_)
      · walk_at "x"
        have := q H (Ex.refl _)
        rw [hc, if_pos (Or.inl h1)] at this
        exact this
      · walk_at "x"
        refine x_dec (p := (n : Int) < 2 * t) (fun h2 => ?_) (fun h2 => ?_)
        · walk_at "x"
          have := q H (Ex.refl _)
          rw [hc, if_pos (Or.inr h2)] at this
          exact this
        · walk_at "x"
          have et : t = ((t.toNat : Nat) : Int) := by omega
          refine ⟨n, t.toNat, by show [vn n, V.int t] = [vn n, V.int (t.toNat : Int)]; rw [← et], hn4, by omega, fun l H1 e1 n1 h1' => ?_⟩
          walk_at "x"
          refine x_ixN (n := t.toNat) (SqL.of h1') et (by rw [tc_len]; omega) ?_
          have := q H1 e1
          rw [hc, if_neg (by omega)] at this
          exact this
/-! count_states: slots size 0; calls ['count_images']; built-ins [] -/
abbrev s_count_states : Stmt := top 25
abbrev N_count_states : List Str := ["size"]
theorem sc_count_states : FnScope N_count_states ["size"] (defScope s_count_states) := ⟨rfl, rfl, rfl, by decide +kernel, rfl, by decide +kernel, by decide +kernel⟩

def spStates (K : PySem.W.Frag) : Sp := fun vs H Q _ => ∃ n : Nat, vs = [vn n] ∧ n ≤ 4 ∧ ∀ H', Ex H H' → Q (vn (countImages n (some 0))) H'
theorem ok_count_states {f : Addr} {fd : FuncData} (F : Fun K "count_states" "count_states" s_count_states f fd) (D_count_images_kw : DfK P w K mg base "count_images" 4 ["size", "torn"] "torn" .non (spCount K)) : FnOk P w K mg base CX0 5 f fd ["size"] (spStates K) := by
  refine F.ok sc_count_states (fun vs H Q E h => ?_) (fun cdv A outer s H vs Q E hr h => ?_)
  · obtain ⟨_, rfl, _⟩ := h
    rfl
  · obtain ⟨n, rfl, hn, q⟩ := h
    refine ⟨_, (pss_one (ps_ret (pe_callK1 D_count_images_kw (hr.mono (by decide)) (by rfl) (pa_cons (pv 0) pa_nil) (pk_cons pe_int pk_nil)))), ?_⟩
    refine x_start (σ := [some _]) rfl ?_
    walk_at "x"
    refine x_callK1 ?_
    walk_at "x"
    exact ⟨_, _, rfl, rfl, n, some 0, rfl, .inl hn, fun i hi => by cases hi; omega, fun H' e => q H' e⟩
end
end Pm
end
section
set_option Elab.async false
set_option maxRecDepth 100000
set_option maxHeartbeats 4000000
set_option linter.all false
namespace Pm
open PySem L2
local macro_rules | `(tactic| walk_at "ex") => `(tactic| first | exact Ex.refl _ | assumption | exact Ex.new (by assumption) | exact Ex.trans (by walk_at "ex") (by assumption) | exact Ex.trans (by walk_at "ex") (Ex.new (by assumption)) | exact Ex.mut (by walk_at "ex") (by first | assumption | exact Ex.none (by walk_at "ex") (by assumption)))
local macro_rules | `(tactic| walk_at "sq") => `(tactic| first | assumption | exact Ex.l (by walk_at "ex") (by assumption) | exact Ex.t (by walk_at "ex") (by assumption) | exact SqL.of (by walk_at "hp") | exact SqT.of (by walk_at "hp") | exact Ex.l (by walk_at "ex") (LstA.sq (by assumption)) | exact Ex.t (by walk_at "ex") (TupA.sq (by assumption)))
local macro_rules | `(tactic| walk_at "hp") => `(tactic| first | assumption | exact upd_same | (refine (by walk_at "ex" : Ex _ _) _ _ ?_; assumption) | (refine (by walk_at "ex" : Ex _ _) _ _ ?_; exact upd_same))
local macro_rules | `(tactic| walk_at "x1") => `(tactic| first
  | (with_reducible refine x_seq ?_) | (with_reducible refine x_asg ?_) | ((with_reducible refine x_name ?_); dsimp only [List.set_cons_succ, List.set_cons_zero])
  | (with_reducible refine x_ret ?_) | (with_reducible refine x_if ?_) | (with_reducible refine x_drop ?_) | (with_reducible refine x_next ?_)
  | ((with_reducible refine' x_var ?h ?_); (case h => rfl)) | (with_reducible refine x_c ?_) | (with_reducible refine x_op ?_) | (with_reducible refine x_un ?_)
  | (with_reducible refine x_I0 ?_) | ((with_reducible refine x_I ?h ?_); (case h => first | exact Or.inl (by omega) | exact Or.inr (by omega) | omega | (constructor <;> omega))) | (with_reducible refine x_U ?_)
  | ((with_reducible refine' x_eq ?h ?_); (case h => rfl)) | ((with_reducible refine' x_ne ?h ?_); (case h => rfl))
  | (with_reducible refine x_cb ?_) | (with_reducible refine x_call ?_) | (with_reducible refine x_nil ?_) | (with_reducible refine x_cons ?_)
  | (with_reducible refine x_test ?_) | (with_reducible refine x_tB ?_) | (with_reducible refine x_bl ?_) | (with_reducible refine x_or ?_) | (with_reducible refine x_and ?_) | (with_reducible refine x_not ?_)
  | (with_reducible refine x_ifE ?_) | (with_reducible refine x_lst ?_) | (with_reducible refine x_tup ?_)
  | (with_reducible refine x_bm ?_) | (with_reducible refine x_bmG ?_) | (with_reducible refine x_chain ?_) | (with_reducible refine x_orV ?_) | (with_reducible refine x_andV ?_) | (with_reducible refine x_notV ?_) | (with_reducible refine x_sub ?_) | (with_reducible refine x_star ?_) | (with_reducible refine x_sl ?_) | (with_reducible refine x_po ?_) | (with_reducible refine x_pn ?_))
local macro_rules | `(tactic| walk_at "xi") => `(tactic| first | (with_reducible refine iteT ?_) | (with_reducible refine iteF ?_))
local macro_rules | `(tactic| walk_at "x") => `(tactic| ((try dsimp only); repeat ((first | walk_at "x1" | walk_at "xi"); (try dsimp only))))

theorem tot_small : ((List.range 10).all fun n => (totalsN n).all fun c => decide (c < 100000000)) = true := by decide +kernel
theorem tot_lt {n j : Nat} (hn : n ≤ 9) : gt (totalsN n) j < 100000000 := by
  by_cases h : j < (totalsN n).length
  · exact of_decide_eq_true (List.all_eq_true.mp (List.all_eq_true.mp tot_small n (List.mem_range.mpr (by omega))) _ (gt_mem h))
  · show (totalsN n).getD j 0 < _
    rw [List.getD_eq_getElem?_getD, List.getElem?_eq_none (by omega)]
    decide
theorem fc_at {m : Nat} (h : m ≤ 4) : gt [0, 1, 3, 12, 42] m = fcN m ∧ fcN m ≤ 42 := by
  rcases (by omega : m = 0 ∨ m = 1 ∨ m = 2 ∨ m = 3 ∨ m = 4) with h | h | h | h | h <;> subst h <;> exact ⟨rfl, by decide⟩
section
variable {P : Program} {w : World} {K : PySem.W.Frag} {mg : Str → Option Value} {base : Heap}
/-! image_number: slots image 0, found 1, counts 2, patterns 3, many 4, left 5, number 6, _ 7, listed 8, n 9, earlier 10, records 11, names 12, record 13, fewer 14, name 15; calls ['pieces', 'totals', '_patterns', 'key_of', '_block', '_set_number']; built-ins ['len', 'range', 'list', 'sum', 'tuple'] -/
abbrev s_image_number : Stmt := top 33
abbrev N_image_number : List Str := ["image", "found", "counts", "patterns", "many", "left", "number", "_", "listed", "n", "earlier", "records", "names", "record", "fewer", "name"]
theorem sc_image_number : FnScope N_image_number ["image"] (defScope s_image_number) := ⟨rfl, rfl, rfl, by decide +kernel, rfl, by decide +kernel, by decide +kernel⟩

def spNumber (K : PySem.W.Frag) : Sp := fun vs H Q _ => ∃ (a : Addr) (im : List Nat) (N : Nat), vs = [.ref a] ∧ SqL K H a (im.map vn) ∧ Img im ∧ im.length ≤ 9 ∧ imageNumber im = some N ∧ ∀ H', Ex H H' → Q (vn N) H'
set_option linter.unusedVariables false in
theorem ok_image_number {f fc : Addr} {fd : FuncData} (F : Fun K "image_number" "image_number" s_image_number f fd) (T : Txt mg) (gL : GInt mg "LARGEST" 4) (gF : mg "FORM_COUNTS" = some (.ref fc)) (hF : ∀ H, SqT K H fc ([0, 1, 3, 12, 42].map vn))
    (D_pieces : Df P w K mg base "pieces" 3 ["image"] (spPieces K)) (D_totals : Df P w K mg base "totals" 3 ["size"] (spTotals K)) (D_patterns : Df P w K mg base "_patterns" 2 ["many"] (spPat K)) (D_key_of : Df P w K mg base "key_of" 1 ["image", "records"] (spKey K))
    (D_block : Df P w K mg base "_block" 2 ["counts", "n", "many"] (spBlock K)) (D_set_number : Df P w K mg base "_set_number" 2 ["places", "n"] (spSetNumber K)) :
    FnOk P w K mg base CX0 4 f fd ["image"] (spNumber K) := by
  refine F.ok sc_image_number (fun vs H Q E h => ?_) (fun cdv A outer s H vs Q E hr h => ?_)
  · obtain ⟨_, _, _, rfl, _⟩ := h
    rfl
  · obtain ⟨a, im, N, rfl, hS, hI, hz, hN, q⟩ := h
    refine ⟨_, (pss_cons (ps_set (i := 1) sc_image_number.nd rfl (by first | exact Or.inl rfl | exact Or.inr rfl) (pe_callD D_pieces (hr.mono (by decide)) (by rfl) (pa_cons (pv 0) pa_nil)))
  (pss_cons (ps_set (i := 2) sc_image_number.nd rfl (by first | exact Or.inl rfl | exact Or.inr rfl) (pe_callD D_totals (hr.mono (by decide)) (by rfl) (pa_cons (pe_callB call_len_seq (by rfl) T.b_len (by decide +kernel) (pa_cons (pv 0) pa_nil)) pa_nil)))
  (pss_cons (ps_setLc (i := 3) (own := [("many", 4)]) (g := gName 4) rfl sc_image_number.nd rfl rfl (sw_true rfl rfl rfl (by decide +kernel)) (pi_range1 (by rfl) T.b_range (pa_cons (pe_op op_add (pe_globI (by rfl) gL) pe_int) pa_nil)) (blkOk_by (N := N_image_number) (sc := defScope s_image_number) (by decide +kernel)) (fun _ _ _ _ _ => pg_name (i := 4) sc_image_number.nd rfl (Or.inl rfl)) (fun _ _ _ _ _ => pts_nil) (fun _ _ _ _ _ => (pe_callD D_patterns (hr.mono (by decide)) (by rfl) (pa_cons (pv 4) pa_nil))))
  (pss_cons (ps_set (i := 5) sc_image_number.nd rfl (by first | exact Or.inl rfl | exact Or.inr rfl) (pe_listRg rfl (by rfl) T.b_list (prg_1 (by rfl) T.b_range (pe_callB call_len_seq (by rfl) T.b_len (by decide +kernel) (pa_cons (pv 0) pa_nil)))))
  (pss_cons (ps_set (i := 6) sc_image_number.nd rfl (by first | exact Or.inl rfl | exact Or.inr rfl) pe_int)
  (pss_cons (ps_for PassesOwn.never rfl (pi_list (pv 1)) (pg_tup (by rfl) (pgs_cons (pg_name (i := 7) sc_image_number.nd rfl (by first | exact Or.inl rfl | exact Or.inr rfl)) (pgs_cons (pg_name (i := 8) sc_image_number.nd rfl (by first | exact Or.inl rfl | exact Or.inr rfl)) pgs_nil))) (pss_cons (ps_set (i := 9) sc_image_number.nd rfl (by first | exact Or.inl rfl | exact Or.inr rfl) (pe_callB call_len_seq (by rfl) T.b_len (by decide +kernel) (pa_cons (pv 5) pa_nil)))
  (pss_cons (ps_asg (pe_callD D_key_of (hr.mono (by decide)) (by rfl) (pa_cons (pv 0) (pa_cons (pv 8) pa_nil))) (pg_tup (by rfl) (pgs_cons (pg_name (i := 4) sc_image_number.nd rfl (by first | exact Or.inl rfl | exact Or.inr rfl)) (pgs_cons (pg_name (i := 11) sc_image_number.nd rfl (by first | exact Or.inl rfl | exact Or.inr rfl)) (pgs_cons (pg_name (i := 12) sc_image_number.nd rfl (by first | exact Or.inl rfl | exact Or.inr rfl)) pgs_nil)))))
  (pss_cons (ps_set (i := 6) sc_image_number.nd rfl (by first | exact Or.inl rfl | exact Or.inr rfl) (pe_op op_add (pv 6) (pe_callB (cr_sum rfl) (by rfl) T.b_sum (by decide +kernel) (pa_cons (pe_lc (own := [("fewer", 14)]) (g := gName 14) rfl sc_image_number.nd (pi_range2 (by rfl) T.b_range (pa_cons pe_int (pa_cons (pv 4) pa_nil))) (blkOk_by (N := N_image_number) (sc := defScope s_image_number) (by decide +kernel)) (fun _ _ _ _ _ => pg_name (i := 14) sc_image_number.nd rfl (Or.inl rfl)) (fun _ _ _ _ _ => pts_nil) (fun _ _ _ _ _ => (pe_callD D_block (hr.mono (by decide)) (by rfl) (pa_cons (pv 2) (pa_cons (pv 9) (pa_cons (pv 14) pa_nil)))))) pa_nil))))
  (pss_cons (ps_set (i := 10) sc_image_number.nd rfl (by first | exact Or.inl rfl | exact Or.inr rfl) (pe_op op_mul (pe_callD D_set_number (hr.mono (by decide)) (by rfl) (pa_cons (pe_lc (own := [("record", 13)]) (g := gName 13) rfl sc_image_number.nd (pi_tup (pv 11)) (blkOk_by (N := N_image_number) (sc := defScope s_image_number) (by decide +kernel)) (fun _ _ _ _ _ => pg_name (i := 13) sc_image_number.nd rfl (Or.inl rfl)) (fun _ _ _ _ _ => pts_nil) (fun _ _ _ _ _ => (pe_idxL K rfl (pv 5) (pa_cons (pv 13) pa_nil)))) (pa_cons (pv 9) pa_nil))) (pe_ix ix_tup (pe_globR (by rfl) gF) (pv 4) (fun _ _ => rfl))))
  (pss_cons (ps_set (i := 10) sc_image_number.nd rfl (by first | exact Or.inl rfl | exact Or.inr rfl) (pe_op op_add (pv 10) (pe_bm PySem.F.plainAttrs_list PySem.F.slot_list_index PySem.F.type_list_index (mt_indexD (hu65_of hr)) (pe_ix ix_list (pv 3) (pv 4) (fun _ _ => rfl)) (pa_cons (pe_callTy call_tuple_of (by rfl) T.b_tuple (by decide +kernel) (pa_cons (pe_lc (own := [("name", 15)]) (g := gName 15) rfl sc_image_number.nd (pi_tup (pv 12)) (blkOk_by (N := N_image_number) (sc := defScope s_image_number) (by decide +kernel)) (fun _ _ _ _ _ => pg_name (i := 15) sc_image_number.nd rfl (Or.inl rfl)) (fun _ _ _ _ _ => pts_nil) (fun _ _ _ _ _ => (pe_idxT K rfl (pv 11) (pa_cons (pv 15) pa_nil)))) pa_nil)) pa_nil))))
  (pss_cons (ps_set (i := 6) sc_image_number.nd rfl (by first | exact Or.inl rfl | exact Or.inr rfl) (pe_op op_add (pv 6) (pe_op op_mul (pv 10) (pe_ix ix_list (pv 2) (pe_op op_sub (pv 9) (pv 4)) (fun _ _ => rfl)))))
  (pss_one (ps_set (i := 5) sc_image_number.nd rfl (by first | exact Or.inl rfl | exact Or.inr rfl) (pe_lc (own := [("record", 13)]) (g := gName 13) rfl sc_image_number.nd (pi_list (pv 5)) (blkOk_by (N := N_image_number) (sc := defScope s_image_number) (by decide +kernel)) (fun _ _ _ _ _ => pg_name (i := 13) sc_image_number.nd rfl (Or.inl rfl)) (fun _ _ _ _ _ => (pts_one (pt_cmpR (op_notInK K rfl) (pv 13) (pv 11) (by rfl)))) (fun _ _ _ _ _ => (pv 13))))))))))))
  (pss_one (ps_ret (pv 6))))))))), ?_⟩
    refine x_start (σ := [some _, none, none, none, none, none, none, none, none, none, none, none, none, none, none, none]) rfl ?_
    have hR : repairable im = true := by
      unfold imageNumber at hN
      by_cases h : repairable im = true
      · exact h
      · rw [if_neg h] at hN; cases hN
    walk_at "x"
    refine ⟨a, im, rfl, hS, hI, by omega, hR, fun v H1 e1 r1 => ?_⟩
    obtain ⟨lg, us, rfl, hlg, hp⟩ := r1
    walk_at "x"
    refine ⟨a, _, rfl, .inl (e1.l hS), ?_⟩
    rw [List.length_map]
    walk_at "x"
    refine ⟨im.length, rfl, hz, fun lc H2 e2 n2 h2 => ?_⟩
    walk_at "x"
    refine x_lcR1 ?_
    walk_at "x"
    refine ⟨_, rfl, by decide, by decide, ?_⟩
    refine compR_ret (n := 5) (by decide) (rL (rT (rNat K))) patsN (fun _ => rfl) (fun i H3 hi e3 Qe qe => ?_) (fun lp ups H3 n3 e3 h3 hp3 => ?_)
    · walk_at "x"
      refine ⟨i, by rw [Int.zero_add]; rfl, by omega, fun v H4 e4 r4 => qe v H4 e4 r4⟩
    walk_at "x"
    refine x_lstRg1 ?_
    walk_at "x"
    have e13 := Ex.trans (Ex.trans e1 e2) e3
    refine ⟨a, _, rfl, .inl (e13.l hS), ?_⟩
    rw [List.length_map]
    refine ⟨_, rfl, RgOk.of_le (by omega) (by omega) (by omega) (by omega), fun ll nl => ?_⟩
    rw [rgV_nat]
    have e4 := Ex.trans e13 (Ex.new (o := .lst ((List.range im.length).map vn)) nl)
    have el := Ex.new (o := .lst ((List.range im.length).map vn)) nl
    have h4 : upd H3 ll (.lst ((List.range im.length).map vn)) ll = some (.lst ((List.range im.length).map vn)) := upd_same
    have h2' := el _ _ (e3 _ _ h2)
    have h3' := el _ _ h3
    have hp3' := pmono hp3 fun _ _ q => (rL (rT (rNat K))).mono el.a q
    have hlg' := (Ex.trans (Ex.trans e2 e3) el).l hlg.sq
    have hp' := pmono hp fun _ _ q => (rPiece K).mono (Ex.trans (Ex.trans e2 e3) el).a q
    generalize upd H3 ll (.lst ((List.range im.length).map vn)) = H4 at e4 el h4 h2' h3' hp3' hlg' hp' ⊢
    walk_at "x"
    refine x_forL ?_
    walk_at "x"
    refine ⟨lg, rfl, ⟨us, hlg'⟩, ?_⟩
    unfold imageNumber at hN
    rw [if_pos hR, foldlM_map'] at hN
    obtain ⟨⟨N', left'⟩, hfold, eN⟩ := Option.map_eq_some_iff.mp hN
    have eN' : N' = N := eN
    subst eN'
    refine loopL_foldo (xs := piecesOf im) hp'.length (fun s p => inStep im (totalsN im.length) s p.2) (fun i z σ' H' => Ex H4 H' ∧ (∀ r ∈ z.2, r < im.length) ∧ z.2.length ≤ im.length ∧ ∃ b, SqL K H' b (z.2.map vn) ∧ ∃ y4 y7 y8 y9 y10 y11 y12 y13 y14 y15, σ' = [some (.ref a), some (.ref lg), some (.ref lc), some (.ref lp), y4, some (.ref b), some (vn z.1), y7, y8, y9, y10, y11, y12, y13, y14, y15])
      hfold ⟨Ex.refl _, fun r hr => List.mem_range.mp hr, by rw [List.length_range]; exact Nat.le_refl _, ll, SqL.of h4, _, _, _, _, _, _, _, _, _, _, rfl⟩ (fun i z σ' H' h => h.1.l hlg') ?_ ?_
    · rintro ⟨number, left⟩ i ⟨pk, recs⟩ u ⟨number', left2⟩ σ' H' hx hu hst ⟨e, hlt, hll, b, hb, y4, y7, y8, y9, y10, y11, y12, y13, y14, y15, rfl⟩
      dsimp only at hlt hll hb hst
      obtain ⟨u', hu', ru⟩ := pair_at hp' hx
      rw [hu] at hu'
      cases hu'
      obtain ⟨c, w1, w2, rfl, ht, _, rr⟩ := (rPiece K).mono e.a ru
      obtain ⟨rc, rfl, hrc⟩ := rTn rr
      walk_at "x"
      refine gg2_by rfl ht.sq ?_
      dsimp only [List.set_cons_succ, List.set_cons_zero]
      -- what the step says
      have hst' : (if (srt recs).all (fun a => decide (a ∈ left) && decide (gt im a ∈ srt recs)) && decide ((srt recs).map (fun a => (srt recs).idxOf (gt im a)) ∈ patsN (srt recs).length) && decide ((srt recs).length ≤ left.length) && decide (1 ≤ (srt recs).length) && decide ((srt recs).length ≤ 4) then
          some (number + ((List.range ((srt recs).length - 1)).map fun i => blockI (totalsN im.length) left.length (i + 1)).sum + (setNumber ((srt recs).map left.idxOf) left.length * fcN (srt recs).length + (patsN (srt recs).length).idxOf ((srt recs).map fun a => (srt recs).idxOf (gt im a))) * gt (totalsN im.length) (left.length - (srt recs).length), left.filter fun r => decide (r ∉ srt recs)) else none) = some (number', left2) := hst
      clear hst
      have perm := (perm_srt recs).1
      generalize hasc : srt recs = asc at hst' perm
      split at hst'
      case isFalse => cases hst'
      rename_i hcond
      rw [Bool.and_eq_true, Bool.and_eq_true, Bool.and_eq_true, Bool.and_eq_true, List.all_eq_true, decide_eq_true_iff, decide_eq_true_iff, decide_eq_true_iff, decide_eq_true_iff] at hcond
      obtain ⟨⟨⟨⟨ha, hpat⟩, hmn⟩, h1m⟩, hm4⟩ := hcond
      have ha1 : ∀ r ∈ asc, r ∈ left ∧ gt im r ∈ asc := fun r hr => by
        have := ha r hr
        rw [Bool.and_eq_true, decide_eq_true_iff, decide_eq_true_iff] at this
        exact this
      have hnum := congrArg Prod.fst (Option.some.inj hst')
      have hleft := congrArg Prod.snd (Option.some.inj hst')
      dsimp only at hnum hleft
      clear hst' ha
      have hlm : asc.length = recs.length := perm.length_eq
      have fc := fc_at hm4
      walk_at "x"
      refine ⟨b, _, rfl, .inl hb, ?_⟩
      rw [List.length_map]
      walk_at "x"
      refine ⟨a, rc, im, recs, rfl, (Ex.trans e4 e).l hS, hrc.sq, fun r hr => hlt r (ha1 r (perm.mem_iff.mpr hr)).1, by omega, fun t pa pn so H5 e5 h5 h5a hso hsd h5n => ?_⟩
      rw [hasc] at h5 h5a h5n
      refine g3_by rfl h5 ?_
      dsimp only [List.set_cons_succ, List.set_cons_zero]
      have sqa : ∀ {H'}, Ex H5 H' → SqT K H' pa (asc.map vn) := fun e => .inl (.inr ⟨so, e _ _ h5a⟩)
      have hcs : ∀ {H'}, Ex H5 H' → SqL K H' lc ((totalsN im.length).map vn) := fun e' => SqL.of (e' _ _ (e5 _ _ (e _ _ h2')))
      have tl := tot_len im.length
      walk_at "x"
      refine x_lcR2 ?_
      walk_at "x"
      refine ⟨_, _, rfl, by omega, ?_⟩
      rw [show ((asc.length : Int) - 1).toNat = asc.length - 1 by omega]
      refine compR_map (by omega) (fun _ => true) (fun k => vn (blockI (totalsN im.length) left.length (k + 1))) (fun _ => rfl) (fun k H2 hk e2 Qt qt => qt _ (Ex.refl _)) (fun k H6 hk _ e6 Qe qe => ?_) (fun l6 H6 n6 e6 h6 => ?_)
      · walk_at "x"
        refine ⟨lc, totalsN im.length, left.length, k + 1, ?_, hcs e6, by omega, by omega, qe _ (Ex.refl _)⟩
        show [V.ref lc, vn left.length, V.int (1 + (k : Nat))] ++ [] = [V.ref lc, vn left.length, V.int ((k + 1 : Nat) : Int)]
        rw [show (1 + (k : Nat) : Int) = ((k + 1 : Nat) : Int) by omega]
        rfl
      rw [accOf_all] at h6
      walk_at "x"
      refine ⟨l6, ((List.range (asc.length - 1)).map fun k => blockI (totalsN im.length) left.length (k + 1)).map fun (z : Nat) => (z : Int), rfl, SqL.of ?_, ?_⟩
      · rw [← vn_int, List.map_map]
        exact h6
      rw [sum_nI]
      walk_at "x"
      refine x_lcT ?_
      walk_at "x"
      refine ⟨pa, rfl, ⟨_, sqa e6⟩, ?_⟩
      refine compT_nat (sqa e6) (by omega) (fun _ => true) left.idxOf (fun _ => rfl) (fun z H7 hz e7 Qt qt => qt _ (Ex.refl _)) (fun z H7 hz' _ e7 Qe qe => ?_) (fun l7 H7 n7 e7 h7 => ?_)
      · walk_at "x"
        have hb7 := (Ex.trans (Ex.trans e5 e6) e7).l hb
        refine ⟨.inl ⟨rfl, _, hb7⟩, ?_⟩
        walk_at "x"
        refine x_idx hb7 (ha1 z hz').1 ?_
        exact qe _ (Ex.refl _)
      rw [filter_all] at h7
      walk_at "x"
      refine ⟨l7, asc.map left.idxOf, left.length, rfl, SqL.of h7, by rw [List.length_map]; omega, fun p hp => ?_, ?_⟩
      · obtain ⟨r, hr, rfl⟩ := List.mem_map.mp hp
        exact List.idxOf_lt_length_of_mem (ha1 r hr).1
      walk_at "x"
      refine x_ixNT (n := asc.length) (hF _) rfl (by show asc.length < 5; omega) ?_
      rw [fc.1]
      have fc2 := fc.2
      walk_at "x"
      have hpm : ((List.range 5).map patsN)[asc.length]? = some (patsN asc.length) := by rw [List.getElem?_map, List.getElem?_range (by omega)]; rfl
      obtain ⟨vm, hvm, rvm⟩ := pair_at hp3' hpm
      have e47 := Ex.trans (Ex.trans (Ex.trans e e5) e6) e7
      refine x_ixL (SqL.of (e47 _ _ h3')) (at_n rfl hvm) ?_
      have rvm7 := (rL (rT (rNat K))).mono e47.a rvm
      obtain ⟨ap, uap, rfl, hap, _⟩ := id rvm7
      refine ⟨.inl ⟨rfl, _, hap.sq⟩, ?_⟩
      walk_at "x"
      refine x_lcT ?_
      walk_at "x"
      have h5n7 := (Ex.trans e6 e7).t h5n
      refine ⟨pn, rfl, ⟨_, h5n7⟩, ?_⟩
      refine compT_nat h5n7 (by rw [List.length_map]; omega) (fun _ => true) asc.idxOf (fun _ => rfl) (fun z H7 hz e7 Qt qt => qt _ (Ex.refl _)) (fun z H8 hz' _ e8 Qe qe => ?_) (fun l8 H8 n8 e8 h8 => ?_)
      · walk_at "x"
        refine ⟨⟨pa, so, rfl, .inl ⟨_, (Ex.trans (Ex.trans e6 e7) e8) _ _ h5a⟩, hso, hsd⟩, ?_⟩
        obtain ⟨r, hr, rfl⟩ := List.mem_map.mp hz'
        walk_at "x"
        refine x_idxT (sqa (Ex.trans (Ex.trans e6 e7) e8)) (ha1 r hr).2 ?_
        exact qe _ (Ex.refl _)
      have enm : (asc.map (gt im)).map asc.idxOf = asc.map fun a => asc.idxOf (gt im a) := List.map_map
      rw [filter_all, enm] at h8
      walk_at "x"
      refine ⟨l8, _, rfl, .inl ⟨SqL.of h8, fun t9 n9 => ?_⟩⟩
      have e89 := Ex.trans e8 (Ex.new (o := .tup ((asc.map fun a => asc.idxOf (gt im a)).map vn)) n9)
      have h9 : upd H8 t9 (.tup ((asc.map fun a => asc.idxOf (gt im a)).map vn)) t9 = some (.tup ((asc.map fun a => asc.idxOf (gt im a)).map vn)) := upd_same
      generalize upd H8 t9 (.tup ((asc.map fun a => asc.idxOf (gt im a)).map vn)) = H9 at e89 h9 ⊢
      walk_at "x"
      refine x_idxTT ((rL (rT (rNat K))).mono e89.a rvm7) (dpT (SqT.of h9)) hpat ?_
      have e59 := Ex.trans (Ex.trans e6 e7) e89
      walk_at "x"
      have clt := tot_lt (n := im.length) (j := left.length - asc.length) hz
      refine x_ixN (n := left.length - asc.length) (hcs e59) (by omega) (by omega) ?_
      walk_at "x"
      refine x_lcL ?_
      walk_at "x"
      have hb9 := (Ex.trans e5 e59).l hb
      refine ⟨b, rfl, ⟨_, hb9⟩, ?_⟩
      refine compL_nat hb9 (by omega) (fun r => decide (r ∉ asc)) id (fun _ => rfl) (fun z H7 hz e7 Qt qt => ?_) (fun z H10 hz' _ e8 Qe qe => ?_) (fun l10 H10 n10 e10 h10 => ?_)
      · walk_at "x"
        refine x_notIn (.inr (sqa (Ex.trans e59 e7))) ?_
        walk_at "x"
        exact qt _ (Ex.refl _)
      · walk_at "x"
        exact qe _ (Ex.refl _)
      rw [List.map_id, hleft] at h10
      walk_at "x"
      have en : (number : Int) + ((((List.range (asc.length - 1)).map fun k => blockI (totalsN im.length) left.length (k + 1)).sum : Nat) : Int) + (((setNumber (asc.map left.idxOf) left.length : Nat) : Int) * ((fcN asc.length : Nat) : Int) + (((patsN asc.length).idxOf (asc.map fun a => asc.idxOf (gt im a)) : Nat) : Int)) * ((gt (totalsN im.length) (left.length - asc.length) : Nat) : Int) = (number' : Int) := by
        rw [← hnum]
        push_cast
        rfl
      rw [en]
      refine ⟨Ex.trans (Ex.trans e e5) (Ex.trans e59 e10), fun r hr => ?_, ?_, l10, SqL.of h10, _, _, _, _, _, _, _, _, _, _, rfl⟩
      · have hr' : r ∈ left.filter fun r => decide (r ∉ asc) := by rw [hleft]; exact hr
        exact hlt r (List.mem_filter.mp hr').1
      · show left2.length ≤ im.length
        rw [← hleft]
        exact Nat.le_trans (List.length_filter_le _ _) hll
    · rintro σ' H' ⟨e, _, _, b, hb, y4, y7, y8, y9, y10, y11, y12, y13, y14, y15, rfl⟩
      walk_at "x"
      exact q _ (Ex.trans e4 e)
end
end Pm
end
section
set_option Elab.async false
set_option maxRecDepth 100000
set_option maxHeartbeats 4000000
set_option linter.all false
namespace Pm
open PySem L2
local macro_rules | `(tactic| walk_at "ex") => `(tactic| first | exact Ex.refl _ | assumption | exact Ex.new (by assumption) | exact Ex.trans (by walk_at "ex") (by assumption) | exact Ex.trans (by walk_at "ex") (Ex.new (by assumption)) | exact Ex.mut (by walk_at "ex") (by first | assumption | exact Ex.none (by walk_at "ex") (by assumption)))
local macro_rules | `(tactic| walk_at "sq") => `(tactic| first | assumption | exact Ex.l (by walk_at "ex") (by assumption) | exact Ex.t (by walk_at "ex") (by assumption) | exact SqL.of (by walk_at "hp") | exact SqT.of (by walk_at "hp") | exact Ex.l (by walk_at "ex") (LstA.sq (by assumption)) | exact Ex.t (by walk_at "ex") (TupA.sq (by assumption)))
local macro_rules | `(tactic| walk_at "hp") => `(tactic| first | assumption | exact upd_same | (refine (by walk_at "ex" : Ex _ _) _ _ ?_; assumption) | (refine (by walk_at "ex" : Ex _ _) _ _ ?_; exact upd_same))
local macro_rules | `(tactic| walk_at "x1") => `(tactic| first
  | (with_reducible refine x_seq ?_) | (with_reducible refine x_asg ?_) | ((with_reducible refine x_name ?_); dsimp only [List.set_cons_succ, List.set_cons_zero])
  | (with_reducible refine x_ret ?_) | (with_reducible refine x_if ?_) | (with_reducible refine x_drop ?_) | (with_reducible refine x_next ?_)
  | ((with_reducible refine' x_var ?h ?_); (case h => rfl)) | (with_reducible refine x_c ?_) | (with_reducible refine x_op ?_) | (with_reducible refine x_un ?_)
  | (with_reducible refine x_I0 ?_) | ((with_reducible refine x_I ?h ?_); (case h => first | exact Or.inl (by omega) | exact Or.inr (by omega) | omega | (constructor <;> omega))) | (with_reducible refine x_U ?_)
  | ((with_reducible refine' x_eq ?h ?_); (case h => rfl)) | ((with_reducible refine' x_ne ?h ?_); (case h => rfl))
  | (with_reducible refine x_cb ?_) | (with_reducible refine x_call ?_) | (with_reducible refine x_nil ?_) | (with_reducible refine x_cons ?_)
  | (with_reducible refine x_test ?_) | (with_reducible refine x_tB ?_) | (with_reducible refine x_bl ?_) | (with_reducible refine x_or ?_) | (with_reducible refine x_and ?_) | (with_reducible refine x_not ?_)
  | (with_reducible refine x_ifE ?_) | (with_reducible refine x_lst ?_) | (with_reducible refine x_tup ?_)
  | (with_reducible refine x_bm ?_) | (with_reducible refine x_bmG ?_) | (with_reducible refine x_chain ?_) | (with_reducible refine x_orV ?_) | (with_reducible refine x_andV ?_) | (with_reducible refine x_notV ?_) | (with_reducible refine x_sub ?_) | (with_reducible refine x_star ?_) | (with_reducible refine x_sl ?_) | (with_reducible refine x_po ?_) | (with_reducible refine x_pn ?_))
local macro_rules | `(tactic| walk_at "xi") => `(tactic| first | (with_reducible refine iteT ?_) | (with_reducible refine iteF ?_))
local macro_rules | `(tactic| walk_at "x") => `(tactic| ((try dsimp only); repeat ((first | walk_at "x1" | walk_at "xi"); (try dsimp only))))

section
variable {P : Program} {w : World} {K : PySem.W.Frag} {mg : Str → Option Value} {base : Heap}
/-! image_at: slots size 0, number 1, counts 2, patterns 3, many 4, image 5, left 6, behind 7, n 8, records 9, earlier 10, sets 11, place 12, record 13, shown 14, at 15; calls ['count_images', 'totals', '_patterns', '_block', '_set_at']; built-ins ['range', 'list', 'len', 'divmod', 'zip'] -/
abbrev s_image_at : Stmt := top 34
abbrev N_image_at : List Str := ["size", "number", "counts", "patterns", "many", "image", "left", "behind", "n", "records", "earlier", "sets", "place", "record", "shown", "at"]
theorem sc_image_at : FnScope N_image_at ["size", "number"] (defScope s_image_at) := ⟨rfl, rfl, rfl, by decide +kernel, rfl, by decide +kernel, by decide +kernel⟩

def spAt (K : PySem.W.Frag) : Sp := fun vs H Q _ => ∃ (n number : Nat) (im : List Nat), vs = [vn n, vn number] ∧ n ≤ 9 ∧ number < gt (totalsN n) n ∧ imageAt n number = some im ∧ RetL (im.map vn) H Q
set_option linter.unusedVariables false in
theorem ok_image_at {f fc : Addr} {fd : FuncData} (F : Fun K "image_at" "image_at" s_image_at f fd) (T : Txt mg) (gL : GInt mg "LARGEST" 4) (gF : mg "FORM_COUNTS" = some (.ref fc)) (hF : ∀ H, SqT K H fc ([0, 1, 3, 12, 42].map vn))
    (D_count_images_kw : DfK P w K mg base "count_images" 4 ["size", "torn"] "torn" .non (spCount K)) (D_totals : Df P w K mg base "totals" 3 ["size"] (spTotals K)) (D_patterns : Df P w K mg base "_patterns" 2 ["many"] (spPat K))
    (D_block : Df P w K mg base "_block" 2 ["counts", "n", "many"] (spBlock K)) (D_set_at : Df P w K mg base "_set_at" 2 ["number", "n", "many"] (spSetAt K)) :
    FnOk P w K mg base CX0 5 f fd ["size", "number"] (spAt K) := by
  refine F.ok sc_image_at (fun vs H Q E h => ?_) (fun cdv A outer s H vs Q E hr h => ?_)
  · obtain ⟨_, _, _, rfl, _⟩ := h
    rfl
  · obtain ⟨n, number, im, rfl, hn, hnum, hat, q⟩ := h
    refine ⟨_, (pss_cons (ps_if (PW.pt (pw_or (pt_cmpR op_lt (pv 1) pe_int (nomark _)) (pw_or1 (pt_cmpR op_ge (pv 1) (pe_callD0 D_count_images_kw (hr.mono (by decide)) (by rfl) (pa_cons (pv 0) pa_nil)) (nomark _))))) (pss_one ps_never) pss_nil)
  (pss_cons (ps_set (i := 2) sc_image_at.nd rfl (by first | exact Or.inl rfl | exact Or.inr rfl) (pe_callD D_totals (hr.mono (by decide)) (by rfl) (pa_cons (pv 0) pa_nil)))
  (pss_cons (ps_setLc (i := 3) (own := [("many", 4)]) (g := gName 4) rfl sc_image_at.nd rfl rfl (sw_true rfl rfl rfl (by decide +kernel)) (pi_range1 (by rfl) T.b_range (pa_cons (pe_op op_add (pe_globI (by rfl) gL) pe_int) pa_nil)) (blkOk_by (N := N_image_at) (sc := defScope s_image_at) (by decide +kernel)) (fun _ _ _ _ _ => pg_name (i := 4) sc_image_at.nd rfl (Or.inl rfl)) (fun _ _ _ _ _ => pts_nil) (fun _ _ _ _ _ => (pe_callD D_patterns (hr.mono (by decide)) (by rfl) (pa_cons (pv 4) pa_nil))))
  (pss_cons (ps_set (i := 5) sc_image_at.nd rfl (by first | exact Or.inl rfl | exact Or.inr rfl) (pe_op op_rep (pe_lst (pa_cons pe_int pa_nil)) (pv 0)))
  (pss_cons (ps_set (i := 6) sc_image_at.nd rfl (by first | exact Or.inl rfl | exact Or.inr rfl) (pe_listRg rfl (by rfl) T.b_list (prg_1 (by rfl) T.b_range (pv 0))))
  (pss_cons (ps_set (i := 7) sc_image_at.nd rfl (by first | exact Or.inl rfl | exact Or.inr rfl) (pv 1))
  (pss_cons (ps_while PassesOwn.never (pt_truth (pv 6) (by intro _; rfl)) (pss_cons (ps_set (i := 8) sc_image_at.nd rfl (by first | exact Or.inl rfl | exact Or.inr rfl) (pe_callB call_len_seq (by rfl) T.b_len (by decide +kernel) (pa_cons (pv 6) pa_nil)))
  (pss_cons (ps_set (i := 4) sc_image_at.nd rfl (by first | exact Or.inl rfl | exact Or.inr rfl) pe_int)
  (pss_cons (ps_while PassesOwn.never (pt_cmpR op_ge (pv 7) (pe_callD D_block (hr.mono (by decide)) (by rfl) (pa_cons (pv 2) (pa_cons (pv 8) (pa_cons (pv 4) pa_nil)))) (nomark _)) (pss_cons (ps_set (i := 7) sc_image_at.nd rfl (by first | exact Or.inl rfl | exact Or.inr rfl) (pe_op op_sub (pv 7) (pe_callD D_block (hr.mono (by decide)) (by rfl) (pa_cons (pv 2) (pa_cons (pv 8) (pa_cons (pv 4) pa_nil))))))
  (pss_one (ps_set (i := 4) sc_image_at.nd rfl (by first | exact Or.inl rfl | exact Or.inr rfl) (pe_op op_add (pv 4) pe_int)))))
  (pss_cons (ps_asg (pe_callB call_divmod (by rfl) T.b_divmod (by decide +kernel) (pa_cons (pv 7) (pa_cons (pe_ix ix_list (pv 2) (pe_op op_sub (pv 8) (pv 4)) (fun _ _ => rfl)) pa_nil))) (pg_tup (by rfl) (pgs_cons (pg_name (i := 10) sc_image_at.nd rfl (by first | exact Or.inl rfl | exact Or.inr rfl)) (pgs_cons (pg_name (i := 7) sc_image_at.nd rfl (by first | exact Or.inl rfl | exact Or.inr rfl)) pgs_nil))))
  (pss_cons (ps_asg (pe_callB call_divmod (by rfl) T.b_divmod (by decide +kernel) (pa_cons (pv 10) (pa_cons (pe_ix ix_tup (pe_globR (by rfl) gF) (pv 4) (fun _ _ => rfl)) pa_nil))) (pg_tup (by rfl) (pgs_cons (pg_name (i := 11) sc_image_at.nd rfl (by first | exact Or.inl rfl | exact Or.inr rfl)) (pgs_cons (pg_name (i := 12) sc_image_at.nd rfl (by first | exact Or.inl rfl | exact Or.inr rfl)) pgs_nil))))
  (pss_cons (ps_set (i := 9) sc_image_at.nd rfl (by first | exact Or.inl rfl | exact Or.inr rfl) (pe_lc (own := [("at", 15)]) (g := gName 15) rfl sc_image_at.nd (pi_list (pe_callD D_set_at (hr.mono (by decide)) (by rfl) (pa_cons (pv 11) (pa_cons (pv 8) (pa_cons (pv 4) pa_nil))))) (blkOk_by (N := N_image_at) (sc := defScope s_image_at) (by decide +kernel)) (fun _ _ _ _ _ => pg_name (i := 15) sc_image_at.nd rfl (Or.inl rfl)) (fun _ _ _ _ _ => pts_nil) (fun _ _ _ _ _ => (pe_ix (ix_listK K rfl) (pv 6) (pv 15) (fun _ _ => rfl)))))
  (pss_cons (ps_for PassesOwn.never rfl (pi_zipM (by rfl) T.b_zip (pa_cons (pv 9) (pa_cons (pe_ix ix_list (pe_ix ix_list (pv 3) (pv 4) (fun _ _ => rfl)) (pv 12) (fun _ _ => rfl)) pa_nil))) (pg_tup (by rfl) (pgs_cons (pg_name (i := 13) sc_image_at.nd rfl (by first | exact Or.inl rfl | exact Or.inr rfl)) (pgs_cons (pg_name (i := 14) sc_image_at.nd rfl (by first | exact Or.inl rfl | exact Or.inr rfl)) pgs_nil))) (pss_one (ps_asg (pe_ix ix_list (pv 9) (pv 14) (fun _ _ => rfl)) (pg_sub (pv 5) (pv 13) set_list))))
  (pss_one (ps_set (i := 6) sc_image_at.nd rfl (by first | exact Or.inl rfl | exact Or.inr rfl) (pe_lc (own := [("record", 13)]) (g := gName 13) rfl sc_image_at.nd (pi_list (pv 6)) (blkOk_by (N := N_image_at) (sc := defScope s_image_at) (by decide +kernel)) (fun _ _ _ _ _ => pg_name (i := 13) sc_image_at.nd rfl (Or.inl rfl)) (fun _ _ _ _ _ => (pts_one (pt_cmpR (op_notInK K rfl) (pv 13) (pv 9) (by rfl)))) (fun _ _ _ _ _ => (pv 13)))))))))))))
  (pss_one (ps_ret (pv 5)))))))))), ?_⟩
    refine x_start (σ := [some _, some _, none, none, none, none, none, none, none, none, none, none, none, none, none, none]) rfl ?_
    have tl := tot_len n
    walk_at "x"
    refine dec_f (by omega) ?_
    walk_at "x"
    refine x_callD ?_
    walk_at "x"
    refine ⟨n, none, rfl, .inr ⟨rfl, hn⟩, fun i hi => (by cases hi), fun H1 e1 => ?_⟩
    walk_at "x"
    refine dec_f (by show ¬ ((gt (totalsN n) n : Nat) : Int) ≤ (number : Int); omega) ?_
    walk_at "x"
    refine ⟨n, rfl, hn, fun lc H2 e2 n2 h2 => ?_⟩
    walk_at "x"
    refine x_lcR1 ?_
    walk_at "x"
    refine ⟨_, rfl, by decide, by decide, ?_⟩
    refine compR_ret (n := 5) (by decide) (rL (rT (rNat K))) patsN (fun _ => rfl) (fun i H3 hi e3 Qe qe => ?_) (fun lp ups H3 n3 e3 h3 hp3 => ?_)
    · walk_at "x"
      refine ⟨i, by rw [Int.zero_add]; rfl, by omega, fun v H4 e4 r4 => qe v H4 e4 r4⟩
    walk_at "x"
    have e03 := Ex.trans (Ex.trans e1 e2) e3
    refine ⟨by decide, fun l0 n0 => ?_⟩
    walk_at "x"
    refine ⟨l0, _, _, rfl, rfl, upd_same, by omega, by omega, ?_, fun li n1 => ?_⟩
    · show 1 * ((n : Int)).toNat ≤ sizeLine
      rw [sizeLine_eq]
      omega
    rw [Int.toNat_natCast, show ([V.int 0] : List V) = [vn 0] from rfl, rep_vn]
    have e4 := Ex.trans (Ex.new (o := .lst [vn 0]) n0) (Ex.new (o := .lst ((List.replicate n 0).map vn)) n1)
    have h4 : upd (upd H3 l0 (.lst [vn 0])) li (.lst ((List.replicate n 0).map vn)) li = some (.lst ((List.replicate n 0).map vn)) := upd_same
    have nli : H3 li = none := (Ex.new n0).none n1
    show gName 5 (V.ref li) _ (upd (upd H3 l0 (.lst [vn 0])) li (.lst ((List.replicate n 0).map vn))) _
    generalize upd (upd H3 l0 (.lst [vn 0])) li (.lst ((List.replicate n 0).map vn)) = H4 at e4 h4 ⊢
    walk_at "x"
    refine x_lstRg1 ?_
    walk_at "x"
    refine ⟨_, rfl, RgOk.of_le (by omega) (by omega) (by omega) (by omega), fun ll nl => ?_⟩
    rw [rgV_nat]
    have e5 := Ex.trans e4 (Ex.new (o := .lst ((List.range n).map vn)) nl)
    have h5 := (Ex.new (o := .lst ((List.range n).map vn)) nl) _ _ h4
    have hl5 : upd H4 ll (.lst ((List.range n).map vn)) ll = some (.lst ((List.range n).map vn)) := upd_same
    have nll : ll ≠ li := fun z => by rw [z, h4] at nl; cases nl
    generalize upd H4 ll (.lst ((List.range n).map vn)) = H5 at e5 h5 hl5 ⊢
    walk_at "x"
    refine x_while ?_
    refine ⟨fun m σ' H' => ∃ (behind : Nat) (image left : List Nat) (b : Addr), iaLoop (totalsN n) m (behind, image, left) = some im ∧ left.length ≤ n ∧ image.length = n ∧ Ex H3 H' ∧ H' b = some (.lst (left.map vn)) ∧ b ≠ li ∧ H' li = some (.lst (image.map vn)) ∧
        ∃ y4 y8 y9 y10 y11 y12 y13 y14 y15, σ' = [some (vn n), some (vn number), some (.ref lc), some (.ref lp), y4, some (.ref li), some (.ref b), some (vn behind), y8, y9, y10, y11, y12, y13, y14, y15],
      ⟨n, number, List.replicate n 0, List.range n, ll, hat, by rw [List.length_range]; exact Nat.le_refl _, List.length_replicate, e5, hl5, nll, h5, _, _, _, _, _, _, _, _, _, rfl⟩, ?_⟩
    rintro m σ' H6 ⟨behind, image, left, b, hloop, hll, hil, e6, hb, nb, hli, y4, y8, y9, y10, y11, y12, y13, y14, y15, rfl⟩
    walk_at "x"
    refine ⟨_, .inl ⟨_, SqL.of hb, rfl⟩, ?_⟩
    by_cases hem : left = []
    · subst hem
      refine iteF ?_
      have him : image = im := by
        cases m with
        | zero => exact Option.some.inj ((if_pos rfl).symm.trans hloop)
        | succ m => exact Option.some.inj ((if_pos rfl).symm.trans hloop)
      subst him
      walk_at "x"
      exact q li _ (Ex.trans e03 e6) (e03.none nli) hli
    · have lpos : 0 < left.length := List.length_pos_iff.mpr hem
      rw [show (!(left.map vn).isEmpty) = true by cases left with | nil => exact absurd rfl hem | cons _ _ => rfl]
      refine iteT ?_
      obtain ⟨m', rfl⟩ : ∃ m', m = m' + 1 := by
        cases m with
        | zero => exact absurd hloop (by show (if left = [] then some image else none) ≠ some im; rw [if_neg hem]; intro z; cases z)
        | succ m => exact ⟨m, rfl⟩
      have hl2 : (iaStep (totalsN n) (behind, image, left)).bind (iaLoop (totalsN n) m') = some im := by
        have : (if left = [] then some image else (iaStep (totalsN n) (behind, image, left)).bind (iaLoop (totalsN n) m')) = some im := hloop
        rw [if_neg hem] at this
        exact this
      obtain ⟨⟨behind2, image2, left2⟩, hstep, hrest⟩ := Option.bind_eq_some_iff.mp hl2
      have hst : ((iaIn (totalsN n) left.length 4 behind 1).bind fun z => if gt (totalsN n) (left.length - z.2) = 0 then none else (setAt (z.1 / gt (totalsN n) (left.length - z.2) / fcN z.2) left.length z.2).bind fun ats =>
          if ats.all (fun a => decide (a < left.length)) && decide (z.1 / gt (totalsN n) (left.length - z.2) % fcN z.2 < (patsN z.2).length) && (ats.map (gt left)).all (fun r => decide (r < image.length)) && decide (ats.length = z.2) && decide (((patsN z.2).getD (z.1 / gt (totalsN n) (left.length - z.2) % fcN z.2) []).length = z.2) && ((patsN z.2).getD (z.1 / gt (totalsN n) (left.length - z.2) % fcN z.2) []).all (fun p => decide (p < z.2)) then
            some (z.1 % gt (totalsN n) (left.length - z.2), (((ats.map (gt left)).zip ((patsN z.2).getD (z.1 / gt (totalsN n) (left.length - z.2) % fcN z.2) [])).foldl (fun im p => im.set p.1 (gt (ats.map (gt left)) p.2)) image), left.filter fun r => decide (r ∉ ats.map (gt left)))
          else none) = some (behind2, image2, left2) := hstep
      clear hstep hloop hl2
      obtain ⟨⟨b1, mm⟩, hin, hst⟩ := Option.bind_eq_some_iff.mp hst
      dsimp only at hst
      split at hst
      case isTrue => cases hst
      rename_i hc0
      obtain ⟨ats, hats, hst⟩ := Option.bind_eq_some_iff.mp hst
      split at hst
      case isFalse => cases hst
      rename_i hcond
      refine ⟨_, fun σ' H' h => ⟨m', Nat.lt_succ_self _, h⟩, ?_⟩
      walk_at "x"
      refine ⟨b, _, rfl, .inl (SqL.of hb), ?_⟩
      rw [List.length_map]
      walk_at "x"
      have hcs : ∀ {H'}, Ex H3 H' → SqL K H' lc ((totalsN n).map vn) := fun e' => SqL.of (e' _ _ (e3 _ _ h2))
      refine x_while ?_
      refine ⟨fun f σ' H' => ∃ behind many : Nat, iaIn (totalsN n) left.length f behind many = some (b1, mm) ∧ (1 ≤ many ∧ many + f = 5) ∧ Ex H6 H' ∧ σ' = [some (vn n), some (vn number), some (.ref lc), some (.ref lp), some (vn many), some (.ref li), some (.ref b), some (vn behind), some (vn left.length), y9, y10, y11, y12, y13, y14, y15],
        ⟨4, behind, 1, hin, ⟨Nat.le_refl _, rfl⟩, Ex.refl _, rfl⟩, ?_⟩
      rintro f σ' H7 ⟨bh, many, hf, ⟨m1, m5⟩, e7, rfl⟩
      cases f with
      | zero => cases hf
      | succ f =>
        have hf' : (if left.length < many then none else if blockI (totalsN n) left.length many ≤ bh then iaIn (totalsN n) left.length f (bh - blockI (totalsN n) left.length many) (many + 1) else some (bh, many)) = some (b1, mm) := hf
        have hml : ¬ left.length < many := by
          intro z
          rw [if_pos z] at hf'
          cases hf'
        rw [if_neg hml] at hf'
        walk_at "x"
        refine ⟨lc, totalsN n, left.length, many, rfl, hcs (Ex.trans e6 e7), by omega, by omega, ?_⟩
        walk_at "x"
        refine x_dec (fun h1 => ?_) (fun h1 => ?_)
        · have h1' : blockI (totalsN n) left.length many ≤ bh := by
            have : ((blockI (totalsN n) left.length many : Nat) : Int) ≤ (bh : Int) := h1
            omega
          rw [if_pos h1'] at hf'
          refine ⟨_, fun σ' H' h => h, ?_⟩
          walk_at "x"
          refine ⟨lc, totalsN n, left.length, many, rfl, hcs (Ex.trans e6 e7), by omega, by omega, ?_⟩
          walk_at "x"
          refine ⟨f, by omega, bh - blockI (totalsN n) left.length many, many + 1, hf', ⟨by omega, by omega⟩, e7, ?_⟩
          have e8 : (bh : Int) - ((blockI (totalsN n) left.length many : Nat) : Int) = ((bh - blockI (totalsN n) left.length many : Nat) : Int) := by omega
          rw [e8]
          rfl
        · have h1' : ¬ blockI (totalsN n) left.length many ≤ bh := fun z => h1 (by show ((blockI (totalsN n) left.length many : Nat) : Int) ≤ (bh : Int); omega)
          rw [if_neg h1'] at hf'
          cases hf'
          have m4 : mm ≤ 4 := by omega
          have clt := tot_lt (n := n) (j := left.length - mm) hn
          have fc := fc_at m4
          have fpos : 1 ≤ fcN mm := by
            rcases (by omega : mm = 1 ∨ mm = 2 ∨ mm = 3 ∨ mm = 4) with h | h | h | h <;> subst h <;> decide
          have e67 := Ex.trans e6 e7
          generalize hcc : gt (totalsN n) (left.length - mm) = cc at hst hc0 hats hcond clt
          generalize hec : b1 / cc = ec at hst hats hcond
          generalize hplc : ec % fcN mm = pl at hst hcond
          rw [Bool.and_eq_true, Bool.and_eq_true, Bool.and_eq_true, Bool.and_eq_true, Bool.and_eq_true, List.all_eq_true, decide_eq_true_iff, List.all_eq_true, decide_eq_true_iff, decide_eq_true_iff, List.all_eq_true] at hcond
          obtain ⟨⟨⟨⟨⟨ha1, ha2⟩, ha3⟩, ha4⟩, ha5⟩, ha6⟩ := hcond
          walk_at "x"
          refine x_ixN (n := left.length - mm) (hcs e67) (by omega) (by omega) ?_
          rw [hcc]
          refine ⟨_, _, rfl, ⟨by omega, by omega⟩, fun t1 nt1 => ?_⟩
          rw [← Int.natCast_ediv, ← Int.natCast_emod, hec]
          have e8 := Ex.new (o := .tup [V.int ((ec : Nat) : Int), V.int ((b1 % cc : Nat) : Int)]) nt1
          refine gg2_by rfl (SqT.of upd_same) ?_
          dsimp only [List.set_cons_succ, List.set_cons_zero]
          generalize upd H7 t1 (.tup [V.int ((ec : Nat) : Int), V.int ((b1 % cc : Nat) : Int)]) = H8 at e8 ⊢
          walk_at "x"
          refine x_ixNT (n := mm) (hF _) rfl (by show mm < 5; omega) ?_
          rw [fc.1]
          have fc2 := fc.2
          refine ⟨_, _, rfl, ⟨by omega, by omega⟩, fun t2 nt2 => ?_⟩
          rw [← Int.natCast_ediv, ← Int.natCast_emod, hplc]
          have e9 := Ex.trans e8 (Ex.new (o := .tup [V.int ((ec / fcN mm : Nat) : Int), V.int ((pl : Nat) : Int)]) nt2)
          refine gg2_by rfl (SqT.of upd_same) ?_
          dsimp only [List.set_cons_succ, List.set_cons_zero]
          generalize upd H8 t2 (.tup [V.int ((ec / fcN mm : Nat) : Int), V.int ((pl : Nat) : Int)]) = H9 at e9 ⊢
          walk_at "x"
          refine x_lcL ?_
          walk_at "x"
          refine ⟨ec / fcN mm, left.length, mm, ats, rfl, hats, by omega, fun l10 H10 e10 n10 h10 => ?_⟩
          refine ⟨l10, rfl, ⟨_, SqL.of h10⟩, ?_⟩
          have e710 := Ex.trans e9 e10
          have hb10 := e710 _ _ (e7 _ _ hb)
          refine compL_nat (SqL.of h10) (by omega) (fun _ => true) (gt left) (fun _ => rfl) (fun z H7 hz e7 Qt qt => qt _ (Ex.refl _)) (fun z H11 hz' _ e11 Qe qe => ?_) (fun l11 H11 n11 e11 h11 => ?_)
          · walk_at "x"
            refine x_ixN (SqL.of (e11 _ _ hb10)) rfl (of_decide_eq_true (ha1 z hz')) ?_
            exact qe _ (Ex.refl _)
          rw [filter_all] at h11
          generalize hrecs : ats.map (gt left) = recs at hst ha3 h11
          have rl : recs.length = mm := by rw [← hrecs, List.length_map, ha4]
          have e711 := Ex.trans e710 e11
          walk_at "x"
          refine x_forZM ?_
          walk_at "x"
          have hpm : ((List.range 5).map patsN)[mm]? = some (patsN mm) := by rw [List.getElem?_map, List.getElem?_range (by omega)]; rfl
          obtain ⟨vm, hvm, rvm⟩ := pair_at hp3 hpm
          have e311 := Ex.trans e67 e711
          refine x_ixL (SqL.of (e311 _ _ h3)) (at_n rfl hvm) ?_
          obtain ⟨ap, uap, rfl, hap, hpp⟩ := (rL (rT (rNat K))).mono e311.a rvm
          have hpl : (patsN mm)[pl]? = some ((patsN mm).getD pl []) := by
            rw [List.getD_eq_getElem?_getD, List.getElem?_eq_getElem ha2]
            rfl
          obtain ⟨vp, hvp, rvp⟩ := pair_at hpp hpl
          obtain ⟨tp, rfl, htp⟩ := rTn rvp
          walk_at "x"
          refine x_ixL hap.sq (at_n rfl hvp) ?_
          walk_at "x"
          have hli11 := e711 _ _ (e7 _ _ hli)
          have hb11 := e711 _ _ (e7 _ _ hb)
          have nl11 : l11 ≠ li := fun z => by
            have := e710 _ _ (e7 _ _ hli)
            rw [← z, n11] at this
            cases this
          refine ⟨l11, tp, _, _, rfl, SqL.of h11, htp.sq, ?_⟩
          refine loopM_foldl (p := 13) (q := 14) (xs := recs) (ys := (patsN mm).getD pl []) (List.length_map _) (List.length_map _) (by omega) (fun im r p => im.set r (gt recs p)) (fun img σ' H' => img.length = n ∧ Ex H3 H' ∧ H' l11 = some (.lst (recs.map vn)) ∧ SqT K H' tp (((patsN mm).getD pl []).map vn) ∧ H' b = some (.lst (left.map vn)) ∧ H' li = some (.lst (img.map vn)) ∧
            ∃ y13 y14, σ' = [some (vn n), some (vn number), some (.ref lc), some (.ref lp), some (vn mm), some (.ref li), some (.ref b), some (vn (b1 % cc)), some (vn left.length), some (.ref l11), some (vn ec), some (vn (ec / fcN mm)), some (vn pl), y13, y14, y15])
            image ⟨hil, e311, h11, htp.sq, hb11, hli11, _, _, rfl⟩ (fun img σ' H' h => ⟨SqL.of h.2.2.1, h.2.2.2.1⟩) ?_ ?_
          · rintro img i r p u v t σ' H12 hr' hu hp' hv ⟨hil, e12, h11, htp', hb12, hli12, z13, z14, rfl⟩ ht
            dsimp only [List.set_cons_succ, List.set_cons_zero]
            cases vn_of hr' hu
            cases vn_of hp' hv
            have rm := of_decide_eq_true (ha3 r (List.mem_of_getElem? hr'))
            have pm := of_decide_eq_true (ha6 p (List.mem_of_getElem? hp'))
            have et := Ex.new (o := .tup [vn r, vn p]) ht
            walk_at "x"
            refine x_ixN (n := p) (SqL.of (et _ _ h11)) rfl (by omega) ?_
            walk_at "x"
            have htl : SqT K (upd (upd H12 t (.tup [vn r, vn p])) li (.lst ((img.set r (gt recs p)).map vn))) tp (((patsN mm).getD pl []).map vn) := by
              rcases et.t htp' with h | h
              · refine .inl ?_
                have ne : tp ≠ li := fun z => by
                  subst z
                  have := et _ _ hli12
                  rcases h with h | ⟨_, h⟩ <;> (rw [h] at this; cases this)
                rcases h with h | ⟨o, h⟩
                · exact .inl (by rw [upd_ne ne]; exact h)
                · exact .inr ⟨o, by rw [upd_ne ne]; exact h⟩
              · exact .inr h
            refine x_setN (et _ _ hli12) rfl (by omega) ?_
            refine ⟨by rw [List.length_set]; exact hil, Ex.mut (Ex.trans e12 et) nli, ?_, htl, ?_, upd_same, _, _, rfl⟩
            · rw [upd_ne nl11]; exact et _ _ h11
            · rw [upd_ne nb]; exact et _ _ hb12
          · rintro σ' H12 ⟨hil2, e12, h11, htp', hb12, hli12, z13, z14, rfl⟩
            rw [hrecs] at *
            have hfst := congrArg Prod.fst (Option.some.inj hst)
            have hsnd := congrArg (fun z => z.2.1) (Option.some.inj hst)
            have hthd := congrArg (fun z => z.2.2) (Option.some.inj hst)
            dsimp only at hfst hsnd hthd
            walk_at "x"
            refine x_lcL ?_
            walk_at "x"
            refine ⟨b, rfl, ⟨_, SqL.of hb12⟩, ?_⟩
            refine compL_nat (SqL.of hb12) (by omega) (fun r => decide (r ∉ recs)) id (fun _ => rfl) (fun z H7 hz e7 Qt qt => ?_) (fun z H10 hz' _ e8 Qe qe => ?_) (fun l13 H13 n13 e13 h13 => ?_)
            · walk_at "x"
              refine x_notIn (.inl (SqL.of (e7 _ _ h11))) ?_
              walk_at "x"
              exact qt _ (Ex.refl _)
            · walk_at "x"
              exact qe _ (Ex.refl _)
            rw [List.map_id, hthd] at h13
            walk_at "x"
            refine ⟨behind2, image2, left2, l13, hrest, ?_, ?_, Ex.trans e12 e13, h13, (fun z => by rw [z, hli12] at n13; cases n13), ?_, _, _, _, _, _, _, _, _, _, by rw [hfst]⟩
            · rw [← hthd]
              exact Nat.le_trans (List.length_filter_le _ _) hll
            · rw [← hsnd]; exact hil2
            · rw [← hsnd]; exact e13 _ _ hli12
end
end Pm
end
section
set_option Elab.async false
set_option maxRecDepth 100000
set_option maxHeartbeats 4000000
set_option linter.all false
namespace Pm
open PySem L2
local macro_rules | `(tactic| walk_at "ex") => `(tactic| first | exact Ex.refl _ | assumption | exact Ex.new (by assumption) | exact Ex.trans (by walk_at "ex") (by assumption) | exact Ex.trans (by walk_at "ex") (Ex.new (by assumption)) | exact Ex.mut (by walk_at "ex") (by first | assumption | exact Ex.none (by walk_at "ex") (by assumption)))
local macro_rules | `(tactic| walk_at "sq") => `(tactic| first | assumption | exact Ex.l (by walk_at "ex") (by assumption) | exact Ex.t (by walk_at "ex") (by assumption) | exact SqL.of (by walk_at "hp") | exact SqT.of (by walk_at "hp") | exact Ex.l (by walk_at "ex") (LstA.sq (by assumption)) | exact Ex.t (by walk_at "ex") (TupA.sq (by assumption)))
local macro_rules | `(tactic| walk_at "hp") => `(tactic| first | assumption | exact upd_same | (refine (by walk_at "ex" : Ex _ _) _ _ ?_; assumption) | (refine (by walk_at "ex" : Ex _ _) _ _ ?_; exact upd_same))
local macro_rules | `(tactic| walk_at "x1") => `(tactic| first
  | (with_reducible refine x_seq ?_) | (with_reducible refine x_asg ?_) | ((with_reducible refine x_name ?_); dsimp only [List.set_cons_succ, List.set_cons_zero])
  | (with_reducible refine x_ret ?_) | (with_reducible refine x_if ?_) | (with_reducible refine x_drop ?_) | (with_reducible refine x_next ?_)
  | ((with_reducible refine' x_var ?h ?_); (case h => rfl)) | (with_reducible refine x_c ?_) | (with_reducible refine x_op ?_) | (with_reducible refine x_un ?_)
  | (with_reducible refine x_I0 ?_) | ((with_reducible refine x_I ?h ?_); (case h => first | exact Or.inl (by omega) | exact Or.inr (by omega) | omega | (constructor <;> omega))) | (with_reducible refine x_U ?_)
  | ((with_reducible refine' x_eq ?h ?_); (case h => rfl)) | ((with_reducible refine' x_ne ?h ?_); (case h => rfl))
  | (with_reducible refine x_cb ?_) | (with_reducible refine x_call ?_) | (with_reducible refine x_nil ?_) | (with_reducible refine x_cons ?_)
  | (with_reducible refine x_test ?_) | (with_reducible refine x_tB ?_) | (with_reducible refine x_bl ?_) | (with_reducible refine x_or ?_) | (with_reducible refine x_and ?_) | (with_reducible refine x_not ?_)
  | (with_reducible refine x_ifE ?_) | (with_reducible refine x_lst ?_) | (with_reducible refine x_tup ?_)
  | (with_reducible refine x_bm ?_) | (with_reducible refine x_bmG ?_) | (with_reducible refine x_chain ?_) | (with_reducible refine x_orV ?_) | (with_reducible refine x_andV ?_) | (with_reducible refine x_notV ?_) | (with_reducible refine x_sub ?_) | (with_reducible refine x_star ?_) | (with_reducible refine x_sl ?_) | (with_reducible refine x_po ?_) | (with_reducible refine x_pn ?_))
local macro_rules | `(tactic| walk_at "y1") => `(tactic| first
  | (with_reducible refine x_seq ?_) | (with_reducible refine x_asg ?_) | ((with_reducible refine x_name ?_); dsimp only [List.set_cons_succ, List.set_cons_zero])
  | (with_reducible refine x_drop ?_) | (with_reducible refine x_next ?_)
  | ((with_reducible refine' x_var ?h ?_); (case h => rfl)) | (with_reducible refine x_c ?_) | (with_reducible refine x_op ?_) | (with_reducible refine x_un ?_)
  | (with_reducible refine x_I0 ?_) | ((with_reducible refine x_I ?h ?_); (case h => first | exact Or.inl (by omega) | exact Or.inr (by omega) | omega | (constructor <;> omega))) | (with_reducible refine x_U ?_)
  | ((with_reducible refine' x_eq ?h ?_); (case h => rfl)) | ((with_reducible refine' x_ne ?h ?_); (case h => rfl))
  | (with_reducible refine x_cb ?_) | (with_reducible refine x_call ?_) | (with_reducible refine x_nil ?_) | (with_reducible refine x_cons ?_)
  | (with_reducible refine x_test ?_) | (with_reducible refine x_tB ?_) | (with_reducible refine x_bl ?_) | (with_reducible refine x_or ?_) | (with_reducible refine x_and ?_) | (with_reducible refine x_not ?_)
  | (with_reducible refine x_ifE ?_) | (with_reducible refine x_lst ?_) | (with_reducible refine x_tup ?_)
  | (with_reducible refine x_bm ?_) | (with_reducible refine x_bmG ?_) | (with_reducible refine x_chain ?_) | (with_reducible refine x_orV ?_) | (with_reducible refine x_andV ?_) | (with_reducible refine x_notV ?_) | (with_reducible refine x_sub ?_) | (with_reducible refine x_star ?_) | (with_reducible refine x_sl ?_) | (with_reducible refine x_po ?_) | (with_reducible refine x_pn ?_))
local macro_rules | `(tactic| walk_at "xi") => `(tactic| first | (with_reducible refine iteT ?_) | (with_reducible refine iteF ?_) | (with_reducible refine x_notT ?_) | (with_reducible refine x_notF ?_))
local macro_rules | `(tactic| walk_at "x") => `(tactic| ((try dsimp only); repeat ((first | walk_at "x1" | walk_at "xi"); (try dsimp only))))
local macro_rules | `(tactic| walk_at "y") => `(tactic| ((try dsimp only); repeat ((first | walk_at "y1" | walk_at "xi"); (try dsimp only))))

/-- a bag at b: its cells stand -/
def BagAt (K : PySem.W.Frag) (H : Hp) (b : Addr) : Prop := ∃ (c : Addr) (cells : List Int), H b = some (BagO b c) ∧ c ≠ b ∧ SqL K H c (cells.map V.int)
theorem BagAt.ex {K : PySem.W.Frag} {H H' : Hp} {b : Addr} (e : Ex H H') (h : BagAt K H b) : BagAt K H' b := by
  obtain ⟨c, cells, h1, ne, h2⟩ := h
  exact ⟨c, cells, e _ _ h1, ne, e.l h2⟩
theorem sql_upd {K : PySem.W.Frag} {H : Hp} {b c : Addr} {o : HO} {us : List V} (h : SqL K H c us) (hb : ∀ vs, H b ≠ some (.lst vs)) (hf : ∀ q vs, H b ≠ some (.frz q (.lst vs))) : SqL K (upd H b o) c us := by
  rcases h with h | h
  · refine .inl ?_
    have ne : c ≠ b := fun z => by
      subst z
      rcases h with h | ⟨q, h⟩
      · exact hb _ h
      · exact hf _ _ h
    rcases h with h | ⟨q, h⟩
    · exact .inl (by rw [upd_ne ne]; exact h)
    · exact .inr ⟨q, by rw [upd_ne ne]; exact h⟩
  · exact .inr h
theorem sql_ne {K : PySem.W.Frag} {H : Hp} {b c : Addr} {o : HO} {us : List V} (ne : c ≠ b) (h : SqL K H c us) : SqL K (upd H b o) c us := by
  rcases h with h | h
  · refine .inl ?_
    rcases h with h | ⟨q, h⟩
    · exact .inl (by rw [upd_ne ne]; exact h)
    · exact .inr ⟨q, by rw [upd_ne ne]; exact h⟩
  · exact .inr h
theorem upd_upd {H : Hp} {b : Addr} {o u : HO} : upd (upd H b o) b u = upd H b u := by
  funext a
  by_cases h : a = b
  · subst h
    rw [upd_same, upd_same]
  · rw [upd_ne h, upd_ne h, upd_ne h]
theorem upd_self {H : Hp} {b : Addr} {o : HO} (h : H b = some o) : upd H b o = H := by
  funext a
  by_cases z : a = b
  · subst z
    rw [upd_same, h]
  · rw [upd_ne z]
theorem x_setAt {H : Hp} {p : Addr} {xs : List V} {n : Nat} {i : Int} {v : V} (h : H p = some (.lst xs)) (e : i = (n : Int)) (hn : n < xs.length) {R : Hp → Prop} (q : R (upd H p (.lst (xs.set n v)))) : rSetL (.ref p) (.int i) v H R := by
  refine ⟨p, xs, i, n, rfl, rfl, h, ?_, q⟩
  rw [e]
  unfold ixN
  rw [if_pos (by omega), Int.toNat_natCast, if_pos (by omega)]
section
variable {P : Program} {w : World} {K : PySem.W.Frag} {mg : Str → Option Value} {base : Heap}
/-! _law_bag: slots _law_script 0; calls []; built-ins ['list'] -/
abbrev s_law_bag : Stmt := top 36
abbrev N_law_bag : List Str := ["_law_script"]
theorem sc_law_bag : FnScope N_law_bag ["_law_script"] (defScope s_law_bag) := ⟨rfl, rfl, rfl, by decide +kernel, rfl, by decide +kernel, by decide +kernel⟩

def spBagRaw (K : PySem.W.Frag) : Sp := fun vs H Q _ => ∃ (a : Addr) (cells : List Int), vs = [.ref a] ∧ SqL K H a (cells.map V.int) ∧ ∀ c b cs H', Ex H H' → H b = none → H' b = some (.lst [.ref c, .int 0, .int 0, .int 102]) → c ≠ b → SqL K H' c ((cs : List Int).map V.int) → Q (.ref b) H'
theorem ok_law_bag0 {f : Addr} {fd : FuncData} (F : Fun K "_law_bag" "_law_bag" s_law_bag f fd) (T : Txt mg) : FnOk P w K mg base CX0 1 f fd ["_law_script"] (spBagRaw K) := by
  refine F.ok sc_law_bag (fun vs H Q E h => ?_) (fun cdv A outer s H vs Q E hr h => ?_)
  · obtain ⟨_, _, rfl, _⟩ := h
    rfl
  · obtain ⟨a, cells, rfl, hS, q⟩ := h
    refine ⟨_, (pss_one (ps_ret (pe_lst (pa_cons (pe_callTy call_list_of (by rfl) T.b_list (by decide +kernel) (pa_cons (pe_slice sl_list (pv 0) po_none (po_some pe_int)) pa_nil)) (pa_cons pe_int (pa_cons pe_int (pa_cons pe_int pa_nil))))))), ?_⟩
    refine x_start (σ := [some _]) rfl ?_
    walk_at "x"
    refine ⟨_, rfl, ?_⟩
    refine ⟨a, _, rfl, hS, fun l1 n1 => ?_⟩
    rw [show (some 63 : Option Int) = some ((63 : Nat) : Int) from rfl, cut_to, ← List.map_take]
    refine ⟨l1, _, rfl, .inl (SqL.of upd_same), fun l2 n2 => ?_⟩
    walk_at "x"
    refine ⟨by show 4 ≤ sizeLine; decide, fun b nb => ?_⟩
    refine q l2 b (cells.take 63) _ (Ex.trans (Ex.trans (Ex.new n1) (Ex.new n2)) (Ex.new nb)) ((Ex.new n1).none ((Ex.new n2).none nb)) upd_same (fun z => by rw [← z, upd_same] at nb; cases nb) (SqL.of ((Ex.new nb) _ _ upd_same))
def spBag (K : PySem.W.Frag) : Sp := fun vs H Q _ => ∃ (a : Addr) (cells : List Int), vs = [.ref a] ∧ SqL K H a (cells.map V.int) ∧ ∀ b H', Ex H H' → BagAt K H' b → Q (.ref b) H'
theorem ok_law_bag {f : Addr} {fd : FuncData} (F : Fun K "_law_bag" "_law_bag" s_law_bag f fd) (T : Txt mg) : FnOk P w K mg base CX0 1 f fd ["_law_script"] (spBag K) := by
  refine bag_mk (ok_law_bag0 F T) (fun vs H Q E h => ?_) fun vs H Q E h => ?_
  · obtain ⟨_, _, rfl, _⟩ := h
    rfl
  · obtain ⟨a, cells, rfl, hS, q⟩ := h
    refine ⟨a, cells, rfl, hS, fun c b cs H' e nb hb ne hc => ⟨b, c, _, hb, ⟨0, 0, 102, rfl, by decide, by decide, by decide⟩, q b _ (Ex.mut e nb) ⟨c, cs, upd_same, ne, sql_ne ne hc⟩⟩⟩
/-! _law_take: slots _law_bag_here 0, _law_many 1, _law_part 2, _law_cell 3, _law_mixed 4; calls []; built-ins ['int', 'len'] -/
abbrev s_law_take : Stmt := top 37
abbrev N_law_take : List Str := ["_law_bag_here", "_law_many", "_law_part", "_law_cell", "_law_mixed"]
theorem sc_law_take : FnScope N_law_take ["_law_bag_here", "_law_many"] (defScope s_law_take) := ⟨rfl, rfl, rfl, by decide +kernel, rfl, by decide +kernel, by decide +kernel⟩

def spTakeRaw (K : PySem.W.Frag) : Sp := fun vs H Q _ => ∃ (b c : Addr) (many : Int) (xs : List V) (cells : List Int), vs = [.ref b, .int many] ∧ 1 ≤ many ∧ many < 1073741824 ∧ H b = some (.lst xs) ∧ GoodBag c xs ∧ c ≠ b ∧ SqL K H c (cells.map V.int) ∧
  ∀ (k : Int) xs', 0 ≤ k → k < many → GoodBag c xs' → Q (.int k) (upd H b (.lst xs'))
theorem ok_law_take0 {f : Addr} {fd : FuncData} (F : Fun K "_law_take" "_law_take" s_law_take f fd) (T : Txt mg) : FnOk P w K mg base CX0 1 f fd ["_law_bag_here", "_law_many"] (spTakeRaw K) := by
  refine F.ok sc_law_take (fun vs H Q E h => ?_) (fun cdv A outer s H vs Q E hr h => ?_)
  · obtain ⟨_, _, _, _, _, rfl, _⟩ := h
    rfl
  · obtain ⟨b, c, many, xs, cells, rfl, hm1, hm2, hb, ⟨i, r, m, rfl, hi, hm0, hm⟩, ncb, hc, q⟩ := h
    refine ⟨_, (pss_cons (ps_if (pt_cmpR op_gt (pe_ix ix_list (pv 0) pe_int (fun _ _ => rfl)) pe_int (nomark _)) (pss_cons (ps_set (i := 2) sc_law_take.nd rfl (by first | exact Or.inl rfl | exact Or.inr rfl) (pe_op op_modN (pe_callTy call_int1 (by rfl) T.b_int (by decide +kernel) (pa_cons (pe_ix ix_list (pv 0) pe_int (fun _ _ => rfl)) pa_nil)) (pv 1)))
  (pss_cons (ps_asg (pe_op op_fdivN (pe_ix ix_list (pv 0) pe_int (fun _ _ => rfl)) (pv 1)) (pg_sub (pv 0) pe_int set_list))
  (pss_one (ps_ret (pv 2))))) pss_nil)
  (pss_cons (ps_set (i := 3) sc_law_take.nd rfl (by first | exact Or.inl rfl | exact Or.inr rfl) pe_int)
  (pss_cons (ps_if (pt_cmpR op_lt (pe_ix ix_list (pv 0) pe_int (fun _ _ => rfl)) (pe_callB call_len_seq (by rfl) T.b_len (by decide +kernel) (pa_cons (pe_ix ix_list (pv 0) pe_int (fun _ _ => rfl)) pa_nil)) (nomark _)) (pss_one (ps_set (i := 3) sc_law_take.nd rfl (by first | exact Or.inl rfl | exact Or.inr rfl) (pe_ix ix_list (pe_ix ix_list (pv 0) pe_int (fun _ _ => rfl)) (pe_ix ix_list (pv 0) pe_int (fun _ _ => rfl)) (fun _ _ => rfl)))) pss_nil)
  (pss_cons (ps_asg (pe_op op_add (pe_ix ix_list (pv 0) pe_int (fun _ _ => rfl)) pe_int) (pg_sub (pv 0) pe_int set_list))
  (pss_cons (ps_if (pt_cmpR op_ge (pv 3) (pe_op op_pow pe_int pe_int) (nomark _)) (pss_cons (ps_set (i := 2) sc_law_take.nd rfl (by first | exact Or.inl rfl | exact Or.inr rfl) (pe_op op_modN (pe_callTy call_int1 (by rfl) T.b_int (by decide +kernel) (pa_cons (pv 3) pa_nil)) (pv 1)))
  (pss_cons (ps_asg (pe_op op_fdivN (pv 3) (pv 1)) (pg_sub (pv 0) pe_int set_list))
  (pss_one (ps_ret (pv 2))))) pss_nil)
  (pss_cons (ps_asg (pe_op op_modN (pe_callTy call_int1 (by rfl) T.b_int (by decide +kernel) (pa_cons (pe_op op_add (pe_op op_add (pe_op op_mul (pe_ix ix_list (pv 0) pe_int (fun _ _ => rfl)) pe_int) (pe_op op_modN (pe_callTy call_int1 (by rfl) T.b_int (by decide +kernel) (pa_cons (pv 3) pa_nil)) pe_int)) (pe_op op_mul pe_int (pe_ix ix_list (pv 0) pe_int (fun _ _ => rfl)))) pa_nil)) pe_int) (pg_sub (pv 0) pe_int set_list))
  (pss_cons (ps_set (i := 4) sc_law_take.nd rfl (by first | exact Or.inl rfl | exact Or.inr rfl) (pe_op op_modN (pe_callTy call_int1 (by rfl) T.b_int (by decide +kernel) (pa_cons (pe_op op_mul (pe_ix ix_list (pv 0) pe_int (fun _ _ => rfl)) (pe_op op_add (pe_op op_fdivN (pe_ix ix_list (pv 0) pe_int (fun _ _ => rfl)) pe_int) pe_int)) pa_nil)) pe_int))
  (pss_one (ps_ret (pe_op op_modN (pe_callTy call_int1 (by rfl) T.b_int (by decide +kernel) (pa_cons (pe_op op_fdivN (pv 4) pe_int) pa_nil)) (pv 1))))))))))), ?_⟩
    refine x_start (σ := [some _, some _, none, none, none]) rfl ?_
    have fm : ∀ x : Int, 0 ≤ x.fmod many ∧ x.fmod many < many := fun x => ⟨Int.fmod_nonneg_of_pos x (by omega), Int.fmod_lt_of_pos x (by omega)⟩
    walk_at "x"
    refine x_ixL (SqL.of hb) (at_n (n := 2) rfl rfl) ?_
    walk_at "x"
    refine x_dec (fun h1 => ?_) (fun h1 => ?_)
    · walk_at "x"
      refine x_ixL (SqL.of hb) (at_n (n := 2) rfl rfl) ?_
      refine .inl ⟨r, rfl, ?_⟩
      walk_at "x"
      refine x_ixL (SqL.of hb) (at_n (n := 2) rfl rfl) ?_
      walk_at "x"
      refine x_setAt hb (n := 2) rfl (by show 2 < 4; omega) ?_
      walk_at "x"
      exact q _ _ (fm r).1 (fm r).2 ⟨i, r.fdiv many, m, rfl, hi, hm0, hm⟩
    · walk_at "x"
      refine x_ixL (SqL.of hb) (at_n (n := 1) rfl rfl) ?_
      walk_at "x"
      refine x_ixL (SqL.of hb) (at_n (n := 0) rfl rfl) ?_
      walk_at "x"
      refine ⟨c, _, rfl, .inl hc, ?_⟩
      rw [List.length_map]
      walk_at "x"
      refine x_dec (fun h2 => ?ca) (fun h2 => ?cb)
      case' ca =>
        walk_at "x"
        refine x_ixL (SqL.of hb) (at_n (n := 0) rfl rfl) ?_
        walk_at "x"
        refine x_ixL (SqL.of hb) (at_n (n := 1) rfl rfl) ?_
        have hcell : (cells.map V.int)[i.toNat]? = some (.int (cells.getD i.toNat 0)) := by
          rw [List.getElem?_map, List.getD_eq_getElem?_getD, List.getElem?_eq_getElem (by omega)]
          rfl
        refine x_ixL hc (at_n (n := i.toNat) (by omega) hcell) ?_
        generalize cells.getD i.toNat 0 = cell
      all_goals
        clear h2
        walk_at "x"
        refine x_ixL (SqL.of hb) (at_n (n := 1) rfl rfl) ?_
        walk_at "x"
        refine x_setAt hb (n := 1) rfl (by show 1 < 4; omega) ?_
        have hb1 : upd H b (.lst [.ref c, .int (i + 1), .int r, .int m]) b = some (.lst [.ref c, .int (i + 1), .int r, .int m]) := upd_same
        show tSeq _ _ _ _ (upd H b (.lst [.ref c, .int (i + 1), .int r, .int m]))
        walk_at "x"
        refine x_dec (fun h2 => ?_) (fun h2 => ?_)
        · walk_at "x"
          refine .inl ⟨_, rfl, ?_⟩
          walk_at "x"
          refine x_setAt hb1 (n := 2) rfl (by show 2 < 4; omega) ?_
          rw [upd_upd]
          walk_at "x"
          exact q _ _ (fm _).1 (fm _).2 ⟨i + 1, _, m, rfl, by omega, hm0, hm⟩
        · walk_at "x"
          refine x_ixL (SqL.of hb1) (at_n (n := 3) rfl rfl) ?_
          walk_at "x"
          refine .inl ⟨_, rfl, ?_⟩
          walk_at "x"
          refine x_ixL (SqL.of hb1) (at_n (n := 1) rfl rfl) ?_
          walk_at "x"
          refine .inl ⟨_, rfl, ?_⟩
          walk_at "x"
          refine x_setAt hb1 (n := 3) rfl (by show 3 < 4; omega) ?_
          rw [upd_upd]
          have m1 : ∀ x : Int, 0 ≤ x.fmod 2147483647 ∧ x.fmod 2147483647 < 2147483647 := fun x => ⟨Int.fmod_nonneg_of_pos x (by omega), Int.fmod_lt_of_pos x (by omega)⟩
          generalize hmm : Int.fmod _ 2147483647 = mm
          obtain ⟨b1, b2⟩ : 0 ≤ mm ∧ mm < 2147483647 := by rw [← hmm]; exact m1 _
          clear hmm
          have hb2 : upd H b (.lst [.ref c, .int (i + 1), .int r, .int mm]) b = some (.lst [.ref c, .int (i + 1), .int r, .int mm]) := upd_same
          show tSeq _ _ _ _ (upd H b (.lst [.ref c, .int (i + 1), .int r, .int mm]))
          walk_at "x"
          refine x_ixL (SqL.of hb2) (at_n (n := 3) rfl rfl) ?_
          walk_at "x"
          refine x_ixL (SqL.of hb2) (at_n (n := 3) rfl rfl) ?_
          walk_at "x"
          refine .inl ⟨_, rfl, ?_⟩
          walk_at "x"
          refine .inl ⟨_, rfl, ?_⟩
          walk_at "x"
          exact q _ _ (fm _).1 (fm _).2 ⟨i + 1, r, mm, rfl, by omega, b1, b2⟩
/-- a draw below many -/
def spTake (K : PySem.W.Frag) : Sp := fun vs H Q _ => ∃ (b : Addr) (many : Nat), vs = [.ref b, vn many] ∧ 1 ≤ many ∧ many < 1073741824 ∧ BagAt K H b ∧ ∀ k : Nat, k < many → Q (vn k) H
theorem ok_law_take {f : Addr} {fd : FuncData} (F : Fun K "_law_take" "_law_take" s_law_take f fd) (T : Txt mg) : FnOk P w K mg base CX0 1 f fd ["_law_bag_here", "_law_many"] (spTake K) := by
  refine bag_fn (ok_law_take0 F T) (fun vs H Q E h => ?_) fun vs H Q E h => ?_
  · obtain ⟨_, _, rfl, _⟩ := h
    rfl
  · obtain ⟨b, many, rfl, h1, h2, ⟨c, cells, hb, ncb, hc⟩, q⟩ := h
    refine ⟨b, c, hb, fun xs g => ⟨b, c, many, xs, cells, rfl, by omega, by omega, upd_same, g, ncb, sql_upd hc (fun vs z => by rw [hb] at z; cases z) (fun p vs z => by rw [hb] at z; cases z), fun k xs' k0 k1 g' => ⟨xs', upd_same, g', ?_⟩⟩⟩
    · rw [upd_upd, upd_upd, upd_self hb]
      have := q k.toNat (by omega)
      rw [show vn k.toNat = V.int k from congrArg V.int (by omega)] at this
      exact this
end
end Pm
end
section
set_option Elab.async false
set_option maxRecDepth 100000
set_option maxHeartbeats 4000000
set_option linter.all false
namespace Pm
open PySem L2
local macro_rules | `(tactic| walk_at "ex") => `(tactic| first | exact Ex.refl _ | assumption | exact Ex.new (by assumption) | exact Ex.trans (by walk_at "ex") (by assumption) | exact Ex.trans (by walk_at "ex") (Ex.new (by assumption)) | exact Ex.mut (by walk_at "ex") (by first | assumption | exact Ex.none (by walk_at "ex") (by assumption)))
local macro_rules | `(tactic| walk_at "sq") => `(tactic| first | assumption | exact Ex.l (by walk_at "ex") (by assumption) | exact Ex.t (by walk_at "ex") (by assumption) | exact SqL.of (by walk_at "hp") | exact SqT.of (by walk_at "hp") | exact Ex.l (by walk_at "ex") (LstA.sq (by assumption)) | exact Ex.t (by walk_at "ex") (TupA.sq (by assumption)))
local macro_rules | `(tactic| walk_at "hp") => `(tactic| first | assumption | exact upd_same | (refine (by walk_at "ex" : Ex _ _) _ _ ?_; assumption) | (refine (by walk_at "ex" : Ex _ _) _ _ ?_; exact upd_same))
local macro_rules | `(tactic| walk_at "x1") => `(tactic| first
  | (with_reducible refine x_seq ?_) | (with_reducible refine x_asg ?_) | ((with_reducible refine x_name ?_); dsimp only [List.set_cons_succ, List.set_cons_zero])
  | (with_reducible refine x_ret ?_) | (with_reducible refine x_if ?_) | (with_reducible refine x_drop ?_) | (with_reducible refine x_next ?_)
  | ((with_reducible refine' x_var ?h ?_); (case h => rfl)) | (with_reducible refine x_c ?_) | (with_reducible refine x_op ?_) | (with_reducible refine x_un ?_)
  | (with_reducible refine x_I0 ?_) | ((with_reducible refine x_I ?h ?_); (case h => first | exact Or.inl (by omega) | exact Or.inr (by omega) | omega | (constructor <;> omega))) | (with_reducible refine x_U ?_)
  | ((with_reducible refine' x_eq ?h ?_); (case h => rfl)) | ((with_reducible refine' x_ne ?h ?_); (case h => rfl))
  | (with_reducible refine x_cb ?_) | (with_reducible refine x_call ?_) | (with_reducible refine x_nil ?_) | (with_reducible refine x_cons ?_)
  | (with_reducible refine x_test ?_) | (with_reducible refine x_tB ?_) | (with_reducible refine x_bl ?_) | (with_reducible refine x_or ?_) | (with_reducible refine x_and ?_) | (with_reducible refine x_not ?_)
  | (with_reducible refine x_ifE ?_) | (with_reducible refine x_lst ?_) | (with_reducible refine x_tup ?_)
  | (with_reducible refine x_bm ?_) | (with_reducible refine x_bmG ?_) | (with_reducible refine x_chain ?_) | (with_reducible refine x_orV ?_) | (with_reducible refine x_andV ?_) | (with_reducible refine x_notV ?_) | (with_reducible refine x_sub ?_) | (with_reducible refine x_star ?_) | (with_reducible refine x_sl ?_) | (with_reducible refine x_po ?_) | (with_reducible refine x_pn ?_))
local macro_rules | `(tactic| walk_at "y1") => `(tactic| first
  | (with_reducible refine x_seq ?_) | (with_reducible refine x_asg ?_) | ((with_reducible refine x_name ?_); dsimp only [List.set_cons_succ, List.set_cons_zero])
  | (with_reducible refine x_drop ?_) | (with_reducible refine x_next ?_)
  | ((with_reducible refine' x_var ?h ?_); (case h => rfl)) | (with_reducible refine x_c ?_) | (with_reducible refine x_op ?_) | (with_reducible refine x_un ?_)
  | (with_reducible refine x_I0 ?_) | ((with_reducible refine x_I ?h ?_); (case h => first | exact Or.inl (by omega) | exact Or.inr (by omega) | omega | (constructor <;> omega))) | (with_reducible refine x_U ?_)
  | ((with_reducible refine' x_eq ?h ?_); (case h => rfl)) | ((with_reducible refine' x_ne ?h ?_); (case h => rfl))
  | (with_reducible refine x_cb ?_) | (with_reducible refine x_call ?_) | (with_reducible refine x_nil ?_) | (with_reducible refine x_cons ?_)
  | (with_reducible refine x_test ?_) | (with_reducible refine x_tB ?_) | (with_reducible refine x_bl ?_) | (with_reducible refine x_or ?_) | (with_reducible refine x_and ?_) | (with_reducible refine x_not ?_)
  | (with_reducible refine x_ifE ?_) | (with_reducible refine x_lst ?_) | (with_reducible refine x_tup ?_)
  | (with_reducible refine x_bm ?_) | (with_reducible refine x_bmG ?_) | (with_reducible refine x_chain ?_) | (with_reducible refine x_orV ?_) | (with_reducible refine x_andV ?_) | (with_reducible refine x_notV ?_) | (with_reducible refine x_sub ?_) | (with_reducible refine x_star ?_) | (with_reducible refine x_sl ?_) | (with_reducible refine x_po ?_) | (with_reducible refine x_pn ?_))
local macro_rules | `(tactic| walk_at "xi") => `(tactic| first | (with_reducible refine iteT ?_) | (with_reducible refine iteF ?_) | (with_reducible refine x_notT ?_) | (with_reducible refine x_notF ?_))
local macro_rules | `(tactic| walk_at "x") => `(tactic| ((try dsimp only); repeat ((first | walk_at "x1" | walk_at "xi"); (try dsimp only))))
local macro_rules | `(tactic| walk_at "y") => `(tactic| ((try dsimp only); repeat ((first | walk_at "y1" | walk_at "xi"); (try dsimp only))))

/-! ### states -/
theorem gt_set {xs : List Nat} {i j v : Nat} (h : i < xs.length) : gt (xs.set i v) j = if j = i then v else gt xs j := by
  show (xs.set i v).getD j 0 = _
  rw [List.getD_eq_getElem?_getD, List.getElem?_set]
  by_cases e : i = j
  · subst e
    rw [if_pos rfl, if_pos rfl, if_pos h]
    rfl
  · rw [if_neg e, if_neg fun z => e z.symm, ← List.getD_eq_getElem?_getD]
/-- two records that stand alone are paired -/
theorem StOk.pair {n : Nat} {st : List Nat} (S : StOk n st) {p q : Nat} (hp : p < n) (hq : q < n) (ne : p ≠ q) (fp : gt st p = p) (fq : gt st q = q) : StOk n ((st.set p q).set q p) := by
  have hl := S.len
  have g : ∀ j, gt ((st.set p q).set q p) j = if j = q then p else if j = p then q else gt st j := fun j => by
    rw [gt_set (by rw [List.length_set]; omega), gt_set (by omega)]
  refine ⟨by rw [List.length_set, List.length_set]; exact hl, fun i hi => ?_⟩
  obtain ⟨h1, h2⟩ := S.inv i hi
  rw [g i]
  by_cases e1 : i = q
  · rw [if_pos e1]
    refine ⟨hp, ?_⟩
    rw [g p, if_neg ne, if_pos rfl]
    exact e1.symm
  · rw [if_neg e1]
    by_cases e2 : i = p
    · rw [if_pos e2]
      refine ⟨hq, ?_⟩
      rw [g q, if_pos rfl]
      exact e2.symm
    · rw [if_neg e2]
      refine ⟨h1, ?_⟩
      rw [g, if_neg, if_neg]
      · exact h2
      · intro z
        rw [z, fp] at h2
        exact e2 h2.symm
      · intro z
        rw [z, fq] at h2
        exact e1 h2.symm
theorem StOk.range (n : Nat) : StOk n (List.range n) := by
  have g : ∀ i, i < n → gt (List.range n) i = i := fun i hi => by
    show (List.range n).getD i 0 = i
    rw [List.getD_eq_getElem?_getD, List.getElem?_range hi]
    rfl
  exact ⟨List.length_range, fun i hi => by rw [g i hi]; exact ⟨hi, g i hi⟩⟩
theorem map_erase {α β : Type} (f : α → β) (xs : List α) (k : Nat) : (xs.eraseIdx k).map f = (xs.map f).eraseIdx k := by
  rw [List.eraseIdx_eq_take_drop_succ, List.eraseIdx_eq_take_drop_succ, List.map_append, List.map_take, List.map_drop]
theorem erase_perm {α : Type} {xs : List α} {k : Nat} (h : k < xs.length) : (xs[k] :: xs.eraseIdx k).Perm xs := by
  rw [List.eraseIdx_eq_take_drop_succ]
  refine List.perm_middle.symm.trans ?_
  rw [List.getElem_cons_drop, List.take_append_drop]
theorem ixN_nat {n k : Nat} (h : k < n) : ixN n (k : Int) = some k := by
  unfold ixN
  rw [if_pos (by omega), Int.toNat_natCast, if_pos (by omega)]
section
variable {P : Program} {w : World} {K : PySem.W.Frag} {mg : Str → Option Value} {base : Heap}
theorem x_ifs {t : TT} {A B : TS} {D : Ends} {σ : L2.St} {H : Hp} (ht : ∀ Qt : Bool → Hp → Prop, (∀ k, Qt k H) → t σ H Qt) (a : A D σ H) (b : B D σ H) : tIfS t A B D σ H := ht _ fun k => by
  cases k with
  | true => exact iteT a
  | false => exact iteF b
theorem x_popN {H : Hp} {l : Addr} {xs : List Nat} {k : Nat} {Q : VK} (h : H l = some (.lst (xs.map vn))) (hk : k < xs.length) (hz : xs.length < 1000000) (q : Q (vn (gt xs k)) (upd H l (.lst ((xs.eraseIdx k).map vn)))) : rPopAt (.ref l) [vn k] H Q := by
  refine ⟨l, xs.map vn, k, k, vn (gt xs k), rfl, rfl, h, by omega, by omega, (ixN_seq (ixN_nat (by rw [List.length_map]; exact hk))).1, vn_at hk, ?_⟩
  rw [← map_erase]
  exact q
/-! _law_shuffled: slots _law_bag_here 0, _law_size 1, _law_pool 2, _law_row 3, _law_k 4; calls ['_law_take']; built-ins ['list', 'range', 'len'] -/
abbrev s_law_shuffled : Stmt := top 38
abbrev N_law_shuffled : List Str := ["_law_bag_here", "_law_size", "_law_pool", "_law_row", "_law_k"]
theorem sc_law_shuffled : FnScope N_law_shuffled ["_law_bag_here", "_law_size"] (defScope s_law_shuffled) := ⟨rfl, rfl, rfl, by decide +kernel, rfl, by decide +kernel, by decide +kernel⟩

def spShuf (K : PySem.W.Frag) : Sp := fun vs H Q _ => ∃ (b : Addr) (n : Nat), vs = [.ref b, vn n] ∧ n ≤ 9 ∧ BagAt K H b ∧ ∀ row : List Nat, row.Perm (List.range n) → RetL (row.map vn) H Q
theorem ok_law_shuffled {f : Addr} {fd : FuncData} (F : Fun K "_law_shuffled" "_law_shuffled" s_law_shuffled f fd) (T : Txt mg) (D_law_take : Df P w K mg base "_law_take" 1 ["_law_bag_here", "_law_many"] (spTake K)) : FnOk P w K mg base CX0 2 f fd ["_law_bag_here", "_law_size"] (spShuf K) := by
  refine F.ok sc_law_shuffled (fun vs H Q E h => ?_) (fun cdv A outer s H vs Q E hr h => ?_)
  · obtain ⟨_, _, rfl, _⟩ := h
    rfl
  · obtain ⟨b, n, rfl, hn, hb, q⟩ := h
    refine ⟨_, (pss_cons (ps_set (i := 2) sc_law_shuffled.nd rfl (by first | exact Or.inl rfl | exact Or.inr rfl) (pe_listRg rfl (by rfl) T.b_list (prg_1 (by rfl) T.b_range (pv 1))))
  (pss_cons (ps_set (i := 3) sc_law_shuffled.nd rfl (by first | exact Or.inl rfl | exact Or.inr rfl) (pe_lst pa_nil))
  (pss_cons (ps_for PassesOwn.never rfl (pi_range1 (by rfl) T.b_range (pa_cons (pv 1) pa_nil)) (pg_name (i := 4) sc_law_shuffled.nd rfl (by first | exact Or.inl rfl | exact Or.inr rfl)) (pss_one (ps_expr (pe_bm PySem.F.plainAttrs_list PySem.F.slot_list_append PySem.F.type_list_append mt_append (pv 3) (pa_cons (pe_bm PySem.F.plainAttrs_list PySem.F.slot_list_pop PySem.F.type_list_pop mt_popAt (pv 2) (pa_cons (pe_callD D_law_take (hr.mono (by decide)) (by rfl) (pa_cons (pv 0) (pa_cons (pe_callB call_len_seq (by rfl) T.b_len (by decide +kernel) (pa_cons (pv 2) pa_nil)) pa_nil))) pa_nil)) pa_nil)))))
  (pss_one (ps_ret (pv 3)))))), ?_⟩
    refine x_start (σ := [some _, some _, none, none, none]) rfl ?_
    walk_at "x"
    refine x_lstRg1 ?_
    walk_at "x"
    refine ⟨_, rfl, RgOk.of_le (by omega) (by omega) (by omega) (by omega), fun lp np => ?_⟩
    rw [rgV_nat]
    walk_at "x"
    refine ⟨by decide, fun lr nr => ?_⟩
    have ne : lp ≠ lr := fun z => by rw [← z, upd_same] at nr; cases nr
    have hp0 := (Ex.new (o := .lst []) nr) lp _ upd_same
    have nr0 := (Ex.new np).none nr
    have e0 := Ex.trans (Ex.new np) (Ex.new (o := .lst []) nr)
    have hr0 : upd (upd H lp (.lst ((List.range n).map vn))) lr (.lst []) lr = some (.lst (([] : List Nat).map vn)) := upd_same
    generalize upd (upd H lp (.lst ((List.range n).map vn))) lr (.lst []) = H0 at e0 hp0 hr0 ⊢
    walk_at "x"
    refine x_forR1 ?_
    walk_at "x"
    refine ⟨_, rfl, by omega, by omega, ?_⟩
    rw [Int.toNat_natCast]
    refine for_range (fun i σ' H' => ∃ pool row : List Nat, (row ++ pool).Perm (List.range n) ∧ row.length = i ∧ Ex H H' ∧ H' lp = some (.lst (pool.map vn)) ∧ H' lr = some (.lst (row.map vn)) ∧ ∃ y, σ' = [some (.ref b), some (vn n), some (.ref lp), some (.ref lr), y])
      ⟨List.range n, [], .refl _, rfl, e0, hp0, hr0, _, rfl⟩ ?_ ?_
    · rintro i σ' H' hi ⟨pool, row, pm, rl, e, hp, hrw, y, rfl⟩
      have pl : row.length + pool.length = n := by
        have := pm.length_eq
        rw [List.length_append, List.length_range] at this
        exact this
      walk_at "x"
      refine ⟨.inl ⟨rfl, _, SqL.of hrw⟩, ?_⟩
      walk_at "x"
      refine ⟨.inl ⟨rfl, _, SqL.of hp⟩, ?_⟩
      walk_at "x"
      refine ⟨lp, _, rfl, .inl (SqL.of hp), ?_⟩
      rw [List.length_map]
      walk_at "x"
      refine ⟨b, pool.length, rfl, by omega, by omega, hb.ex e, fun k hk => ?_⟩
      walk_at "x"
      refine x_popN hp hk (by omega) ?_
      have hrw' : upd H' lp (.lst ((pool.eraseIdx k).map vn)) lr = some (.lst (row.map vn)) := by
        rw [upd_ne (fun z => ne z.symm)]
        exact hrw
      walk_at "x"
      refine x_append hrw' (by rw [List.length_map, sizeLine_eq]; omega) ?_
      refine ⟨pool.eraseIdx k, row ++ [gt pool k], ?_, by rw [List.length_append, rl]; rfl, Ex.mut (Ex.mut e np) nr0, ?_, ?_, _, rfl⟩
      · rw [List.append_assoc]
        refine (List.Perm.append_left row ?_).trans pm
        have : gt pool k = pool[k] := by
          show pool.getD k 0 = _
          rw [List.getD_eq_getElem?_getD, List.getElem?_eq_getElem hk]
          rfl
        rw [this]
        exact erase_perm hk
      · rw [upd_ne ne]
        exact upd_same
      · rw [upd_same, List.map_append]
        rfl
    · rintro σ' H' ⟨pool, row, pm, rl, e, hp, hrw, y, rfl⟩
      have pl : pool = [] := by
        have := pm.length_eq
        rw [List.length_append, List.length_range] at this
        exact List.length_eq_zero_iff.mp (by omega)
      rw [pl, List.append_nil] at pm
      walk_at "x"
      exact q row pm lr _ e nr0 hrw
/-! _law_state: slots _law_bag_here 0, _law_size 1, _law_row 2, _law_state_here 3, _law_way 4, _law_k 5; calls ['_law_shuffled', '_law_take']; built-ins ['list', 'range'] -/
abbrev s_law_state : Stmt := top 39
abbrev N_law_state : List Str := ["_law_bag_here", "_law_size", "_law_row", "_law_state_here", "_law_way", "_law_k"]
theorem sc_law_state : FnScope N_law_state ["_law_bag_here", "_law_size"] (defScope s_law_state) := ⟨rfl, rfl, rfl, by decide +kernel, rfl, by decide +kernel, by decide +kernel⟩

def spState (K : PySem.W.Frag) : Sp := fun vs H Q _ => ∃ (b : Addr) (n : Nat), vs = [.ref b, vn n] ∧ n ≤ 9 ∧ BagAt K H b ∧ ∀ st : List Nat, StOk n st → RetL (st.map vn) H Q
theorem ok_law_state {f : Addr} {fd : FuncData} (F : Fun K "_law_state" "_law_state" s_law_state f fd) (T : Txt mg) (D_law_take : Df P w K mg base "_law_take" 1 ["_law_bag_here", "_law_many"] (spTake K)) (D_law_shuffled : Df P w K mg base "_law_shuffled" 2 ["_law_bag_here", "_law_size"] (spShuf K)) :
    FnOk P w K mg base CX0 3 f fd ["_law_bag_here", "_law_size"] (spState K) := by
  refine F.ok sc_law_state (fun vs H Q E h => ?_) (fun cdv A outer s H vs Q E hr h => ?_)
  · obtain ⟨_, _, rfl, _⟩ := h
    rfl
  · obtain ⟨b, n, rfl, hn, hb, q⟩ := h
    refine ⟨_, (pss_cons (ps_set (i := 2) sc_law_state.nd rfl (by first | exact Or.inl rfl | exact Or.inr rfl) (pe_callD D_law_shuffled (hr.mono (by decide)) (by rfl) (pa_cons (pv 0) (pa_cons (pv 1) pa_nil))))
  (pss_cons (ps_set (i := 3) sc_law_state.nd rfl (by first | exact Or.inl rfl | exact Or.inr rfl) (pe_listRg rfl (by rfl) T.b_list (prg_1 (by rfl) T.b_range (pv 1))))
  (pss_cons (ps_set (i := 4) sc_law_state.nd rfl (by first | exact Or.inl rfl | exact Or.inr rfl) (pe_callD D_law_take (hr.mono (by decide)) (by rfl) (pa_cons (pv 0) (pa_cons pe_int pa_nil))))
  (pss_cons (ps_for PassesOwn.never rfl (pi_range1 (by rfl) T.b_range (pa_cons (pe_op op_fdivN (pv 1) pe_int) pa_nil)) (pg_name (i := 5) sc_law_state.nd rfl (by first | exact Or.inl rfl | exact Or.inr rfl)) (pss_one (ps_if (PW.pt (pw_or (pt_cmpR op_eq (pv 4) pe_int (nomark _)) (pw_or1 (PW.pt (pw_and (pt_cmpR op_gt (pv 4) pe_int (nomark _)) (pw_and1 (pt_cmpR op_gt (pe_callD D_law_take (hr.mono (by decide)) (by rfl) (pa_cons (pv 0) (pa_cons pe_int pa_nil))) pe_int (nomark _)))))))) (pss_cons (ps_asg (pe_ix ix_list (pv 2) (pe_op op_add (pe_op op_mul pe_int (pv 5)) pe_int) (fun _ _ => rfl)) (pg_sub (pv 3) (pe_ix ix_list (pv 2) (pe_op op_mul pe_int (pv 5)) (fun _ _ => rfl)) set_list))
  (pss_one (ps_asg (pe_ix ix_list (pv 2) (pe_op op_mul pe_int (pv 5)) (fun _ _ => rfl)) (pg_sub (pv 3) (pe_ix ix_list (pv 2) (pe_op op_add (pe_op op_mul pe_int (pv 5)) pe_int) (fun _ _ => rfl)) set_list)))) pss_nil)))
  (pss_one (ps_ret (pv 3))))))), ?_⟩
    refine x_start (σ := [some _, some _, none, none, none, none]) rfl ?_
    walk_at "x"
    refine ⟨b, n, rfl, hn, hb, fun row pm lr H1 e1 n1 h1 => ?_⟩
    have rl : row.length = n := by rw [pm.length_eq, List.length_range]
    have rnd : row.Nodup := pm.nodup_iff.mpr List.nodup_range
    have rlt : ∀ i, i < n → gt row i < n := fun i hi => List.mem_range.mp (pm.mem_iff.mp (gt_mem (by omega)))
    walk_at "x"
    refine x_lstRg1 ?_
    walk_at "x"
    refine ⟨_, rfl, RgOk.of_le (by omega) (by omega) (by omega) (by omega), fun ls ns => ?_⟩
    rw [rgV_nat]
    have e2 := Ex.trans e1 (Ex.new (o := .lst ((List.range n).map vn)) ns)
    have h2 : upd H1 ls (.lst ((List.range n).map vn)) ls = some (.lst ((List.range n).map vn)) := upd_same
    have hr2 := (Ex.new (o := .lst ((List.range n).map vn)) ns) _ _ h1
    have ns0 := e1.none ns
    have ne : lr ≠ ls := fun z => by rw [← z, h1] at ns; cases ns
    generalize upd H1 ls (.lst ((List.range n).map vn)) = H2 at e2 h2 hr2 ⊢
    walk_at "x"
    refine ⟨b, 4, rfl, by decide, by decide, hb.ex e2, fun way hway => ?_⟩
    walk_at "x"
    refine x_forR1 ?_
    walk_at "x"
    have ef : ((n : Int).fdiv 2).toNat = n / 2 := by
      rw [Int.fdiv_eq_ediv_of_nonneg _ (by omega)]
      omega
    have ef2 : (n : Int).fdiv 2 = ((n / 2 : Nat) : Int) := by
      rw [Int.fdiv_eq_ediv_of_nonneg _ (by omega)]
      omega
    refine ⟨_, rfl, by rw [ef2]; omega, by rw [ef2]; omega, ?_⟩
    rw [ef]
    refine for_range (fun i σ' H' => ∃ st : List Nat, StOk n st ∧ (∀ j, 2 * i ≤ j → j < n → gt st (gt row j) = gt row j) ∧ Ex H H' ∧ H' lr = some (.lst (row.map vn)) ∧ H' ls = some (.lst (st.map vn)) ∧ ∃ y, σ' = [some (.ref b), some (vn n), some (.ref lr), some (.ref ls), some (vn way), y])
      ⟨List.range n, StOk.range n, fun j _ hj => ?_, e2, hr2, h2, _, rfl⟩ ?_ ?_
    · have g := rlt j hj
      show (List.range n).getD (gt row j) 0 = _
      rw [List.getD_eq_getElem?_getD, List.getElem?_range g]
      rfl
    · rintro i σ' H' hi ⟨st, S, fr, e, hrw, hst, y, rfl⟩
      have sl := S.len
      have fin : ∀ Qn : L2.St → Hp → Prop, (∀ σ' H', (∃ st : List Nat, StOk n st ∧ (∀ j, 2 * (i + 1) ≤ j → j < n → gt st (gt row j) = gt row j) ∧ Ex H H' ∧ H' lr = some (.lst (row.map vn)) ∧ H' ls = some (.lst (st.map vn)) ∧ ∃ y, σ' = [some (.ref b), some (vn n), some (.ref lr), some (.ref ls), some (vn way), y]) → Qn σ' H') →
          Qn [some (.ref b), some (vn n), some (.ref lr), some (.ref ls), some (vn way), some (.int (0 + (i : Nat)))] H' := fun Qn hq => hq _ _ ⟨st, S, fun j h1 h2 => fr j (by omega) h2, e, hrw, hst, _, rfl⟩
      have put : ∀ Qn : L2.St → Hp → Prop, (∀ σ' H', (∃ st : List Nat, StOk n st ∧ (∀ j, 2 * (i + 1) ≤ j → j < n → gt st (gt row j) = gt row j) ∧ Ex H H' ∧ H' lr = some (.lst (row.map vn)) ∧ H' ls = some (.lst (st.map vn)) ∧ ∃ y, σ' = [some (.ref b), some (vn n), some (.ref lr), some (.ref ls), some (vn way), y]) → Qn σ' H') →
          Qn [some (.ref b), some (vn n), some (.ref lr), some (.ref ls), some (vn way), some (.int (0 + (i : Nat)))] (upd (upd H' ls (.lst ((st.set (gt row (2 * i)) (gt row (2 * i + 1))).map vn))) ls (.lst (((st.set (gt row (2 * i)) (gt row (2 * i + 1))).set (gt row (2 * i + 1)) (gt row (2 * i))).map vn))) := fun Qn hq => by
        have inj : ∀ j k, j < n → k < n → gt row j = gt row k → j = k := fun j k hj hk z => by
          have e1 : gt row j = row[j] := by show row.getD j 0 = _; rw [List.getD_eq_getElem?_getD, List.getElem?_eq_getElem (by omega)]; rfl
          have e2 : gt row k = row[k] := by show row.getD k 0 = _; rw [List.getD_eq_getElem?_getD, List.getElem?_eq_getElem (by omega)]; rfl
          rw [e1, e2] at z
          have pw := List.pairwise_iff_getElem.mp rnd
          rcases Nat.lt_trichotomy j k with h | h | h
          · exact absurd z (pw j k (by omega) (by omega) h)
          · exact h
          · exact absurd z.symm (pw k j (by omega) (by omega) h)
        have np : gt row (2 * i) ≠ gt row (2 * i + 1) := fun z => by have := inj _ _ (by omega) (by omega) z; omega
        refine hq _ _ ⟨_, S.pair (rlt _ (by omega)) (rlt _ (by omega)) np (fr _ (by omega) (by omega)) (fr _ (by omega) (by omega)), fun j h1 h2 => ?_, Ex.mut (Ex.mut e ns0) ns0, ?_, upd_same, _, rfl⟩
        · have p1 := rlt (2 * i) (by omega)
          have p2 := rlt (2 * i + 1) (by omega)
          rw [gt_set (by rw [List.length_set]; omega), gt_set (by omega), if_neg, if_neg]
          · exact fr j (by omega) h2
          · exact fun z => by have := inj _ _ h2 (by omega) z; omega
          · exact fun z => by have := inj _ _ h2 (by omega) z; omega
        · rw [upd_ne ne, upd_ne ne]
          exact hrw
      refine x_name ?_
      dsimp only [List.set_cons_succ, List.set_cons_zero]
      refine x_ifs (fun Qt qt => ?_) ?_ ?_
      · walk_at "x"
        refine x_decI (fun h1 => ?_) (fun h1 => ?_)
        · exact qt _
        · walk_at "x"
          refine x_dec (fun h2 => ?_) (fun h2 => ?_)
          · walk_at "x"
            refine ⟨b, 3, rfl, by decide, by decide, hb.ex e, fun k hk => ?_⟩
            walk_at "x"
            exact qt _
          · exact qt _
      · walk_at "x"
        refine x_ixN (n := 2 * i + 1) (SqL.of hrw) (by omega) (by omega) ?_
        walk_at "x"
        refine x_ixN (n := 2 * i) (SqL.of hrw) (by omega) (by omega) ?_
        refine x_setN hst rfl (by have := rlt (2 * i) (by omega); omega) ?_
        walk_at "x"
        have hrw' : upd H' ls (.lst ((st.set (gt row (2 * i)) (gt row (2 * i + 1))).map vn)) lr = some (.lst (row.map vn)) := by
          rw [upd_ne ne]
          exact hrw
        refine x_ixN (n := 2 * i) (SqL.of hrw') (by omega) (by omega) ?_
        walk_at "x"
        refine x_ixN (n := 2 * i + 1) (SqL.of hrw') (by omega) (by omega) ?_
        refine x_setN upd_same rfl (by rw [List.length_set]; have := rlt (2 * i + 1) (by omega); omega) ?_
        exact put _ fun σ' H' h => h
      · walk_at "x"
        exact fin _ fun σ' H' h => h
    · rintro σ' H' ⟨st, S, fr, e, hrw, hst, y, rfl⟩
      walk_at "x"
      exact q st S ls _ e ns0 hst
end
end Pm
end
section
set_option Elab.async false
set_option maxRecDepth 100000
set_option maxHeartbeats 4000000
set_option linter.all false
namespace Pm
open PySem L2
local macro_rules | `(tactic| walk_at "ex") => `(tactic| first | exact Ex.refl _ | assumption | exact Ex.new (by assumption) | exact Ex.trans (by walk_at "ex") (by assumption) | exact Ex.trans (by walk_at "ex") (Ex.new (by assumption)) | exact Ex.mut (by walk_at "ex") (by first | assumption | exact Ex.none (by walk_at "ex") (by assumption)))
local macro_rules | `(tactic| walk_at "sq") => `(tactic| first | assumption | exact Ex.l (by walk_at "ex") (by assumption) | exact Ex.t (by walk_at "ex") (by assumption) | exact SqL.of (by walk_at "hp") | exact SqT.of (by walk_at "hp") | exact Ex.l (by walk_at "ex") (LstA.sq (by assumption)) | exact Ex.t (by walk_at "ex") (TupA.sq (by assumption)))
local macro_rules | `(tactic| walk_at "hp") => `(tactic| first | assumption | exact upd_same | (refine (by walk_at "ex" : Ex _ _) _ _ ?_; assumption) | (refine (by walk_at "ex" : Ex _ _) _ _ ?_; exact upd_same))
local macro_rules | `(tactic| walk_at "x1") => `(tactic| first
  | (with_reducible refine x_seq ?_) | (with_reducible refine x_asg ?_) | ((with_reducible refine x_name ?_); dsimp only [List.set_cons_succ, List.set_cons_zero])
  | (with_reducible refine x_ret ?_) | (with_reducible refine x_if ?_) | (with_reducible refine x_drop ?_) | (with_reducible refine x_next ?_)
  | ((with_reducible refine' x_var ?h ?_); (case h => rfl)) | (with_reducible refine x_c ?_) | (with_reducible refine x_op ?_) | (with_reducible refine x_un ?_)
  | (with_reducible refine x_I0 ?_) | ((with_reducible refine x_I ?h ?_); (case h => first | exact Or.inl (by omega) | exact Or.inr (by omega) | omega | (constructor <;> omega))) | (with_reducible refine x_U ?_)
  | ((with_reducible refine' x_eq ?h ?_); (case h => rfl)) | ((with_reducible refine' x_ne ?h ?_); (case h => rfl))
  | (with_reducible refine x_cb ?_) | (with_reducible refine x_call ?_) | (with_reducible refine x_nil ?_) | (with_reducible refine x_cons ?_)
  | (with_reducible refine x_test ?_) | (with_reducible refine x_tB ?_) | (with_reducible refine x_bl ?_) | (with_reducible refine x_or ?_) | (with_reducible refine x_and ?_) | (with_reducible refine x_not ?_)
  | (with_reducible refine x_ifE ?_) | (with_reducible refine x_lst ?_) | (with_reducible refine x_tup ?_)
  | (with_reducible refine x_bm ?_) | (with_reducible refine x_bmG ?_) | (with_reducible refine x_chain ?_) | (with_reducible refine x_orV ?_) | (with_reducible refine x_andV ?_) | (with_reducible refine x_notV ?_) | (with_reducible refine x_sub ?_) | (with_reducible refine x_star ?_) | (with_reducible refine x_sl ?_) | (with_reducible refine x_po ?_) | (with_reducible refine x_pn ?_))
local macro_rules | `(tactic| walk_at "y1") => `(tactic| first
  | (with_reducible refine x_seq ?_) | (with_reducible refine x_asg ?_) | ((with_reducible refine x_name ?_); dsimp only [List.set_cons_succ, List.set_cons_zero])
  | (with_reducible refine x_drop ?_) | (with_reducible refine x_next ?_)
  | ((with_reducible refine' x_var ?h ?_); (case h => rfl)) | (with_reducible refine x_c ?_) | (with_reducible refine x_op ?_) | (with_reducible refine x_un ?_)
  | (with_reducible refine x_I0 ?_) | ((with_reducible refine x_I ?h ?_); (case h => first | exact Or.inl (by omega) | exact Or.inr (by omega) | omega | (constructor <;> omega))) | (with_reducible refine x_U ?_)
  | ((with_reducible refine' x_eq ?h ?_); (case h => rfl)) | ((with_reducible refine' x_ne ?h ?_); (case h => rfl))
  | (with_reducible refine x_cb ?_) | (with_reducible refine x_call ?_) | (with_reducible refine x_nil ?_) | (with_reducible refine x_cons ?_)
  | (with_reducible refine x_test ?_) | (with_reducible refine x_tB ?_) | (with_reducible refine x_bl ?_) | (with_reducible refine x_or ?_) | (with_reducible refine x_and ?_) | (with_reducible refine x_not ?_)
  | (with_reducible refine x_ifE ?_) | (with_reducible refine x_lst ?_) | (with_reducible refine x_tup ?_)
  | (with_reducible refine x_bm ?_) | (with_reducible refine x_bmG ?_) | (with_reducible refine x_chain ?_) | (with_reducible refine x_orV ?_) | (with_reducible refine x_andV ?_) | (with_reducible refine x_notV ?_) | (with_reducible refine x_sub ?_) | (with_reducible refine x_star ?_) | (with_reducible refine x_sl ?_) | (with_reducible refine x_po ?_) | (with_reducible refine x_pn ?_))
local macro_rules | `(tactic| walk_at "xi") => `(tactic| first | (with_reducible refine iteT ?_) | (with_reducible refine iteF ?_) | (with_reducible refine x_notT ?_) | (with_reducible refine x_notF ?_))
local macro_rules | `(tactic| walk_at "x") => `(tactic| ((try dsimp only); repeat ((first | walk_at "x1" | walk_at "xi"); (try dsimp only))))
local macro_rules | `(tactic| walk_at "y") => `(tactic| ((try dsimp only); repeat ((first | walk_at "y1" | walk_at "xi"); (try dsimp only))))

section
variable {P : Program} {w : World} {K : PySem.W.Frag} {mg : Str → Option Value} {base : Heap}
/-- a test that lays new objects, both ways -/
theorem x_ifsE {t : TT} {A B : TS} {D : Ends} {σ : L2.St} {H : Hp} (C C' : Prop) (ht : ∀ Qt : Bool → Hp → Prop, (∀ k H', Ex H H' → (k = true → C) → (k = false → C') → Qt k H') → t σ H Qt) (a : ∀ H', Ex H H' → C → A D σ H') (b : ∀ H', Ex H H' → C' → B D σ H') : tIfS t A B D σ H := ht _ fun k H' e c c' => by
  cases k with
  | true => exact iteT (a H' e (c rfl))
  | false => exact iteF (b H' e (c' rfl))
theorem x_seqI {t u : TS} {D : Ends} {σ : L2.St} {H : Hp} (Ps : L2.St → Hp → Prop) (q : ∀ N : L2.St → Hp → Prop, (∀ σ' H', Ps σ' H' → N σ' H') → t { D with nx := N } σ H) (rest : ∀ σ' H', Ps σ' H' → u D σ' H') : tSeq t u D σ H := q _ rest
/-- [[..], [..], [..]] -/
theorem x_lll {σ : L2.St} {H : Hp} {Q : VK} {ta tb tc : TA} {us vs ws : List V} (z1 : us.length ≤ 100) (z2 : vs.length ≤ 100) (z3 : ws.length ≤ 100) (h1 : ∀ H' (Q : List V → Hp → Prop), Ex H H' → Q us H' → ta σ H' Q) (h2 : ∀ H' (Q : List V → Hp → Prop), Ex H H' → Q vs H' → tb σ H' Q) (h3 : ∀ H' (Q : List V → Hp → Prop), Ex H H' → Q ws H' → tc σ H' Q)
    (q : ∀ l l0 l1 l2 H', Ex H H' → H l = none → H l0 = none → H l1 = none → H l2 = none → H' l = some (.lst [.ref l0, .ref l1, .ref l2]) → H' l0 = some (.lst us) → H' l1 = some (.lst vs) → H' l2 = some (.lst ws) → Q (.ref l) H') : tLst (tCons (tLst ta) (tCons (tLst tb) (tCons (tLst tc) tNil))) σ H Q := by
  have sz : ∀ {n : Nat}, n ≤ 100 → n ≤ sizeLine := fun h => by rw [sizeLine_eq]; omega
  refine x_lst (x_cons (x_lst (h1 _ _ (Ex.refl _) ⟨sz z1, fun l0 n0 => ?_⟩)))
  refine x_cons (x_lst (h2 _ _ (Ex.new n0) ⟨sz z2, fun l1 n1 => ?_⟩))
  have e2 := Ex.trans (Ex.new (o := .lst us) n0) (Ex.new (o := .lst vs) n1)
  refine x_cons (x_lst (h3 _ _ e2 ⟨sz z3, fun l2 n2 => ?_⟩))
  refine x_nil ⟨by show 3 ≤ sizeLine; decide, fun l nl => ?_⟩
  have e3 := Ex.trans e2 (Ex.new (o := .lst ws) n2)
  refine q l l0 l1 l2 _ (Ex.trans e3 (Ex.new nl)) (e3.none nl) n0 ((Ex.new n0).none n1) (e2.none n2) upd_same ?_ ?_ ?_
  · exact (Ex.new nl) _ _ ((Ex.new n2) _ _ ((Ex.new n1) _ _ upd_same))
  · exact (Ex.new nl) _ _ ((Ex.new n2) _ _ upd_same)
  · exact (Ex.new nl) _ _ upd_same
/-! _law_flip: slots _law_bag_here 0, _law_base 1, _law_busy 2, _law_units 3, _law_x 4, _law_p 5, _law_q 6, _law_r 7, _law_s 8, _law_turned 9, _law_ends 10, _law_free 11; calls ['_law_take']; built-ins ['range', 'len'] -/
abbrev s_law_flip : Stmt := top 40
abbrev N_law_flip : List Str := ["_law_bag_here", "_law_base", "_law_busy", "_law_units", "_law_x", "_law_p", "_law_q", "_law_r", "_law_s", "_law_turned", "_law_ends", "_law_free"]
theorem sc_law_flip : FnScope N_law_flip ["_law_bag_here", "_law_base", "_law_busy"] (defScope s_law_flip) := ⟨rfl, rfl, rfl, by decide +kernel, rfl, by decide +kernel, by decide +kernel⟩

/-- a flip's three lists, new -/
def RetF (R old new : List Nat) (H : Hp) (Q : VK) : Prop := ∀ l l0 l1 l2 H', Ex H H' → H l = none → H l0 = none → H l1 = none → H l2 = none → H' l = some (.lst [.ref l0, .ref l1, .ref l2]) → H' l0 = some (.lst (R.map vn)) → H' l1 = some (.lst (old.map vn)) → H' l2 = some (.lst (new.map vn)) → Q (.ref l) H'
theorem RetF.ex {R old new : List Nat} {H H' : Hp} {Q : VK} (e : Ex H H') (h : RetF R old new H Q) : RetF R old new H' Q := fun l l0 l1 l2 H2 e2 n n0 n1 n2 => h l l0 l1 l2 H2 (Ex.trans e e2) (e.none n) (e.none n0) (e.none n1) (e.none n2)
def spFlip (K : PySem.W.Frag) : Sp := fun vs H Q _ => ∃ (b s u : Addr) (n : Nat) (st busy : List Nat), vs = [.ref b, .ref s, .ref u] ∧ BagAt K H b ∧ SqL K H s (st.map vn) ∧ SqL K H u (busy.map vn) ∧ n ≤ 9 ∧ StOk n st ∧ BusyOk n st busy ∧ RetL [] H Q ∧ ∀ R new old, FlipOk n st busy R new → R.length ≤ 4 → RetF R old new H Q
set_option linter.unusedVariables false in
theorem ok_law_flip {f : Addr} {fd : FuncData} (F : Fun K "_law_flip" "_law_flip" s_law_flip f fd) (T : Txt mg) (D_law_take : Df P w K mg base "_law_take" 1 ["_law_bag_here", "_law_many"] (spTake K)) : FnOk P w K mg base CX0 2 f fd ["_law_bag_here", "_law_base", "_law_busy"] (spFlip K) := by
  refine F.ok sc_law_flip (fun vs H Q E h => ?_) (fun cdv A outer s H vs Q E hr h => ?_)
  · obtain ⟨_, _, _, _, _, _, rfl, _⟩ := h
    rfl
  · obtain ⟨b, sa, ua, n, st, busy, rfl, hb, hS, hU, hn, S, B, q0, q⟩ := h
    refine ⟨_, (pss_cons (ps_setLc (i := 3) (own := [("_law_x", 4)]) (g := gName 4) rfl sc_law_flip.nd rfl rfl (sw_true rfl rfl rfl (by decide +kernel)) (pi_range1 (by rfl) T.b_range (pa_cons (pe_callB call_len_seq (by rfl) T.b_len (by decide +kernel) (pa_cons (pv 1) pa_nil)) pa_nil)) (blkOk_by (N := N_law_flip) (sc := defScope s_law_flip) (by decide +kernel)) (fun _ _ _ _ _ => pg_name (i := 4) sc_law_flip.nd rfl (Or.inl rfl)) (fun _ _ _ _ _ => (pts_one (PW.pt (pw_and (pt_cmpR op_le (pv 4) (pe_ix (ix_listK K rfl) (pv 1) (pv 4) (fun _ _ => rfl)) (nomark _)) (pw_and1 (pt_cmpR (op_notInK K rfl) (pv 4) (pv 2) (by rfl))))))) (fun _ _ _ _ _ => (pv 4)))
  (pss_cons (ps_if (pt_cmpR (op_eqD hr.units) (pv 3) (pe_lst pa_nil) (nomark _)) (pss_one (ps_ret (pe_lst pa_nil))) pss_nil)
  (pss_cons (ps_set (i := 5) sc_law_flip.nd rfl (by first | exact Or.inl rfl | exact Or.inr rfl) (pe_bm PySem.F.plainAttrs_list PySem.F.slot_list_pop PySem.F.type_list_pop mt_popAt (pv 3) (pa_cons (pe_callD D_law_take (hr.mono (by decide)) (by rfl) (pa_cons (pv 0) (pa_cons (pe_callB call_len_seq (by rfl) T.b_len (by decide +kernel) (pa_cons (pv 3) pa_nil)) pa_nil))) pa_nil)))
  (pss_cons (ps_set (i := 6) sc_law_flip.nd rfl (by first | exact Or.inl rfl | exact Or.inr rfl) (pe_ix ix_list (pv 1) (pv 5) (fun _ _ => rfl)))
  (pss_cons (ps_if (PW.pt (pw_and (pt_cmpR op_ne (pv 5) (pv 6) (nomark _)) (pw_and1 (PW.pt (pw_or (pt_cmpR (op_eqD hr.units) (pv 3) (pe_lst pa_nil) (nomark _)) (pw_or1 (pt_cmpR op_eq (pe_callD D_law_take (hr.mono (by decide)) (by rfl) (pa_cons (pv 0) (pa_cons pe_int pa_nil))) pe_int (nomark _)))))))) (pss_one (ps_ret (pe_lst (pa_cons (pe_lst (pa_cons (pv 5) (pa_cons (pv 6) pa_nil))) (pa_cons (pe_lst (pa_cons (pv 6) (pa_cons (pv 5) pa_nil))) (pa_cons (pe_lst (pa_cons (pv 5) (pa_cons (pv 6) pa_nil))) pa_nil)))))) pss_nil)
  (pss_cons (ps_if (pt_cmpR (op_eqD hr.units) (pv 3) (pe_lst pa_nil) (nomark _)) (pss_one (ps_ret (pe_lst pa_nil))) pss_nil)
  (pss_cons (ps_set (i := 7) sc_law_flip.nd rfl (by first | exact Or.inl rfl | exact Or.inr rfl) (pe_bm PySem.F.plainAttrs_list PySem.F.slot_list_pop PySem.F.type_list_pop mt_popAt (pv 3) (pa_cons (pe_callD D_law_take (hr.mono (by decide)) (by rfl) (pa_cons (pv 0) (pa_cons (pe_callB call_len_seq (by rfl) T.b_len (by decide +kernel) (pa_cons (pv 3) pa_nil)) pa_nil))) pa_nil)))
  (pss_cons (ps_set (i := 8) sc_law_flip.nd rfl (by first | exact Or.inl rfl | exact Or.inr rfl) (pe_ix ix_list (pv 1) (pv 7) (fun _ _ => rfl)))
  (pss_cons (ps_set (i := 9) sc_law_flip.nd rfl (by first | exact Or.inl rfl | exact Or.inr rfl) (pe_cmpR op_eq (pe_callD D_law_take (hr.mono (by decide)) (by rfl) (pa_cons (pv 0) (pa_cons pe_int pa_nil))) pe_int (nomark _)))
  (pss_cons (ps_if (PW.pt (pw_and (pt_cmpR op_eq (pv 5) (pv 6) (nomark _)) (pw_and1 (pt_cmpR op_eq (pv 7) (pv 8) (nomark _))))) (pss_one (ps_ret (pe_lst (pa_cons (pe_lst (pa_cons (pv 5) (pa_cons (pv 7) pa_nil))) (pa_cons (pe_lst (pa_cons (pv 5) (pa_cons (pv 7) pa_nil))) (pa_cons (pe_lst (pa_cons (pv 7) (pa_cons (pv 5) pa_nil))) pa_nil)))))) pss_nil)
  (pss_cons (ps_if (PW.pt (pw_and (pt_cmpR op_ne (pv 5) (pv 6) (nomark _)) (pw_and1 (pt_cmpR op_ne (pv 7) (pv 8) (nomark _))))) (pss_cons (ps_if (pt_val (pv 9)) (pss_one (ps_ret (pe_lst (pa_cons (pe_lst (pa_cons (pv 5) (pa_cons (pv 6) (pa_cons (pv 8) (pa_cons (pv 7) pa_nil))))) (pa_cons (pe_lst (pa_cons (pv 6) (pa_cons (pv 5) (pa_cons (pv 7) (pa_cons (pv 8) pa_nil))))) (pa_cons (pe_lst (pa_cons (pv 7) (pa_cons (pv 8) (pa_cons (pv 6) (pa_cons (pv 5) pa_nil))))) pa_nil)))))) pss_nil)
  (pss_one (ps_ret (pe_lst (pa_cons (pe_lst (pa_cons (pv 5) (pa_cons (pv 6) (pa_cons (pv 7) (pa_cons (pv 8) pa_nil))))) (pa_cons (pe_lst (pa_cons (pv 6) (pa_cons (pv 5) (pa_cons (pv 8) (pa_cons (pv 7) pa_nil))))) (pa_cons (pe_lst (pa_cons (pv 8) (pa_cons (pv 7) (pa_cons (pv 6) (pa_cons (pv 5) pa_nil))))) pa_nil))))))) pss_nil)
  (pss_cons (ps_set (i := 10) sc_law_flip.nd rfl (by first | exact Or.inl rfl | exact Or.inr rfl) (pe_lst (pa_cons (pv 5) (pa_cons (pv 6) pa_nil))))
  (pss_cons (ps_set (i := 11) sc_law_flip.nd rfl (by first | exact Or.inl rfl | exact Or.inr rfl) (pv 7))
  (pss_cons (ps_if (pt_cmpR op_eq (pv 5) (pv 6) (nomark _)) (pss_cons (ps_set (i := 10) sc_law_flip.nd rfl (by first | exact Or.inl rfl | exact Or.inr rfl) (pe_lst (pa_cons (pv 7) (pa_cons (pv 8) pa_nil))))
  (pss_one (ps_set (i := 11) sc_law_flip.nd rfl (by first | exact Or.inl rfl | exact Or.inr rfl) (pv 5)))) pss_nil)
  (pss_cons (ps_if (pt_val (pv 9)) (pss_one (ps_set (i := 10) sc_law_flip.nd rfl (by first | exact Or.inl rfl | exact Or.inr rfl) (pe_lst (pa_cons (pe_ix ix_list (pv 10) pe_int (fun _ _ => rfl)) (pa_cons (pe_ix ix_list (pv 10) pe_int (fun _ _ => rfl)) pa_nil))))) pss_nil)
  (pss_one (ps_ret (pe_lst (pa_cons (pe_lst (pa_cons (pe_ix ix_list (pv 10) pe_int (fun _ _ => rfl)) (pa_cons (pe_ix ix_list (pv 10) pe_int (fun _ _ => rfl)) (pa_cons (pv 11) pa_nil)))) (pa_cons (pe_lst (pa_cons (pe_ix ix_list (pv 10) pe_int (fun _ _ => rfl)) (pa_cons (pe_ix ix_list (pv 10) pe_int (fun _ _ => rfl)) (pa_cons (pv 11) pa_nil)))) (pa_cons (pe_lst (pa_cons (pv 11) (pa_cons (pe_ix ix_list (pv 10) pe_int (fun _ _ => rfl)) (pa_cons (pe_ix ix_list (pv 10) pe_int (fun _ _ => rfl)) pa_nil)))) pa_nil))))))))))))))))))))), ?_⟩
    refine x_start (σ := [some _, some _, some _, none, none, none, none, none, none, none, none, none]) rfl ?_
    have sl := S.len
    walk_at "x"
    refine x_lcR1 ?_
    walk_at "x"
    refine ⟨sa, _, rfl, .inl hS, ?_⟩
    rw [List.length_map, sl]
    walk_at "x"
    refine ⟨_, rfl, by omega, by omega, ?_⟩
    rw [Int.toNat_natCast]
    refine compR_map (by omega) (unitB st busy) vn (fun _ => rfl) (fun i H2 hi e2 Qt qt => ?_) (fun i H2 hi hu e2 Qe qe => ?_) (fun lu H1 n1 e1 h1 => ?_)
    · rw [Int.zero_add]
      walk_at "x"
      refine x_ixN (e2.l hS) rfl (by omega) ?_
      walk_at "x"
      refine x_dec (fun h1 => ?_) (fun h1 => ?_)
      · walk_at "x"
        refine x_notIn (.inl (e2.l hU)) ?_
        walk_at "x"
        have := qt _ (Ex.refl _)
        unfold unitB at this
        rw [decide_eq_true (show i ≤ gt st i by omega), Bool.true_and] at this
        exact this
      · have := qt _ (Ex.refl _)
        unfold unitB at this
        rw [decide_eq_false (show ¬ i ≤ gt st i by omega), Bool.false_and] at this
        exact this
    · rw [Int.zero_add]
      walk_at "x"
      exact qe _ (Ex.refl _)
    have eu : accOf (unitB st busy) vn (List.range n) = ((List.range n).filter (unitB st busy)).map vn := rfl
    rw [eu] at h1
    generalize hun : (List.range n).filter (unitB st busy) = units at h1
    have um : ∀ r ∈ units, r < n ∧ r ≤ gt st r ∧ r ∉ busy := fun r hr => by
      rw [← hun] at hr
      obtain ⟨a, c⟩ := List.mem_filter.mp hr
      unfold unitB at c
      rw [Bool.and_eq_true, decide_eq_true_iff, decide_eq_true_iff] at c
      exact ⟨List.mem_range.mp a, c.1, c.2⟩
    have und : units.Nodup := by rw [← hun]; exact List.Pairwise.filter _ List.nodup_range
    have ul : units.length ≤ n := nodup_len und fun r hr => (um r hr).1
    clear hun eu
    walk_at "y"
    refine x_ifsE (units = []) (units ≠ []) (fun Qt qt => ?_) (fun H2 e2 hu => ?_) (fun H2 e2 hu => ?_)
    · walk_at "x"
      refine ⟨by decide, fun p np => ?_⟩
      walk_at "x"
      refine x_eqL (ys := []) (SqL.of ((Ex.new np) _ _ h1)) (SqL.of upd_same) ?_
      walk_at "x"
      exact qt _ _ (Ex.new np) (fun z => of_decide_eq_true z) (fun z => of_decide_eq_false z)
    · walk_at "x"
      refine ⟨by decide, fun p np => ?_⟩
      exact q0 p _ (Ex.trans (Ex.trans e1 e2) (Ex.new np)) ((Ex.trans e1 e2).none np) upd_same
    have e02 := Ex.trans e1 e2
    have h2 := e2 _ _ h1
    walk_at "x"
    refine ⟨.inl ⟨rfl, _, SqL.of h2⟩, ?_⟩
    walk_at "x"
    refine ⟨lu, _, rfl, .inl (SqL.of h2), ?_⟩
    rw [List.length_map]
    walk_at "x"
    have upos : 0 < units.length := List.length_pos_iff.mpr hu
    refine ⟨b, units.length, rfl, by omega, by omega, hb.ex e02, fun k hk => ?_⟩
    walk_at "x"
    refine x_popN h2 hk (by omega) ?_
    have e03 : Ex H (upd H2 lu (.lst ((units.eraseIdx k).map vn))) := Ex.mut e02 n1
    have h3 : upd H2 lu (.lst ((units.eraseIdx k).map vn)) lu = some (.lst ((units.eraseIdx k).map vn)) := upd_same
    obtain ⟨pn, pl, pb⟩ := um _ (gt_mem hk)
    have pm := erase_perm hk
    have hg : units[k] = gt units k := by
      show _ = units.getD k 0
      rw [List.getD_eq_getElem?_getD, List.getElem?_eq_getElem hk]
      rfl
    rw [hg] at pm
    have nd2 := pm.nodup_iff.mpr und
    rw [List.nodup_cons] at nd2
    have um2 : ∀ r ∈ units.eraseIdx k, r ∈ units := fun r hr => pm.mem_iff.mp (List.mem_cons_of_mem _ hr)
    generalize upd H2 lu (.lst ((units.eraseIdx k).map vn)) = H3 at e03 h3 ⊢
    generalize units.eraseIdx k = units2 at h3 nd2 um2 pm
    generalize gt units k = p at pn pl pb nd2 pm ⊢
    have ul2 : units2.length + 1 = units.length := pm.length_eq
    walk_at "x"
    refine x_ixN (e03.l hS) rfl (by omega) ?_
    walk_at "y"
    refine x_ifsE (p ≠ gt st p) True (fun Qt qt => ?_) (fun H4 e4 hpq => ?_) (fun H4 e4 _ => ?_)
    · walk_at "x"
      refine x_ndecI (fun h5 => ?_) (fun h5 => ?_)
      · walk_at "x"
        refine ⟨by decide, fun p np => ?_⟩
        walk_at "x"
        refine x_eqL (ys := []) (SqL.of ((Ex.new np) _ _ h3)) (SqL.of upd_same) ?_
        walk_at "x"
        refine x_dec (fun h6 => ?_) (fun h6 => ?_)
        · exact qt _ _ (Ex.new np) (fun _ => by omega) (fun z => trivial)
        · walk_at "x"
          refine ⟨b, 4, rfl, by decide, by decide, hb.ex (Ex.trans e03 (Ex.new np)), fun k hk => ?_⟩
          walk_at "x"
          exact qt _ _ (Ex.new np) (fun _ => by omega) (fun z => trivial)
      · exact qt _ _ (Ex.refl _) (fun z => by cases z) (fun z => trivial)
    · refine x_ret ?_
      refine x_lll (us := [p, gt st p].map vn) (vs := [gt st p, p].map vn) (ws := [p, gt st p].map vn) (by simp) (by simp) (by simp) (fun H' Q' e' q' => ?_) (fun H' Q' e' q' => ?_) (fun H' Q' e' q' => ?_) ?_
      · walk_at "x"
        exact q'
      · walk_at "x"
        exact q'
      · walk_at "x"
        exact q'
      · exact (q [p, gt st p] [p, gt st p] [gt st p, p] (flip_single S B pn pb hpq) (by simp)).ex (Ex.trans e03 e4)
    have e04 := Ex.trans e03 e4
    have h4 := e4 _ _ h3
    walk_at "y"
    refine x_ifsE (units2 = []) (units2 ≠ []) (fun Qt qt => ?_) (fun H5 e5 hu2 => ?_) (fun H5 e5 hu2 => ?_)
    · walk_at "x"
      refine ⟨by decide, fun p np => ?_⟩
      walk_at "x"
      refine x_eqL (ys := []) (SqL.of ((Ex.new np) _ _ h4)) (SqL.of upd_same) ?_
      walk_at "x"
      exact qt _ _ (Ex.new np) (fun z => of_decide_eq_true z) (fun z => of_decide_eq_false z)
    · walk_at "x"
      refine ⟨by decide, fun p np => ?_⟩
      exact q0 p _ (Ex.trans (Ex.trans e04 e5) (Ex.new np)) ((Ex.trans e04 e5).none np) upd_same
    have e05 := Ex.trans e04 e5
    have h5 := e5 _ _ h4
    walk_at "x"
    refine ⟨.inl ⟨rfl, _, SqL.of h5⟩, ?_⟩
    walk_at "x"
    refine ⟨lu, _, rfl, .inl (SqL.of h5), ?_⟩
    rw [List.length_map]
    walk_at "x"
    have upos2 : 0 < units2.length := List.length_pos_iff.mpr hu2
    refine ⟨b, units2.length, rfl, by omega, by omega, hb.ex e05, fun k2 hk2 => ?_⟩
    walk_at "x"
    refine x_popN h5 hk2 (by omega) ?_
    have e06 : Ex H (upd H5 lu (.lst ((units2.eraseIdx k2).map vn))) := Ex.mut e05 n1
    have rmem := gt_mem hk2
    obtain ⟨rn, rlq, rb⟩ := um _ (um2 _ rmem)
    have npr : p ≠ gt units2 k2 := fun z => nd2.1 (z ▸ rmem)
    generalize upd H5 lu (.lst ((units2.eraseIdx k2).map vn)) = H6 at e06 ⊢
    generalize gt units2 k2 = r at rn rlq rb npr ⊢
    obtain ⟨a1, a2, a3⟩ := units_apart S B pn rn npr pl rlq
    have pm2 := S.inv p pn
    have rm2 := S.inv r rn
    walk_at "x"
    refine x_ixN (e06.l hS) rfl (by omega) ?_
    walk_at "x"
    refine ⟨b, 2, rfl, by decide, by decide, hb.ex e06, fun k3 hk3 => ?_⟩
    generalize hq' : gt st p = q' at *
    generalize hs' : gt st r = s' at *
    walk_at "y"
    generalize decide (vn k3 = V.int 1) = turned
    refine x_ifsE (p = q' ∧ r = s') (¬ (p = q' ∧ r = s')) (fun Qt qt => ?_) (fun H7 e7 hc => ?_) (fun H7 e7 hc => ?_)
    · walk_at "x"
      refine x_decI (fun h6 => ?_) (fun h6 => ?_)
      · walk_at "x"
        refine qt _ _ (Ex.refl _) (fun z => ?_) (fun z => ?_)
        · have := of_decide_eq_true z
          rw [vint_iff] at this
          omega
        · have := of_decide_eq_false z
          rw [vint_iff] at this
          omega
      · exact qt _ _ (Ex.refl _) (fun z => by cases z) (fun _ => by omega)
    · refine x_ret ?_
      refine x_lll (us := [p, r].map vn) (vs := [p, r].map vn) (ws := [r, p].map vn) (by simp) (by simp) (by simp) (fun H' Q' e' q' => ?_) (fun H' Q' e' q' => ?_) (fun H' Q' e' q' => ?_) ?_
      · walk_at "x"
        exact q'
      · walk_at "x"
        exact q'
      · walk_at "x"
        exact q'
      · exact (q [p, r] [r, p] [p, r] (flip_two S B pn rn pb rb npr (by rw [hq']; exact hc.1) (by rw [hs']; exact hc.2)) (by simp)).ex (Ex.trans e06 e7)
    have e07 := Ex.trans e06 e7
    clear e7
    walk_at "y"
    refine x_ifsE (p ≠ q' ∧ r ≠ s') (¬ (p ≠ q' ∧ r ≠ s')) (fun Qt qt => ?_) (fun H8 e8 hd => ?_) (fun H8 e8 hd => ?_)
    · walk_at "x"
      refine x_ndecI (fun h6 => ?_) (fun h6 => ?_)
      · walk_at "x"
        refine qt _ _ (Ex.refl _) (fun z => ?_) (fun z => ?_)
        · have : ¬ (V.int (r : Int) = V.int (s' : Int)) := by simpa using z
          rw [vint_iff] at this
          omega
        · have : (V.int (r : Int) = V.int (s' : Int)) := by simpa using z
          rw [vint_iff] at this
          omega
      · exact qt _ _ (Ex.refl _) (fun z => by cases z) (fun _ => by omega)
    · have e08 := Ex.trans e07 e8
      walk_at "y"
      refine x_ifsE True True (fun Qt qt => ?_) (fun H9 e9 _ => ?_) (fun H9 e9 _ => ?_)
      · walk_at "x"
        exact qt _ _ (Ex.refl _) (fun _ => trivial) (fun _ => trivial)
      · refine x_ret ?_
        refine x_lll (us := [p, q', s', r].map vn) (vs := [q', p, r, s'].map vn) (ws := [r, s', q', p].map vn) (by simp) (by simp) (by simp) (fun H' Q' e' q' => ?_) (fun H' Q' e' q' => ?_) (fun H' Q' e' q' => ?_) ?_
        · walk_at "x"
          exact q'
        · walk_at "x"
          exact q'
        · walk_at "x"
          exact q'
        · exact (q [p, q', s', r] [r, s', q', p] [q', p, r, s'] (flip_four S B pn rm2.1 pb (free_mate S B rn rb |>.2 |> fun z => by rw [hs'] at z; exact z) hq' rm2.2 hd.1 (fun z => hd.2 z.symm) a3 npr a2 a1) (by simp)).ex (Ex.trans e08 e9)
      · walk_at "y"
        refine x_ret ?_
        refine x_lll (us := [p, q', r, s'].map vn) (vs := [q', p, s', r].map vn) (ws := [s', r, q', p].map vn) (by simp) (by simp) (by simp) (fun H' Q' e' q' => ?_) (fun H' Q' e' q' => ?_) (fun H' Q' e' q' => ?_) ?_
        · walk_at "x"
          exact q'
        · walk_at "x"
          exact q'
        · walk_at "x"
          exact q'
        · exact (q [p, q', r, s'] [s', r, q', p] [q', p, s', r] (flip_four S B pn rn pb rb hq' hs' hd.1 hd.2 npr a3 a1 a2) (by simp)).ex (Ex.trans e08 e9)
    have e08 := Ex.trans e07 e8
    clear e8
    walk_at "y"
    refine ⟨by show 2 ≤ sizeLine; decide, fun le ne => ?_⟩
    have e09 := Ex.trans e08 (Ex.new (o := .lst [vn p, vn q']) ne)
    have h9 : upd H8 le (.lst [vn p, vn q']) le = some (.lst ([p, q'].map vn)) := upd_same
    generalize upd H8 le (.lst [vn p, vn q']) = H9 at e09 h9 ⊢
    refine x_name ?_
    dsimp only [List.set_cons_succ, List.set_cons_zero]
    refine x_seq (x_asg (x_var rfl (x_name ?_)))
    dsimp only [List.set_cons_succ, List.set_cons_zero]
    refine x_seqI (fun σ' H' => Ex H H' ∧ ∃ a b' c le, H' le = some (.lst ([a, b'].map vn)) ∧ a < n ∧ c < n ∧ a ∉ busy ∧ c ∉ busy ∧ gt st a = b' ∧ gt st c = c ∧ a ≠ b' ∧ a ≠ c ∧ b' ≠ c ∧ σ' = [some (.ref b), some (.ref sa), some (.ref ua), some (.ref lu), none, some (vn p), some (vn q'), some (vn r), some (vn s'), some (.bl turned), some (.ref le), some (vn c)]) (fun N hN => ?_) ?_
    · refine x_ifsE (p = q') (p ≠ q') (fun Qt qt => ?_) (fun H10 e10 he => ?_) (fun H10 e10 he => ?_)
      · walk_at "x"
        refine qt _ _ (Ex.refl _) (fun z => ?_) (fun z => ?_)
        · have := of_decide_eq_true z
          rw [vint_iff] at this
          omega
        · have := of_decide_eq_false z
          rw [vint_iff] at this
          omega
      · walk_at "x"
        refine ⟨by show 2 ≤ sizeLine; decide, fun le2 ne2 => ?_⟩
        walk_at "x"
        have nrs : r ≠ s' := fun z => hc ⟨he, z⟩
        exact hN _ _ ⟨Ex.trans (Ex.trans e09 e10) (Ex.new ne2), r, s', p, le2, upd_same, rn, pn, rb, pb, hs', by rw [hq']; exact he.symm, nrs, fun z => npr z.symm, fun z => a3 z.symm, rfl⟩
      · walk_at "x"
        have nrs : r = s' := by
          by_cases z : r = s'
          · exact z
          · exact absurd ⟨he, z⟩ hd
        exact hN _ _ ⟨Ex.trans e09 e10, p, q', r, le, e10 _ _ h9, pn, rn, pb, rb, hq', by rw [hs']; exact nrs.symm, he, npr, a1, rfl⟩
    · rintro σ' H10 ⟨e10, a, b', c, le, hle, an, cn, ab, cb, hab, hcc, n12, n13, n23, rfl⟩
      refine x_seqI (fun σ' H' => Ex H H' ∧ ∃ a b' le, H' le = some (.lst ([a, b'].map vn)) ∧ FlipOk n st busy [a, b', c] [c, b', a] ∧ σ' = [some (.ref b), some (.ref sa), some (.ref ua), some (.ref lu), none, some (vn p), some (vn q'), some (vn r), some (vn s'), some (.bl turned), some (.ref le), some (vn c)]) (fun N hN => ?_) ?_
      · refine x_ifsE True True (fun Qt qt => ?_) (fun H11 e11 _ => ?_) (fun H11 e11 _ => ?_)
        · walk_at "x"
          exact qt _ _ (Ex.refl _) (fun _ => trivial) (fun _ => trivial)
        · walk_at "x"
          refine x_ixN (n := 1) (SqL.of (e11 _ _ hle)) rfl (by simp) ?_
          walk_at "x"
          refine x_ixN (n := 0) (SqL.of (e11 _ _ hle)) rfl (by simp) ?_
          walk_at "x"
          refine ⟨by show 2 ≤ sizeLine; decide, fun le2 ne2 => ?_⟩
          walk_at "x"
          have hinv := S.inv a an
          rw [hab] at hinv
          have fb := free_mate S B an ab
          rw [hab] at fb
          exact hN _ _ ⟨Ex.trans (Ex.trans e10 e11) (Ex.new ne2), b', a, le2, upd_same, flip_three S B fb.1 cn fb.2 cb hinv.2 hcc (fun z => n12 z.symm) n23 n13, rfl⟩
        · walk_at "x"
          exact hN _ _ ⟨Ex.trans e10 e11, a, b', le, e11 _ _ hle, flip_three S B an cn ab cb hab hcc n12 n13 n23, rfl⟩
      · rintro σ' H11 ⟨e11, a, b', le, hle, hf, rfl⟩
        refine x_ret ?_
        refine x_lll (us := [a, b', c].map vn) (vs := [b', a, c].map vn) (ws := [c, b', a].map vn) (by simp) (by simp) (by simp) (fun H' Q' e' q' => ?_) (fun H' Q' e' q' => ?_) (fun H' Q' e' q' => ?_) ?_
        · walk_at "x"
          refine x_ixN (n := 0) (SqL.of (e' _ _ hle)) rfl (by simp) ?_
          walk_at "x"
          refine x_ixN (n := 1) (SqL.of (e' _ _ hle)) rfl (by simp) ?_
          walk_at "x"
          exact q'
        · walk_at "x"
          refine x_ixN (n := 1) (SqL.of (e' _ _ hle)) rfl (by simp) ?_
          walk_at "x"
          refine x_ixN (n := 0) (SqL.of (e' _ _ hle)) rfl (by simp) ?_
          walk_at "x"
          exact q'
        · walk_at "x"
          refine x_ixN (n := 1) (SqL.of (e' _ _ hle)) rfl (by simp) ?_
          walk_at "x"
          refine x_ixN (n := 0) (SqL.of (e' _ _ hle)) rfl (by simp) ?_
          walk_at "x"
          exact q'
        · exact (q [a, b', c] [c, b', a] [b', a, c] hf (by simp)).ex e11
end
end Pm
end
section
set_option Elab.async false
set_option maxRecDepth 100000
set_option maxHeartbeats 4000000
set_option linter.all false
namespace Pm
open PySem L2
local macro_rules | `(tactic| walk_at "ex") => `(tactic| first | exact Ex.refl _ | assumption | exact Ex.new (by assumption) | exact Ex.trans (by walk_at "ex") (by assumption) | exact Ex.trans (by walk_at "ex") (Ex.new (by assumption)) | exact Ex.mut (by walk_at "ex") (by first | assumption | exact Ex.none (by walk_at "ex") (by assumption)))
local macro_rules | `(tactic| walk_at "sq") => `(tactic| first | assumption | exact Ex.l (by walk_at "ex") (by assumption) | exact Ex.t (by walk_at "ex") (by assumption) | exact SqL.of (by walk_at "hp") | exact SqT.of (by walk_at "hp") | exact Ex.l (by walk_at "ex") (LstA.sq (by assumption)) | exact Ex.t (by walk_at "ex") (TupA.sq (by assumption)))
local macro_rules | `(tactic| walk_at "hp") => `(tactic| first | assumption | exact upd_same | (refine (by walk_at "ex" : Ex _ _) _ _ ?_; assumption) | (refine (by walk_at "ex" : Ex _ _) _ _ ?_; exact upd_same))
local macro_rules | `(tactic| walk_at "x1") => `(tactic| first
  | (with_reducible refine x_seq ?_) | (with_reducible refine x_asg ?_) | ((with_reducible refine x_name ?_); dsimp only [List.set_cons_succ, List.set_cons_zero])
  | (with_reducible refine x_ret ?_) | (with_reducible refine x_if ?_) | (with_reducible refine x_drop ?_) | (with_reducible refine x_next ?_)
  | ((with_reducible refine' x_var ?h ?_); (case h => rfl)) | (with_reducible refine x_c ?_) | (with_reducible refine x_op ?_) | (with_reducible refine x_un ?_)
  | (with_reducible refine x_I0 ?_) | ((with_reducible refine x_I ?h ?_); (case h => first | exact Or.inl (by omega) | exact Or.inr (by omega) | omega | (constructor <;> omega))) | (with_reducible refine x_U ?_)
  | ((with_reducible refine' x_eq ?h ?_); (case h => rfl)) | ((with_reducible refine' x_ne ?h ?_); (case h => rfl))
  | (with_reducible refine x_cb ?_) | (with_reducible refine x_call ?_) | (with_reducible refine x_nil ?_) | (with_reducible refine x_cons ?_)
  | (with_reducible refine x_test ?_) | (with_reducible refine x_tB ?_) | (with_reducible refine x_bl ?_) | (with_reducible refine x_or ?_) | (with_reducible refine x_and ?_) | (with_reducible refine x_not ?_)
  | (with_reducible refine x_ifE ?_) | (with_reducible refine x_lst ?_) | (with_reducible refine x_tup ?_)
  | (with_reducible refine x_bm ?_) | (with_reducible refine x_bmG ?_) | (with_reducible refine x_chain ?_) | (with_reducible refine x_orV ?_) | (with_reducible refine x_andV ?_) | (with_reducible refine x_notV ?_) | (with_reducible refine x_sub ?_) | (with_reducible refine x_star ?_) | (with_reducible refine x_sl ?_) | (with_reducible refine x_po ?_) | (with_reducible refine x_pn ?_))
local macro_rules | `(tactic| walk_at "y1") => `(tactic| first
  | (with_reducible refine x_seq ?_) | (with_reducible refine x_asg ?_) | ((with_reducible refine x_name ?_); dsimp only [List.set_cons_succ, List.set_cons_zero])
  | (with_reducible refine x_drop ?_) | (with_reducible refine x_next ?_)
  | ((with_reducible refine' x_var ?h ?_); (case h => rfl)) | (with_reducible refine x_c ?_) | (with_reducible refine x_op ?_) | (with_reducible refine x_un ?_)
  | (with_reducible refine x_I0 ?_) | ((with_reducible refine x_I ?h ?_); (case h => first | exact Or.inl (by omega) | exact Or.inr (by omega) | omega | (constructor <;> omega))) | (with_reducible refine x_U ?_)
  | ((with_reducible refine' x_eq ?h ?_); (case h => rfl)) | ((with_reducible refine' x_ne ?h ?_); (case h => rfl))
  | (with_reducible refine x_cb ?_) | (with_reducible refine x_call ?_) | (with_reducible refine x_nil ?_) | (with_reducible refine x_cons ?_)
  | (with_reducible refine x_test ?_) | (with_reducible refine x_tB ?_) | (with_reducible refine x_bl ?_) | (with_reducible refine x_or ?_) | (with_reducible refine x_and ?_) | (with_reducible refine x_not ?_)
  | (with_reducible refine x_ifE ?_) | (with_reducible refine x_lst ?_) | (with_reducible refine x_tup ?_)
  | (with_reducible refine x_bm ?_) | (with_reducible refine x_bmG ?_) | (with_reducible refine x_chain ?_) | (with_reducible refine x_orV ?_) | (with_reducible refine x_andV ?_) | (with_reducible refine x_notV ?_) | (with_reducible refine x_sub ?_) | (with_reducible refine x_star ?_) | (with_reducible refine x_sl ?_) | (with_reducible refine x_po ?_) | (with_reducible refine x_pn ?_))
local macro_rules | `(tactic| walk_at "xi") => `(tactic| first | (with_reducible refine iteT ?_) | (with_reducible refine iteF ?_))
local macro_rules | `(tactic| walk_at "x") => `(tactic| ((try dsimp only); repeat ((first | walk_at "x1" | walk_at "xi"); (try dsimp only))))
local macro_rules | `(tactic| walk_at "y") => `(tactic| ((try dsimp only); repeat ((first | walk_at "y1" | walk_at "xi"); (try dsimp only))))

section
variable {P : Program} {w : World} {K : PySem.W.Frag} {mg : Str → Option Value} {base : Heap}
/-- x != [] -/
theorem x_neNil {H : Hp} {a b : Addr} {us : List V} {ds : List PyData} {Q : VK} (h1 : SqL K H a us) (hd : DpAll K H us ds) (hs : SeqAt.shaped (.list ds) = true) (h2 : SqL K H b []) (q : Q (.bl (decide (ds ≠ []))) H) : rNeD K (.ref a) (.ref b) H Q := by
  refine ⟨.list ds, .list [], .lst h1 hd, .lst h2 .nil, hs, by decide, ?_⟩
  have : PyData.eqv (.list ds) (.list []) = decide (ds = []) := by
    cases ds with
    | nil => simp [PyData.eqv, PyData.eqvAll]
    | cons d t => simp [PyData.eqv, PyData.eqvAll]
  rw [this, ← decide_not]
  exact q
/-! _law_built: slots _law_bag_here 0, _law_size 1, _law_most 2, _law_start 3, _law_image 4, _law_half 5, _law_busy 6, _law_k 7, _law_flip_here 8, _law_written 9, _law_j 10; calls ['_law_state', '_law_take', '_law_flip']; built-ins ['list', 'range', 'len'] -/
abbrev s_law_built : Stmt := top 41
abbrev N_law_built : List Str := ["_law_bag_here", "_law_size", "_law_most", "_law_start", "_law_image", "_law_half", "_law_busy", "_law_k", "_law_flip_here", "_law_written", "_law_j"]
theorem sc_law_built : FnScope N_law_built ["_law_bag_here", "_law_size", "_law_most"] (defScope s_law_built) := ⟨rfl, rfl, rfl, by decide +kernel, rfl, by decide +kernel, by decide +kernel⟩

def spBuilt (K : PySem.W.Frag) : Sp := fun vs H Q _ => ∃ (b : Addr) (n : Nat), vs = [.ref b, vn n, vn 4] ∧ n ≤ 9 ∧ BagAt K H b ∧ ∀ l la lh us st busy im H', StOk n st → Built n st busy im us.length → Ex H H' → H la = none → H' l = some (.lst [.ref la, .ref lh]) → H' la = some (.lst (im.map vn)) → H' lh = some (.lst us) → us.length ≤ 100 → Q (.ref l) H'
set_option linter.unusedVariables false in
theorem ok_law_built {f : Addr} {fd : FuncData} (F : Fun K "_law_built" "_law_built" s_law_built f fd) (T : Txt mg) (D_law_take : Df P w K mg base "_law_take" 1 ["_law_bag_here", "_law_many"] (spTake K)) (D_law_state : Df P w K mg base "_law_state" 3 ["_law_bag_here", "_law_size"] (spState K)) (D_law_flip : Df P w K mg base "_law_flip" 2 ["_law_bag_here", "_law_base", "_law_busy"] (spFlip K)) :
    FnOk P w K mg base CX0 4 f fd ["_law_bag_here", "_law_size", "_law_most"] (spBuilt K) := by
  refine F.ok sc_law_built (fun vs H Q E h => ?_) (fun cdv A outer s H vs Q E hr h => ?_)
  · obtain ⟨_, _, rfl, _⟩ := h
    rfl
  · obtain ⟨b, n, rfl, hn, hb, q⟩ := h
    refine ⟨_, (pss_cons (ps_set (i := 3) sc_law_built.nd rfl (by first | exact Or.inl rfl | exact Or.inr rfl) (pe_callD D_law_state (hr.mono (by decide)) (by rfl) (pa_cons (pv 0) (pa_cons (pv 1) pa_nil))))
  (pss_cons (ps_set (i := 4) sc_law_built.nd rfl (by first | exact Or.inl rfl | exact Or.inr rfl) (pe_callTy call_list_of (by rfl) T.b_list (by decide +kernel) (pa_cons (pv 3) pa_nil)))
  (pss_cons (ps_set (i := 5) sc_law_built.nd rfl (by first | exact Or.inl rfl | exact Or.inr rfl) (pe_lst pa_nil))
  (pss_cons (ps_set (i := 6) sc_law_built.nd rfl (by first | exact Or.inl rfl | exact Or.inr rfl) (pe_lst pa_nil))
  (pss_cons (ps_for PassesOwn.never rfl (pi_range1 (by rfl) T.b_range (pa_cons (pe_callD D_law_take (hr.mono (by decide)) (by rfl) (pa_cons (pv 0) (pa_cons (pe_op op_add (pv 2) pe_int) pa_nil))) pa_nil)) (pg_name (i := 7) sc_law_built.nd rfl (by first | exact Or.inl rfl | exact Or.inr rfl)) (pss_cons (ps_set (i := 8) sc_law_built.nd rfl (by first | exact Or.inl rfl | exact Or.inr rfl) (pe_callD D_law_flip (hr.mono (by decide)) (by rfl) (pa_cons (pv 0) (pa_cons (pv 3) (pa_cons (pv 6) pa_nil)))))
  (pss_one (ps_if (pt_cmpR (op_neD hr.units) (pv 8) (pe_lst pa_nil) (nomark _)) (pss_cons (ps_set (i := 6) sc_law_built.nd rfl (by first | exact Or.inl rfl | exact Or.inr rfl) (pe_op op_cat (pv 6) (pe_ix ix_list (pv 8) pe_int (fun _ _ => rfl))))
  (pss_cons (ps_set (i := 9) sc_law_built.nd rfl (by first | exact Or.inl rfl | exact Or.inr rfl) pe_int)
  (pss_cons (ps_for PassesOwn.never rfl (pi_range1 (by rfl) T.b_range (pa_cons (pe_callB call_len_seq (by rfl) T.b_len (by decide +kernel) (pa_cons (pe_ix ix_list (pv 8) pe_int (fun _ _ => rfl)) pa_nil)) pa_nil)) (pg_name (i := 10) sc_law_built.nd rfl (by first | exact Or.inl rfl | exact Or.inr rfl)) (pss_one (ps_if (pt_cmpR op_eq (pe_callD D_law_take (hr.mono (by decide)) (by rfl) (pa_cons (pv 0) (pa_cons pe_int pa_nil))) pe_int (nomark _)) (pss_cons (ps_asg (pe_ix ix_list (pe_ix ix_list (pv 8) pe_int (fun _ _ => rfl)) (pv 10) (fun _ _ => rfl)) (pg_sub (pv 4) (pe_ix ix_list (pe_ix ix_list (pv 8) pe_int (fun _ _ => rfl)) (pv 10) (fun _ _ => rfl)) set_list))
  (pss_one (ps_set (i := 9) sc_law_built.nd rfl (by first | exact Or.inl rfl | exact Or.inr rfl) (pe_op op_add (pv 9) pe_int)))) pss_nil)))
  (pss_one (ps_if (pt_chain op_lt op_lt pe_int (pv 9) (pe_callB call_len_seq (by rfl) T.b_len (by decide +kernel) (pa_cons (pe_ix ix_list (pv 8) pe_int (fun _ _ => rfl)) pa_nil))) (pss_one (ps_expr (pe_bm PySem.F.plainAttrs_list PySem.F.slot_list_append PySem.F.type_list_append mt_append (pv 5) (pa_cons (pv 8) pa_nil)))) pss_nil))))) pss_nil))))
  (pss_one (ps_ret (pe_lst (pa_cons (pv 4) (pa_cons (pv 5) pa_nil)))))))))), ?_⟩
    refine x_start (σ := [some _, some _, some _, none, none, none, none, none, none, none, none]) rfl ?_
    walk_at "x"
    refine ⟨b, n, rfl, hn, hb, fun st S ls H1 e1 n1 h1 => ?_⟩
    walk_at "x"
    refine ⟨ls, _, rfl, .inl (SqL.of h1), fun la na => ?_⟩
    have sl := S.len
    walk_at "x"
    refine ⟨by decide, fun lh nh => ?_⟩
    walk_at "x"
    refine ⟨by decide, fun lb nb => ?_⟩
    have x1 := Ex.new (o := .lst (st.map vn)) na
    have x2 := Ex.new (o := .lst []) nh
    have x3 := Ex.new (o := .lst []) nb
    have na0 := e1.none na
    have nh0 := e1.none (x1.none nh)
    have nb0 := e1.none (x1.none (x2.none nb))
    have d1 : ls ≠ la := fun z => by rw [← z, h1] at na; cases na
    have d2 : ls ≠ lh := fun z => by rw [← z, x1 _ _ h1] at nh; cases nh
    have d3 : la ≠ lh := fun z => by rw [← z, upd_same] at nh; cases nh
    have d4 : lb ≠ la := fun z => by
      have := x2 la _ upd_same
      rw [z, this] at nb
      cases nb
    have d5 : lb ≠ lh := fun z => by rw [z, upd_same] at nb; cases nb
    have e4 := Ex.trans (Ex.trans (Ex.trans e1 x1) x2) x3
    have hs4 := x3 _ _ (x2 _ _ (x1 _ _ h1))
    have ha4 := x3 _ _ (x2 la _ upd_same)
    have hh4 := x3 lh _ upd_same
    have hb4 : upd (upd (upd H1 la (.lst (st.map vn))) lh (.lst [])) lb (.lst []) lb = some (.lst (([] : List Nat).map vn)) := upd_same
    generalize upd (upd (upd H1 la (.lst (st.map vn))) lh (.lst [])) lb (.lst []) = H4 at e4 hs4 ha4 hh4 hb4 ⊢
    walk_at "x"
    refine x_forR1 ?_
    walk_at "x"
    refine ⟨b, 5, rfl, by decide, by decide, hb.ex e4, fun cnt hcnt => ?_⟩
    walk_at "x"
    refine ⟨_, rfl, by omega, by omega, ?_⟩
    rw [Int.toNat_natCast]
    refine for_range (fun i σ' H' => ∃ busy im us lb, Built n st busy im us.length ∧ us.length ≤ i ∧ Ex H H' ∧ H' ls = some (.lst (st.map vn)) ∧ H' la = some (.lst (im.map vn)) ∧ H' lh = some (.lst us) ∧ H' lb = some (.lst (busy.map vn)) ∧ lb ≠ la ∧ lb ≠ lh ∧
        ∃ y7 y8 y9 y10, σ' = [some (.ref b), some (vn n), some (vn 4), some (.ref ls), some (.ref la), some (.ref lh), some (.ref lb), y7, y8, y9, y10])
      ⟨[], st, [], lb, .start, Nat.le_refl _, e4, hs4, ha4, hh4, hb4, d4, d5, _, _, _, _, rfl⟩ ?_ ?_
    · rintro i σ' H5 hi ⟨busy, im, us, lb, Bt, ul, e5, hs5, ha5, hh5, hb5, d4, d5, y7, y8, y9, y10, rfl⟩
      obtain ⟨Bo, Bnd, iml⟩ := built_ok S Bt
      have bl : busy.length ≤ n := nodup_len Bnd fun r hr => (Bo r hr).1
      walk_at "x"
      refine ⟨b, ls, lb, n, st, busy, rfl, hb.ex e5, SqL.of hs5, SqL.of hb5, hn, S, Bo, fun l6 H6 e6 n6 h6 => ?_, fun R new old FO rl4 l l0 l1 l2 H6 e6 n6 m0 m1 m2 h6 h60 h61 h62 => ?_⟩
      · walk_at "x"
        refine ⟨by decide, fun p np => ?_⟩
        walk_at "x"
        have x6 := Ex.new (o := .lst []) np
        refine x_neNil (us := []) (ds := []) (SqL.of (x6 _ _ h6)) .nil (by decide) (SqL.of upd_same) ?_
        walk_at "x"
        refine dec_f (by simp) ?_
        have e7 := Ex.trans e6 x6
        walk_at "x"
        exact ⟨busy, im, us, lb, Bt, by omega, Ex.trans e5 e7, e7 _ _ hs5, e7 _ _ ha5, e7 _ _ hh5, e7 _ _ hb5, d4, d5, _, _, _, _, rfl⟩
      · walk_at "x"
        refine ⟨by decide, fun p np => ?_⟩
        walk_at "x"
        have x6 := Ex.new (o := .lst []) np
        have e7 := Ex.trans e6 x6
        replace h6 := x6 _ _ h6
        replace h60 := x6 _ _ h60
        replace h62 := x6 _ _ h62
        replace h61 := x6 _ _ h61
        have hp : upd H6 p (.lst []) p = some (.lst []) := upd_same
        generalize upd H6 p (.lst []) = H7 at e7 h6 h60 h61 h62 hp ⊢
        refine x_neNil (us := [.ref l0, .ref l1, .ref l2]) (ds := [eL R, eL old, eL new]) (SqL.of h6) (.cons (dpL (SqL.of h60)) (.cons (dpL (SqL.of h61)) (.cons (dpL (SqL.of h62)) .nil))) (shapedLL [R, old, new]) (SqL.of hp) ?_
        walk_at "x"
        refine dec_t (by simp) ?_
        obtain ⟨_, nl, r2⟩ := flip_lens FO
        walk_at "x"
        have old : ∀ {a : Addr} {vs : List V}, H5 a = some (.lst vs) → a ≠ l ∧ a ≠ l0 ∧ a ≠ l2 := fun {a vs} ha => by
          refine ⟨fun z => ?_, fun z => ?_, fun z => ?_⟩
          · rw [z, n6] at ha; cases ha
          · rw [z, m0] at ha; cases ha
          · rw [z, m2] at ha; cases ha
        refine x_ixL (SqL.of h6) (at_n (n := 0) rfl rfl) ?_
        refine ⟨lb, l0, _, _, rfl, rfl, e7 _ _ hb5, h60, by rw [List.length_map, List.length_map, sizeLine_eq]; omega, fun lb2 nb2 => ?_⟩
        rw [← List.map_append]
        have x8 := Ex.new (o := .lst ((busy ++ R).map vn)) nb2
        have h8b : upd H7 lb2 (.lst ((busy ++ R).map vn)) lb2 = some (.lst ((busy ++ R).map vn)) := upd_same
        have f1 : lb2 ≠ la := fun z => by rw [z, e7 _ _ ha5] at nb2; cases nb2
        have f2 : lb2 ≠ lh := fun z => by rw [z, e7 _ _ hh5] at nb2; cases nb2
        have e58 := Ex.trans e7 x8
        have e8 := Ex.trans e5 e58
        have hs8 := e58 _ _ hs5
        have ha8 := e58 _ _ ha5
        have hh8 := e58 _ _ hh5
        have h68 := x8 _ _ h6
        have h608 := x8 _ _ h60
        have h628 := x8 _ _ h62
        generalize upd H7 lb2 (.lst ((busy ++ R).map vn)) = H8 at x8 h8b e58 e8 hs8 ha8 hh8 h68 h608 h628 ⊢
        walk_at "x"
        refine x_forR1 ?_
        walk_at "x"
        refine x_ixL (SqL.of h68) (at_n (n := 0) rfl rfl) ?_
        walk_at "x"
        refine ⟨l0, _, rfl, .inl (SqL.of h608), ?_⟩
        rw [List.length_map]
        walk_at "x"
        refine ⟨_, rfl, by omega, by omega, ?_⟩
        rw [Int.toNat_natCast]
        refine for_range (fun j σ' H' => ∃ f : Nat → Bool, Ex H H' ∧ H' ls = some (.lst (st.map vn)) ∧ H' la = some (.lst ((amask R new f j im).map vn)) ∧ H' lh = some (.lst us) ∧ H' lb2 = some (.lst ((busy ++ R).map vn)) ∧ H' l = some (.lst [.ref l0, .ref l1, .ref l2]) ∧ H' l0 = some (.lst (R.map vn)) ∧ H' l2 = some (.lst (new.map vn)) ∧
            ∃ y7 y10, σ' = [some (.ref b), some (vn n), some (vn 4), some (.ref ls), some (.ref la), some (.ref lh), some (.ref lb2), y7, some (.ref l), some (vn (wmask f j)), y10])
          ⟨fun _ => false, e8, hs8, ha8, hh8, h8b, h68, h608, h628, _, _, rfl⟩ ?_ ?_
        · rintro j σ' H9 hj ⟨f, e9, hs9, ha9, hh9, hb9, hl9, h09, h29, y7, y10, rfl⟩
          walk_at "x"
          refine ⟨b, 2, rfl, by decide, by decide, hb.ex e9, fun k hk => ?_⟩
          walk_at "x"
          have set1 : ∀ v : Bool, ∀ x, x < j → (fun x => if x = j then v else f x) x = f x := fun v x hx => by
            show (if x = j then v else f x) = f x
            rw [if_neg (by omega)]
          have a1 : ∀ v : Bool, amask R new (fun x => if x = j then v else f x) j im = amask R new f j im := fun v => amask_congr (set1 v)
          have w1 : ∀ v : Bool, wmask (fun x => if x = j then v else f x) j = wmask f j := fun v => wmask_congr (set1 v)
          refine x_decI (fun h1 => ?_) (fun h1 => ?_)
          · walk_at "x"
            refine x_ixL (SqL.of hl9) (at_n (n := 2) rfl rfl) ?_
            walk_at "x"
            refine x_ixN (n := j) (SqL.of h29) (by omega) (by omega) ?_
            walk_at "x"
            refine x_ixL (SqL.of hl9) (at_n (n := 0) rfl rfl) ?_
            walk_at "x"
            refine x_ixN (n := j) (SqL.of h09) (by omega) hj ?_
            refine x_setN ha9 rfl (by rw [amask_len]; have := (FO.free _ (gt_mem hj)).1; omega) ?_
            walk_at "x"
            refine ⟨fun x => if x = j then true else f x, Ex.mut e9 na0, ?_, ?_, ?_, ?_, ?_, ?_, ?_, y7, some (.int (0 + (j : Nat))), ?_⟩
            · rw [upd_ne d1]; exact hs9
            · rw [upd_same]
              show _ = some (HO.lst ((if (if j = j then true else f j) = true then (amask R new (fun x => if x = j then true else f x) j im).set (gt R j) (gt new j) else amask R new (fun x => if x = j then true else f x) j im).map vn))
              rw [if_pos rfl, if_pos rfl, a1]
            · rw [upd_ne d3.symm]; exact hh9
            · rw [upd_ne f1]; exact hb9
            · rw [upd_ne (old ha5).1.symm]; exact hl9
            · rw [upd_ne (old ha5).2.1.symm]; exact h09
            · rw [upd_ne (old ha5).2.2.symm]; exact h29
            · have : wmask (fun x => if x = j then true else f x) (j + 1) = wmask f j + 1 := by
                show (if (if j = j then true else f j) = true then wmask (fun x => if x = j then true else f x) j + 1 else wmask (fun x => if x = j then true else f x) j) = _
                rw [if_pos rfl, if_pos rfl, w1]
              rw [this]
              rfl
          · walk_at "x"
            refine ⟨fun x => if x = j then false else f x, e9, hs9, ?_, hh9, hb9, hl9, h09, h29, y7, some (.int (0 + (j : Nat))), ?_⟩
            · show _ = some (HO.lst ((if (if j = j then false else f j) = true then (amask R new (fun x => if x = j then false else f x) j im).set (gt R j) (gt new j) else amask R new (fun x => if x = j then false else f x) j im).map vn))
              rw [if_pos rfl, if_neg Bool.false_ne_true, a1]
              exact ha9
            · have : wmask (fun x => if x = j then false else f x) (j + 1) = wmask f j := by
                show (if (if j = j then false else f j) = true then wmask (fun x => if x = j then false else f x) j + 1 else wmask (fun x => if x = j then false else f x) j) = _
                rw [if_pos rfl, if_neg Bool.false_ne_true, w1]
              rw [this]
        · rintro σ' H9 ⟨f, e9, hs9, ha9, hh9, hb9, hl9, h09, h29, y7, y10, rfl⟩
          have Bt2 := Built.flip (f := f) Bt FO
          dsimp only
          refine x_ifsE (0 < wmask f R.length ∧ wmask f R.length < R.length) (¬ (0 < wmask f R.length ∧ wmask f R.length < R.length)) (fun Qt qt => ?_) (fun H10 e10 hc => ?_) (fun H10 e10 hc => ?_)
          · walk_at "x"
            refine x_dec (p := (0 : Int) < (wmask f R.length : Nat)) (fun h1 => ?_) (fun h1 => ?_)
            · walk_at "x"
              refine x_ixL (SqL.of hl9) (at_n (n := 0) rfl rfl) ?_
              walk_at "x"
              refine ⟨l0, _, rfl, .inl (SqL.of h09), ?_⟩
              rw [List.length_map]
              walk_at "x"
              refine qt _ _ (Ex.refl _) (fun z => ?_) (fun z => ?_)
              · have := of_decide_eq_true z
                omega
              · have := of_decide_eq_false z
                omega
            · walk_at "x"
              exact qt _ _ (Ex.refl _) (fun z => by cases z) (fun _ => by omega)
          · walk_at "x"
            refine ⟨.inl ⟨rfl, _, SqL.of (e10 _ _ hh9)⟩, ?_⟩
            walk_at "x"
            rw [if_pos hc] at Bt2
            refine x_append (e10 _ _ hh9) (by rw [sizeLine_eq]; omega) ?_
            refine ⟨busy ++ R, amask R new f R.length im, us ++ [.ref l], lb2, by rw [List.length_append]; exact Bt2, by rw [List.length_append]; exact Nat.succ_le_succ ul, Ex.mut (Ex.trans e9 e10) nh0, ?_, ?_, upd_same, ?_, f1, f2, _, _, _, _, rfl⟩
            · rw [upd_ne d2]; exact e10 _ _ hs9
            · rw [upd_ne d3]; exact e10 _ _ ha9
            · rw [upd_ne f2]; exact e10 _ _ hb9
          · walk_at "x"
            rw [if_neg hc] at Bt2
            exact ⟨busy ++ R, amask R new f R.length im, us, lb2, Bt2, by omega, Ex.trans e9 e10, e10 _ _ hs9, e10 _ _ ha9, e10 _ _ hh9, e10 _ _ hb9, f1, f2, _, _, _, _, rfl⟩
    · rintro σ' H5 ⟨busy, im, us, lb, Bt, ul, e5, hs5, ha5, hh5, hb5, d4, d5, y7, y8, y9, y10, rfl⟩
      walk_at "x"
      refine ⟨by show 2 ≤ sizeLine; decide, fun l nl => ?_⟩
      exact q l la lh us st busy im _ S Bt (Ex.trans e5 (Ex.new nl)) na0 upd_same ((Ex.new nl) _ _ ha5) ((Ex.new nl) _ _ hh5) (by omega)
end
end Pm
end
section
set_option Elab.async false
set_option maxRecDepth 100000
set_option maxHeartbeats 4000000
set_option linter.all false
namespace Pm
open PySem L2
local macro_rules | `(tactic| walk_at "ex") => `(tactic| first | exact Ex.refl _ | assumption | exact Ex.new (by assumption) | exact Ex.trans (by walk_at "ex") (by assumption) | exact Ex.trans (by walk_at "ex") (Ex.new (by assumption)) | exact Ex.mut (by walk_at "ex") (by first | assumption | exact Ex.none (by walk_at "ex") (by assumption)))
local macro_rules | `(tactic| walk_at "sq") => `(tactic| first | assumption | exact Ex.l (by walk_at "ex") (by assumption) | exact Ex.t (by walk_at "ex") (by assumption) | exact SqL.of (by walk_at "hp") | exact SqT.of (by walk_at "hp") | exact Ex.l (by walk_at "ex") (LstA.sq (by assumption)) | exact Ex.t (by walk_at "ex") (TupA.sq (by assumption)))
local macro_rules | `(tactic| walk_at "hp") => `(tactic| first | assumption | exact upd_same | (refine (by walk_at "ex" : Ex _ _) _ _ ?_; assumption) | (refine (by walk_at "ex" : Ex _ _) _ _ ?_; exact upd_same))
local macro_rules | `(tactic| walk_at "x1") => `(tactic| first
  | (with_reducible refine x_seq ?_) | (with_reducible refine x_asg ?_) | ((with_reducible refine x_name ?_); dsimp only [List.set_cons_succ, List.set_cons_zero])
  | (with_reducible refine x_ret ?_) | (with_reducible refine x_if ?_) | (with_reducible refine x_drop ?_) | (with_reducible refine x_next ?_)
  | ((with_reducible refine' x_var ?h ?_); (case h => rfl)) | (with_reducible refine x_c ?_) | (with_reducible refine x_op ?_) | (with_reducible refine x_un ?_)
  | (with_reducible refine x_I0 ?_) | ((with_reducible refine x_I ?h ?_); (case h => first | exact Or.inl (by omega) | exact Or.inr (by omega) | omega | (constructor <;> omega))) | (with_reducible refine x_U ?_)
  | ((with_reducible refine' x_eq ?h ?_); (case h => rfl)) | ((with_reducible refine' x_ne ?h ?_); (case h => rfl))
  | (with_reducible refine x_cb ?_) | (with_reducible refine x_call ?_) | (with_reducible refine x_nil ?_) | (with_reducible refine x_cons ?_)
  | (with_reducible refine x_test ?_) | (with_reducible refine x_tB ?_) | (with_reducible refine x_bl ?_) | (with_reducible refine x_or ?_) | (with_reducible refine x_and ?_) | (with_reducible refine x_not ?_)
  | (with_reducible refine x_ifE ?_) | (with_reducible refine x_lst ?_) | (with_reducible refine x_tup ?_)
  | (with_reducible refine x_bm ?_) | (with_reducible refine x_bmG ?_) | (with_reducible refine x_chain ?_) | (with_reducible refine x_orV ?_) | (with_reducible refine x_andV ?_) | (with_reducible refine x_notV ?_) | (with_reducible refine x_sub ?_) | (with_reducible refine x_star ?_) | (with_reducible refine x_sl ?_) | (with_reducible refine x_po ?_) | (with_reducible refine x_pn ?_))
local macro_rules | `(tactic| walk_at "y1") => `(tactic| first
  | (with_reducible refine x_seq ?_) | (with_reducible refine x_asg ?_) | ((with_reducible refine x_name ?_); dsimp only [List.set_cons_succ, List.set_cons_zero])
  | (with_reducible refine x_drop ?_) | (with_reducible refine x_next ?_)
  | ((with_reducible refine' x_var ?h ?_); (case h => rfl)) | (with_reducible refine x_c ?_) | (with_reducible refine x_op ?_) | (with_reducible refine x_un ?_)
  | (with_reducible refine x_I0 ?_) | ((with_reducible refine x_I ?h ?_); (case h => first | exact Or.inl (by omega) | exact Or.inr (by omega) | omega | (constructor <;> omega))) | (with_reducible refine x_U ?_)
  | ((with_reducible refine' x_eq ?h ?_); (case h => rfl)) | ((with_reducible refine' x_ne ?h ?_); (case h => rfl))
  | (with_reducible refine x_cb ?_) | (with_reducible refine x_call ?_) | (with_reducible refine x_nil ?_) | (with_reducible refine x_cons ?_)
  | (with_reducible refine x_test ?_) | (with_reducible refine x_tB ?_) | (with_reducible refine x_bl ?_) | (with_reducible refine x_or ?_) | (with_reducible refine x_and ?_) | (with_reducible refine x_not ?_)
  | (with_reducible refine x_ifE ?_) | (with_reducible refine x_lst ?_) | (with_reducible refine x_tup ?_)
  | (with_reducible refine x_bm ?_) | (with_reducible refine x_bmG ?_) | (with_reducible refine x_chain ?_) | (with_reducible refine x_orV ?_) | (with_reducible refine x_andV ?_) | (with_reducible refine x_notV ?_) | (with_reducible refine x_sub ?_) | (with_reducible refine x_star ?_) | (with_reducible refine x_sl ?_) | (with_reducible refine x_po ?_) | (with_reducible refine x_pn ?_))
local macro_rules | `(tactic| walk_at "xi") => `(tactic| first | (with_reducible refine iteT ?_) | (with_reducible refine iteF ?_) | (with_reducible refine x_notT ?_) | (with_reducible refine x_notF ?_))
local macro_rules | `(tactic| walk_at "x") => `(tactic| ((try dsimp only); repeat ((first | walk_at "x1" | walk_at "xi"); (try dsimp only))))
local macro_rules | `(tactic| walk_at "y") => `(tactic| ((try dsimp only); repeat ((first | walk_at "y1" | walk_at "xi"); (try dsimp only))))

theorem pe_tyN {X : Cx} {x : Str} {n : String} {pos : Pos} (hg : Gl X x) (hm : X.mg x = none) (hv : bootBuiltins x = some (.type n)) (hn : x ≠ "__name__" := by decide) (hd : (x == ("__debug__" : Str)) = false := by decide) : PE X (.Name x pos) (tC (.ty n)) := ⟨fun pins s σ H Q I h => ld_blt I hg hm hv ⟨.ty n, H, I, rfl, h⟩ hn hd⟩
section
variable {P : Program} {w : World} {K : PySem.W.Frag} {mg : Str → Option Value} {base : Heap}
theorem x_isi {H : Hp} {Q : VK} {x : V} {a c : String} {r : Bool} (h : TyX K H x (.type a)) (hk : kitB a c = some r) (q : Q (.bl r) H) : rIsi K [x, .ty c] H Q := ⟨x, .ty c, .type a, .type c, r, rfl, .ty c, h, kit_ty hk, q⟩
/-! _law_same: slots _law_told 0, _law_due 1, _law_x 2; calls []; built-ins ['list', 'isinstance', 'int', 'bool'] -/
abbrev s_law_same : Stmt := top 42
abbrev N_law_same : List Str := ["_law_told", "_law_due", "_law_x"]
theorem sc_law_same : FnScope N_law_same ["_law_told", "_law_due"] (defScope s_law_same) := ⟨rfl, rfl, rfl, by decide +kernel, rfl, by decide +kernel, by decide +kernel⟩

def spSame (K : PySem.W.Frag) : Sp := fun vs H Q _ => ∃ (a b : Addr) (xs ys : List Nat), vs = [.ref a, .ref b] ∧ H a = some (.lst (xs.map vn)) ∧ SqL K H b (ys.map vn) ∧ ∀ H', Ex H H' → Q (.bl (decide (xs = ys))) H'
theorem ok_law_same {f : Addr} {fd : FuncData} (F : Fun K "_law_same" "_law_same" s_law_same f fd) (T : Txt mg) : FnOk P w K mg base CX0 1 f fd ["_law_told", "_law_due"] (spSame K) := by
  refine F.ok sc_law_same (fun vs H Q E h => ?_) (fun cdv A outer s H vs Q E hr h => ?_)
  · obtain ⟨_, _, _, _, rfl, _⟩ := h
    rfl
  · obtain ⟨a, b, xs, ys, rfl, ha, hb, q⟩ := h
    refine ⟨_, (pss_cons (ps_if (pt_not (pt_val (pe_callB call_isi (by rfl) T.b_isinstance (by decide +kernel) (pa_cons (pv 0) (pa_cons (pe_tyN (n := "list") (by rfl) T.b_list (by decide +kernel)) pa_nil))))) (pss_one (ps_ret pe_bl)) pss_nil)
  (pss_cons (ps_for PassesOwn.never rfl (pi_list (pv 0)) (pg_name (i := 2) sc_law_same.nd rfl (by first | exact Or.inl rfl | exact Or.inr rfl)) (pss_one (ps_if (PW.pt (pw_or (pt_not (pt_val (pe_callB call_isi (by rfl) T.b_isinstance (by decide +kernel) (pa_cons (pv 2) (pa_cons (pe_tyN (n := "int") (by rfl) T.b_int (by decide +kernel)) pa_nil))))) (pw_or1 (pt_val (pe_callB call_isi (by rfl) T.b_isinstance (by decide +kernel) (pa_cons (pv 2) (pa_cons (pe_tyN (n := "bool") (by rfl) T.b_bool (by decide +kernel)) pa_nil))))))) (pss_one (ps_ret pe_bl)) pss_nil)))
  (pss_one (ps_ret (pe_cmpR (op_eqD hr.units) (pv 0) (pv 1) (nomark _)))))), ?_⟩
    refine x_start (σ := [some _, some _, none]) rfl ?_
    walk_at "x"
    refine x_isi (.base (.lst ha)) (r := true) (by decide) ?_
    walk_at "x"
    refine x_forL ?_
    walk_at "x"
    refine ⟨a, rfl, ⟨_, SqL.of ha⟩, ?_⟩
    refine loopL_foldi (xs := xs) (List.length_map _) (fun _ _ => ()) (fun i _ σ' H' => H' = H ∧ ∃ y, σ' = [some (.ref a), some (.ref b), y]) () ⟨rfl, _, rfl⟩ (fun i s σ' H' h => by rw [h.1]; exact SqL.of ha) ?_ ?_
    · rintro s i x u σ' H' hx hu ⟨rfl, y, rfl⟩
      cases vn_of hx hu
      walk_at "x"
      refine x_isi (.base (.int _)) (r := true) (by decide) ?_
      walk_at "x"
      refine x_isi (.base (.int _)) (r := false) (by decide) ?_
      walk_at "x"
      exact ⟨rfl, _, rfl⟩
    · rintro σ' H' ⟨rfl, y, rfl⟩
      walk_at "x"
      refine x_eqL (SqL.of ha) hb ?_
      exact q _ (Ex.refl _)
/-! _law_truth: slots _law_told 0, _law_due 1; calls []; built-ins ['bool', 'isinstance'] -/
abbrev s_law_truth : Stmt := top 43
abbrev N_law_truth : List Str := ["_law_told", "_law_due"]
theorem sc_law_truth : FnScope N_law_truth ["_law_told", "_law_due"] (defScope s_law_truth) := ⟨rfl, rfl, rfl, by decide +kernel, rfl, by decide +kernel, by decide +kernel⟩

def spTruth (K : PySem.W.Frag) : Sp := fun vs H Q _ => ∃ (a b : Bool), vs = [.bl a, .bl b] ∧ Q (.bl (decide (a = b))) H
theorem ok_law_truth {f : Addr} {fd : FuncData} (F : Fun K "_law_truth" "_law_truth" s_law_truth f fd) (T : Txt mg) : FnOk P w K mg base CX0 1 f fd ["_law_told", "_law_due"] (spTruth K) := by
  refine F.ok sc_law_truth (fun vs H Q E h => ?_) (fun cdv A outer s H vs Q E hr h => ?_)
  · obtain ⟨_, _, rfl, _⟩ := h
    rfl
  · obtain ⟨a, b, rfl, q⟩ := h
    refine ⟨_, (pss_one (ps_ret (pe_and (pe_callB call_isi (by rfl) T.b_isinstance (by decide +kernel) (pa_cons (pv 0) (pa_cons (pe_tyN (n := "bool") (by rfl) T.b_bool (by decide +kernel)) pa_nil))) (pe_one (pe_cmpR op_eq (pv 0) (pv 1) (nomark _)))))), ?_⟩
    refine x_start (σ := [some _, some _]) rfl ?_
    walk_at "x"
    refine x_isi (.base (.bl _)) (r := true) (by decide) ?_
    walk_at "x"
    have e : decide (V.bl a = V.bl b) = decide (a = b) := decide_eq_decide.mpr ⟨fun e => by injection e, fun e => by rw [e]⟩
    first | rw [e] | skip
    exact q
/-! _law_total: slots _law_size 0, _law_row 1, _law_m 2, _law_value 3; calls []; built-ins ['range'] -/
abbrev s_law_total : Stmt := top 46
abbrev N_law_total : List Str := ["_law_size", "_law_row", "_law_m", "_law_value"]
theorem sc_law_total : FnScope N_law_total ["_law_size"] (defScope s_law_total) := ⟨rfl, rfl, rfl, by decide +kernel, rfl, by decide +kernel, by decide +kernel⟩

def spTotal (K : PySem.W.Frag) : Sp := fun vs H Q _ => ∃ n : Nat, vs = [vn n] ∧ n ≤ 9 ∧ ∀ H', Ex H H' → Q (vn (lawTotal n)) H'
def totRow (row : List Nat) (m : Nat) : List Nat := row ++ [gt row m + (if 0 < m then 3 * m * gt row (m - 1) else 0) + (if 1 < m then 6 * m * (m - 1) * gt row (m - 2) else 0) + (if 2 < m then 7 * m * (m - 1) * (m - 2) * gt row (m - 3) else 0)]
theorem m_small : ∀ m, m ≤ 9 → 6 * m * (m - 1) ≤ 1000 ∧ 7 * m * (m - 1) ≤ 1000 ∧ 7 * m * (m - 1) * (m - 2) ≤ 10000 := by decide
theorem ok_law_total {f : Addr} {fd : FuncData} (F : Fun K "_law_total" "_law_total" s_law_total f fd) (T : Txt mg) : FnOk P w K mg base CX0 1 f fd ["_law_size"] (spTotal K) := by
  refine F.ok sc_law_total (fun vs H Q E h => ?_) (fun cdv A outer s H vs Q E hr h => ?_)
  · obtain ⟨_, rfl, _⟩ := h
    rfl
  · obtain ⟨n, rfl, hn, q⟩ := h
    refine ⟨_, (pss_cons (ps_set (i := 1) sc_law_total.nd rfl (by first | exact Or.inl rfl | exact Or.inr rfl) (pe_lst (pa_cons pe_int pa_nil)))
  (pss_cons (ps_for PassesOwn.never rfl (pi_range1 (by rfl) T.b_range (pa_cons (pv 0) pa_nil)) (pg_name (i := 2) sc_law_total.nd rfl (by first | exact Or.inl rfl | exact Or.inr rfl)) (pss_cons (ps_set (i := 3) sc_law_total.nd rfl (by first | exact Or.inl rfl | exact Or.inr rfl) (pe_ix ix_list (pv 1) (pv 2) (fun _ _ => rfl)))
  (pss_cons (ps_if (pt_cmpR op_gt (pv 2) pe_int (nomark _)) (pss_one (ps_set (i := 3) sc_law_total.nd rfl (by first | exact Or.inl rfl | exact Or.inr rfl) (pe_op op_add (pv 3) (pe_op op_mul (pe_op op_mul pe_int (pv 2)) (pe_ix ix_list (pv 1) (pe_op op_sub (pv 2) pe_int) (fun _ _ => rfl)))))) pss_nil)
  (pss_cons (ps_if (pt_cmpR op_gt (pv 2) pe_int (nomark _)) (pss_one (ps_set (i := 3) sc_law_total.nd rfl (by first | exact Or.inl rfl | exact Or.inr rfl) (pe_op op_add (pv 3) (pe_op op_mul (pe_op op_mul (pe_op op_mul pe_int (pv 2)) (pe_op op_sub (pv 2) pe_int)) (pe_ix ix_list (pv 1) (pe_op op_sub (pv 2) pe_int) (fun _ _ => rfl)))))) pss_nil)
  (pss_cons (ps_if (pt_cmpR op_gt (pv 2) pe_int (nomark _)) (pss_one (ps_set (i := 3) sc_law_total.nd rfl (by first | exact Or.inl rfl | exact Or.inr rfl) (pe_op op_add (pv 3) (pe_op op_mul (pe_op op_mul (pe_op op_mul (pe_op op_mul pe_int (pv 2)) (pe_op op_sub (pv 2) pe_int)) (pe_op op_sub (pv 2) pe_int)) (pe_ix ix_list (pv 1) (pe_op op_sub (pv 2) pe_int) (fun _ _ => rfl)))))) pss_nil)
  (pss_one (ps_expr (pe_bm PySem.F.plainAttrs_list PySem.F.slot_list_append PySem.F.type_list_append mt_append (pv 1) (pa_cons (pv 3) pa_nil)))))))))
  (pss_one (ps_ret (pe_ix ix_list (pv 1) (pv 0) (fun _ _ => rfl)))))), ?_⟩
    refine x_start (σ := [some _, none, none, none]) rfl ?_
    walk_at "x"
    refine ⟨by decide, fun l hl => ?_⟩
    have h0 : upd H l (.lst [V.int 1]) l = some (.lst (([1] : List Nat).map vn)) := upd_same
    have e0 := Ex.new (o := .lst [V.int 1]) hl
    generalize upd H l (.lst [V.int 1]) = H0 at h0 e0 ⊢
    walk_at "x"
    refine x_forR1 ?_
    walk_at "x"
    refine ⟨_, rfl, by omega, by omega, ?_⟩
    rw [Int.toNat_natCast]
    refine loopR_foldi totRow (fun i row σ' H' => Ex H H' ∧ row.length = i + 1 ∧ H' l = some (.lst (row.map vn)) ∧ ∃ x y, σ' = [some (vn n), some (.ref l), x, y]) [1] ⟨e0, rfl, h0, _, _, rfl⟩ ?_ ?_
    · rintro row i σ' H' hi ⟨e, hlen, hH, x, y, rfl⟩
      obtain ⟨b1, b2, b3⟩ := m_small i (by omega)
      rw [Int.zero_add]
      refine x_name ?_
      dsimp only [List.set_cons_succ, List.set_cons_zero]
      refine x_seq (x_asg (x_op (x_var rfl (x_var rfl ?_))))
      refine x_ixN (n := i) (SqL.of hH) rfl (by omega) ?_
      refine x_name ?_
      dsimp only [List.set_cons_succ, List.set_cons_zero]
      refine x_seqI (fun σ' H2 => H' = H2 ∧ σ' = [some (vn n), some (.ref l), some (vn i), some (vn (gt row i + (if 0 < i then 3 * i * gt row (i - 1) else 0)))]) (fun N hN => ?_) ?_
      · walk_at "x"
        refine x_dec (fun h1 => ?_) (fun h1 => ?_)
        · walk_at "x"
          refine x_ixN (n := i - 1) (SqL.of hH) (by omega) (by omega) ?_
          walk_at "x"
          refine hN _ _ ⟨rfl, ?_⟩
          rw [if_pos (by omega)]
          have : ((gt row i : Nat) : Int) + 3 * (i : Int) * ((gt row (i - 1) : Nat) : Int) = ((gt row i + 3 * i * gt row (i - 1) : Nat) : Int) := by push_cast; rfl
          rw [this]
        · walk_at "x"
          refine hN _ _ ⟨rfl, ?_⟩
          rw [if_neg (by omega), Nat.add_zero]
      rintro _ _ ⟨rfl, rfl⟩
      generalize hv1 : gt row i + (if 0 < i then 3 * i * gt row (i - 1) else 0) = v1
      refine x_seqI (fun σ' H2 => H' = H2 ∧ σ' = [some (vn n), some (.ref l), some (vn i), some (vn (v1 + (if 1 < i then 6 * i * (i - 1) * gt row (i - 2) else 0)))]) (fun N hN => ?_) ?_
      · walk_at "x"
        refine x_dec (fun h1 => ?_) (fun h1 => ?_)
        · walk_at "x"
          have e1 : (6 : Int) * (i : Int) * ((i : Int) - 1) = ((6 * i * (i - 1) : Nat) : Int) := by
            rw [show ((i : Int) - 1) = ((i - 1 : Nat) : Int) by omega]
            push_cast
            rfl
          rw [e1]
          refine x_ixN (n := i - 2) (SqL.of hH) (by omega) (by omega) ?_
          walk_at "x"
          refine hN _ _ ⟨rfl, ?_⟩
          rw [if_pos (by omega)]
          have : ((v1 : Nat) : Int) + ((6 * i * (i - 1) : Nat) : Int) * ((gt row (i - 2) : Nat) : Int) = ((v1 + 6 * i * (i - 1) * gt row (i - 2) : Nat) : Int) := by
            rw [← Int.natCast_mul, ← Int.natCast_add]
          rw [this]
        · walk_at "x"
          refine hN _ _ ⟨rfl, ?_⟩
          rw [if_neg (by omega), Nat.add_zero]
      rintro _ _ ⟨rfl, rfl⟩
      generalize hv2 : v1 + (if 1 < i then 6 * i * (i - 1) * gt row (i - 2) else 0) = v2
      refine x_seqI (fun σ' H2 => H' = H2 ∧ σ' = [some (vn n), some (.ref l), some (vn i), some (vn (v2 + (if 2 < i then 7 * i * (i - 1) * (i - 2) * gt row (i - 3) else 0)))]) (fun N hN => ?_) ?_
      · walk_at "x"
        refine x_dec (fun h1 => ?_) (fun h1 => ?_)
        · walk_at "x"
          have e1 : (7 : Int) * (i : Int) * ((i : Int) - 1) = ((7 * i * (i - 1) : Nat) : Int) := by
            rw [show ((i : Int) - 1) = ((i - 1 : Nat) : Int) by omega]
            push_cast
            rfl
          rw [e1]
          walk_at "x"
          have e2 : ((7 * i * (i - 1) : Nat) : Int) * ((i : Int) - 2) = ((7 * i * (i - 1) * (i - 2) : Nat) : Int) := by
            rw [show ((i : Int) - 2) = ((i - 2 : Nat) : Int) by omega, ← Int.natCast_mul]
          rw [e2]
          refine x_ixN (n := i - 3) (SqL.of hH) (by omega) (by omega) ?_
          walk_at "x"
          refine hN _ _ ⟨rfl, ?_⟩
          rw [if_pos (by omega)]
          have : ((v2 : Nat) : Int) + ((7 * i * (i - 1) * (i - 2) : Nat) : Int) * ((gt row (i - 3) : Nat) : Int) = ((v2 + 7 * i * (i - 1) * (i - 2) * gt row (i - 3) : Nat) : Int) := by
            rw [← Int.natCast_mul, ← Int.natCast_add]
          rw [this]
        · walk_at "x"
          refine hN _ _ ⟨rfl, ?_⟩
          rw [if_neg (by omega), Nat.add_zero]
      rintro _ _ ⟨rfl, rfl⟩
      walk_at "x"
      refine ⟨.inl ⟨rfl, _, SqL.of hH⟩, ?_⟩
      walk_at "x"
      refine x_append hH (by rw [List.length_map, sizeLine_eq]; omega) ?_
      refine ⟨Ex.mut e hl, ?_, ?_, _, _, rfl⟩
      · unfold totRow
        rw [List.length_append, hlen]
        rfl
      · rw [upd_same, ← List.map_singleton, ← List.map_append]
        unfold totRow
        rw [hv1, hv2]
    · rintro σ' H' ⟨e, hlen, hH, x, y, rfl⟩
      walk_at "x"
      refine x_ixN (n := n) (SqL.of hH) rfl (by omega) ?_
      exact q _ e
end
end Pm
end
section
set_option Elab.async false
set_option maxRecDepth 100000
set_option maxHeartbeats 4000000
set_option linter.all false
namespace Pm
open PySem L2
local macro_rules | `(tactic| walk_at "ex") => `(tactic| first | exact Ex.refl _ | assumption | exact Ex.new (by assumption) | exact Ex.trans (by walk_at "ex") (by assumption) | exact Ex.trans (by walk_at "ex") (Ex.new (by assumption)) | exact Ex.mut (by walk_at "ex") (by first | assumption | exact Ex.none (by walk_at "ex") (by assumption)))
local macro_rules | `(tactic| walk_at "sq") => `(tactic| first | assumption | exact Ex.l (by walk_at "ex") (by assumption) | exact Ex.t (by walk_at "ex") (by assumption) | exact SqL.of (by walk_at "hp") | exact SqT.of (by walk_at "hp") | exact Ex.l (by walk_at "ex") (LstA.sq (by assumption)) | exact Ex.t (by walk_at "ex") (TupA.sq (by assumption)))
local macro_rules | `(tactic| walk_at "hp") => `(tactic| first | assumption | exact upd_same | (refine (by walk_at "ex" : Ex _ _) _ _ ?_; assumption) | (refine (by walk_at "ex" : Ex _ _) _ _ ?_; exact upd_same))
local macro_rules | `(tactic| walk_at "x1") => `(tactic| first
  | (with_reducible refine x_seq ?_) | (with_reducible refine x_asg ?_) | ((with_reducible refine x_name ?_); dsimp only [List.set_cons_succ, List.set_cons_zero])
  | (with_reducible refine x_ret ?_) | (with_reducible refine x_if ?_) | (with_reducible refine x_drop ?_) | (with_reducible refine x_next ?_)
  | ((with_reducible refine' x_var ?h ?_); (case h => rfl)) | (with_reducible refine x_c ?_) | (with_reducible refine x_op ?_) | (with_reducible refine x_un ?_)
  | (with_reducible refine x_I0 ?_) | ((with_reducible refine x_I ?h ?_); (case h => first | exact Or.inl (by omega) | exact Or.inr (by omega) | omega | (constructor <;> omega))) | (with_reducible refine x_U ?_)
  | ((with_reducible refine' x_eq ?h ?_); (case h => rfl)) | ((with_reducible refine' x_ne ?h ?_); (case h => rfl))
  | (with_reducible refine x_cb ?_) | (with_reducible refine x_call ?_) | (with_reducible refine x_nil ?_) | (with_reducible refine x_cons ?_)
  | (with_reducible refine x_test ?_) | (with_reducible refine x_tB ?_) | (with_reducible refine x_bl ?_) | (with_reducible refine x_or ?_) | (with_reducible refine x_and ?_) | (with_reducible refine x_not ?_)
  | (with_reducible refine x_ifE ?_) | (with_reducible refine x_lst ?_) | (with_reducible refine x_tup ?_)
  | (with_reducible refine x_bm ?_) | (with_reducible refine x_bmG ?_) | (with_reducible refine x_chain ?_) | (with_reducible refine x_orV ?_) | (with_reducible refine x_andV ?_) | (with_reducible refine x_notV ?_) | (with_reducible refine x_sub ?_) | (with_reducible refine x_star ?_) | (with_reducible refine x_sl ?_) | (with_reducible refine x_po ?_) | (with_reducible refine x_pn ?_))
local macro_rules | `(tactic| walk_at "y1") => `(tactic| first
  | (with_reducible refine x_seq ?_) | (with_reducible refine x_asg ?_) | ((with_reducible refine x_name ?_); dsimp only [List.set_cons_succ, List.set_cons_zero])
  | (with_reducible refine x_drop ?_) | (with_reducible refine x_next ?_)
  | ((with_reducible refine' x_var ?h ?_); (case h => rfl)) | (with_reducible refine x_c ?_) | (with_reducible refine x_op ?_) | (with_reducible refine x_un ?_)
  | (with_reducible refine x_I0 ?_) | ((with_reducible refine x_I ?h ?_); (case h => first | exact Or.inl (by omega) | exact Or.inr (by omega) | omega | (constructor <;> omega))) | (with_reducible refine x_U ?_)
  | ((with_reducible refine' x_eq ?h ?_); (case h => rfl)) | ((with_reducible refine' x_ne ?h ?_); (case h => rfl))
  | (with_reducible refine x_cb ?_) | (with_reducible refine x_call ?_) | (with_reducible refine x_nil ?_) | (with_reducible refine x_cons ?_)
  | (with_reducible refine x_test ?_) | (with_reducible refine x_tB ?_) | (with_reducible refine x_bl ?_) | (with_reducible refine x_or ?_) | (with_reducible refine x_and ?_) | (with_reducible refine x_not ?_)
  | (with_reducible refine x_ifE ?_) | (with_reducible refine x_lst ?_) | (with_reducible refine x_tup ?_)
  | (with_reducible refine x_bm ?_) | (with_reducible refine x_bmG ?_) | (with_reducible refine x_chain ?_) | (with_reducible refine x_orV ?_) | (with_reducible refine x_andV ?_) | (with_reducible refine x_notV ?_) | (with_reducible refine x_sub ?_) | (with_reducible refine x_star ?_) | (with_reducible refine x_sl ?_) | (with_reducible refine x_po ?_) | (with_reducible refine x_pn ?_))
local macro_rules | `(tactic| walk_at "xi") => `(tactic| first | (with_reducible refine iteT ?_) | (with_reducible refine iteF ?_) | (with_reducible refine x_notT ?_) | (with_reducible refine x_notF ?_))
local macro_rules | `(tactic| walk_at "x") => `(tactic| ((try dsimp only); repeat ((first | walk_at "x1" | walk_at "xi"); (try dsimp only))))
local macro_rules | `(tactic| walk_at "y") => `(tactic| ((try dsimp only); repeat ((first | walk_at "y1" | walk_at "xi"); (try dsimp only))))

/-! ### the law's own states -/
def stepCell (row : List Int) (x : Nat) (acc : List (List Int)) (k : Nat) : List (List Int) := if row.getD (x + k) 0 < 0 then acc ++ [(row.set x (x + k : Nat)).set (x + k) (x : Nat)] else acc
def stepRow (n x : Nat) (acc : List (List Int)) (row : List Int) : List (List Int) := if 0 ≤ row.getD x 0 then acc ++ [row] else (List.range (n - x)).foldl (stepCell row x) acc
def stepX (n : Nat) (rows : List (List Int)) (x : Nat) : List (List Int) := rows.foldl (stepRow n x) []
def rowsI (n : Nat) : List (List Int) := (List.range n).foldl (stepX n) [List.replicate n (-1)]
theorem rows_eq : ((List.range 5).all fun n => decide (rowsI n = (statesN n).map fun s => s.map fun (x : Nat) => (x : Int))) = true := by decide +kernel
theorem rows_sorted : ((List.range 5).all fun n => decide ((rowsI n).Pairwise (fun p q => decide (p ≤ q) = true))) = true := by decide +kernel
theorem rep_vi (n : Nat) (z : Int) : (List.replicate n [V.int z]).flatten = (List.replicate n z).map V.int := by
  rw [List.map_replicate]
  induction n with
  | zero => rfl
  | succ n ih => rw [List.replicate_succ, List.replicate_succ, List.flatten_cons, ih]; rfl
theorem foldl_len {α β : Type} (f : List α → β → List α) (c : Nat) (h : ∀ acc x, (f acc x).length ≤ acc.length + c) : ∀ (xs : List β) (acc : List α), (xs.foldl f acc).length ≤ acc.length + c * xs.length
  | [], acc => by simp
  | x :: t, acc => by
    rw [List.foldl_cons, List.length_cons]
    have := foldl_len f c h t (f acc x)
    have := h acc x
    rw [Nat.mul_succ]
    omega
theorem stepCell_len (row : List Int) (x : Nat) (acc : List (List Int)) (k : Nat) : (stepCell row x acc k).length ≤ acc.length + 1 := by
  unfold stepCell
  split
  · rw [List.length_append]; exact Nat.le_refl _
  · omega
theorem stepRow_len (n x : Nat) (hn : n ≤ 4) (acc : List (List Int)) (row : List Int) : (stepRow n x acc row).length ≤ acc.length + 4 := by
  unfold stepRow
  split
  · rw [List.length_append]; show _ + 1 ≤ _; omega
  · have := foldl_len (stepCell row x) 1 (stepCell_len row x) (List.range (n - x)) acc
    rw [List.length_range] at this
    omega
theorem rows_of {K : PySem.W.Frag} {M : Av} {H : Hp} : ∀ {us : List V} {xs : List (List Int)}, Paired ((rL (rInt K)).rel M H) us xs → ∃ rs : List (Addr × List Int), us = (rs.map fun r => V.ref r.1) ∧ rs.map (·.2) = xs ∧ ∀ r ∈ rs, LstA K M H r.1 (r.2.map V.int)
  | _, _, .nil => ⟨[], rfl, rfl, fun r hr => (by cases hr)⟩
  | _, _, .cons (b := x) h t => by
    obtain ⟨rs, h1, h2, h3⟩ := rows_of t
    obtain ⟨a, e, ha⟩ := rLi h
    refine ⟨(a, x) :: rs, by rw [h1, e]; rfl, by rw [← h2]; rfl, fun r hr => ?_⟩
    rcases List.mem_cons.mp hr with z | z
    · rw [z]; exact ha
    · exact h3 r z
theorem pair_un {α β γ : Type} {F : α → β → Prop} (f : γ → β) : ∀ {us : List α} {xs : List γ}, Paired F us (xs.map f) → Paired (fun u x => F u (f x)) us xs
  | _, [], .nil => .nil
  | _, _ :: _, .cons h t => .cons h (pair_un f t)
theorem nat_of_int {K : PySem.W.Frag} {M : Av} {H : Hp} {v : V} {s : List Nat} (h : (rL (rInt K)).rel M H v (s.map fun (x : Nat) => (x : Int))) : (rL (rNat K)).rel M H v s := by
  obtain ⟨a, rfl, ha⟩ := rLi h
  rw [← vn_int] at ha
  exact rLn' ha
section
variable {P : Program} {w : World} {K : PySem.W.Frag} {mg : Str → Option Value} {base : Heap}
/-! _law_states: slots _law_size 0, _law_rows 1, _law_x 2, _law_longer 3, _law_row 4, _law_y 5, _law_one 6; calls []; built-ins ['range', 'list', 'sorted'] -/
abbrev s_law_states : Stmt := top 44
abbrev N_law_states : List Str := ["_law_size", "_law_rows", "_law_x", "_law_longer", "_law_row", "_law_y", "_law_one"]
theorem sc_law_states : FnScope N_law_states ["_law_size"] (defScope s_law_states) := ⟨rfl, rfl, rfl, by decide +kernel, rfl, by decide +kernel, by decide +kernel⟩

def spLStates (K : PySem.W.Frag) : Sp := fun vs H Q _ => ∃ n : Nat, vs = [vn n] ∧ n ≤ 4 ∧ Ret (rL (rL (rNat K))) (statesN n) H Q
set_option linter.unusedVariables false in
theorem ok_law_states {f : Addr} {fd : FuncData} (F : Fun K "_law_states" "_law_states" s_law_states f fd) (T : Txt mg) : FnOk P w K mg base CX0 1 f fd ["_law_size"] (spLStates K) := by
  refine F.ok sc_law_states (fun vs H Q E h => ?_) (fun cdv A outer s H vs Q E hr h => ?_)
  · obtain ⟨_, rfl, _⟩ := h
    rfl
  · obtain ⟨n, rfl, hn, q⟩ := h
    refine ⟨_, (pss_cons (ps_set (i := 1) sc_law_states.nd rfl (by first | exact Or.inl rfl | exact Or.inr rfl) (pe_lst (pa_cons (pe_op op_rep (pe_lst (pa_cons (pe_un un_neg pe_int) pa_nil)) (pv 0)) pa_nil)))
  (pss_cons (ps_for PassesOwn.never rfl (pi_range1 (by rfl) T.b_range (pa_cons (pv 0) pa_nil)) (pg_name (i := 2) sc_law_states.nd rfl (by first | exact Or.inl rfl | exact Or.inr rfl)) (pss_cons (ps_set (i := 3) sc_law_states.nd rfl (by first | exact Or.inl rfl | exact Or.inr rfl) (pe_lst pa_nil))
  (pss_cons (ps_for PassesOwn.never rfl (pi_list (pv 1)) (pg_name (i := 4) sc_law_states.nd rfl (by first | exact Or.inl rfl | exact Or.inr rfl)) (pss_one (ps_if (pt_cmpR op_ge (pe_ix ix_list (pv 4) (pv 2) (fun _ _ => rfl)) pe_int (nomark _)) (pss_one (ps_expr (pe_bm PySem.F.plainAttrs_list PySem.F.slot_list_append PySem.F.type_list_append mt_append (pv 3) (pa_cons (pv 4) pa_nil)))) (pss_one (ps_for PassesOwn.never rfl (pi_range2 (by rfl) T.b_range (pa_cons (pv 2) (pa_cons (pv 0) pa_nil))) (pg_name (i := 5) sc_law_states.nd rfl (by first | exact Or.inl rfl | exact Or.inr rfl)) (pss_one (ps_if (pt_cmpR op_lt (pe_ix ix_list (pv 4) (pv 5) (fun _ _ => rfl)) pe_int (nomark _)) (pss_cons (ps_set (i := 6) sc_law_states.nd rfl (by first | exact Or.inl rfl | exact Or.inr rfl) (pe_callTy call_list_of (by rfl) T.b_list (by decide +kernel) (pa_cons (pv 4) pa_nil)))
  (pss_cons (ps_asg (pv 5) (pg_sub (pv 6) (pv 2) set_list))
  (pss_cons (ps_asg (pv 2) (pg_sub (pv 6) (pv 5) set_list))
  (pss_one (ps_expr (pe_bm PySem.F.plainAttrs_list PySem.F.slot_list_append PySem.F.type_list_append mt_append (pv 3) (pa_cons (pv 6) pa_nil))))))) pss_nil)))))))
  (pss_one (ps_set (i := 1) sc_law_states.nd rfl (by first | exact Or.inl rfl | exact Or.inr rfl) (pv 3))))))
  (pss_one (ps_ret (pe_callB (cr_sortedLL (hu64_of hr)) (by rfl) T.b_sorted (by decide +kernel) (pa_cons (pv 1) pa_nil)))))), ?_⟩
    refine x_start (σ := [some _, none, none, none, none, none, none]) rfl ?_
    walk_at "x"
    refine ⟨by decide, fun l0 n0 => ?_⟩
    walk_at "x"
    refine ⟨l0, _, _, rfl, rfl, upd_same, by omega, by omega, ?_, fun l1 n1 => ?_⟩
    · show 1 * ((n : Int)).toNat ≤ sizeLine
      rw [sizeLine_eq]
      omega
    rw [Int.toNat_natCast]
    rw [rep_vi]
    have e1 := Ex.trans (Ex.new (o := .lst [V.int (-1)]) n0) (Ex.new (o := .lst ((List.replicate n (-1 : Int)).map V.int)) n1)
    have h1 : upd (upd H l0 (.lst [V.int (-1)])) l1 (.lst ((List.replicate n (-1 : Int)).map V.int)) l1 = some (.lst ((List.replicate n (-1 : Int)).map V.int)) := upd_same
    have m1 : H l1 = none := (Ex.new n0).none n1
    generalize upd (upd H l0 (.lst [V.int (-1)])) l1 (.lst ((List.replicate n (-1 : Int)).map V.int)) = H1 at e1 h1 ⊢
    walk_at "x"
    refine ⟨by show 1 ≤ sizeLine; decide, fun lr nr => ?_⟩
    have e2 := Ex.trans e1 (Ex.new (o := .lst [V.ref l1]) nr)
    have mr := e1.none nr
    have A2 : AccAt (rL (rInt K)) H (upd H1 lr (.lst [V.ref l1])) lr [List.replicate n (-1 : Int)] := by
      refine ⟨[V.ref l1], upd_same, .cons (rLi' (.inl ⟨fun z => ?_, Rd.of ((Ex.new nr) _ _ h1)⟩)) .nil⟩
      rcases z with z | z
      · exact z m1
      · rw [z, nr] at h1; cases h1
    generalize upd H1 lr (.lst [V.ref l1]) = H2 at e2 A2 ⊢
    walk_at "x"
    refine x_forR1 ?_
    walk_at "x"
    refine ⟨_, rfl, by omega, by omega, ?_⟩
    rw [Int.toNat_natCast]
    refine loopR_foldi (stepX n) (fun i rows σ' H' => Ex H H' ∧ rows.length ≤ 4 ^ i ∧ (∀ r ∈ rows, r.length = n) ∧ (∃ lr, H lr = none ∧ AccAt (rL (rInt K)) H H' lr rows ∧ ∃ y2 y3 y4 y5 y6, σ' = [some (vn n), some (.ref lr), y2, y3, y4, y5, y6]))
      [List.replicate n (-1 : Int)] ⟨e2, Nat.le_refl _, fun r hr => by rw [List.mem_singleton.mp hr, List.length_replicate], lr, mr, A2, _, _, _, _, _, rfl⟩ ?_ ?_
    · rintro rows x σ' H3 hx ⟨e3, rl, rn, lr, mr, A3, y2, y3, y4, y5, y6, rfl⟩
      rw [Int.zero_add]
      walk_at "x"
      refine ⟨by decide, fun ll nl => ?_⟩
      have x4 := Ex.new (o := .lst []) nl
      have A4 : AccAt (rL (rInt K)) H (upd H3 ll (.lst [])) ll [] := .nil upd_same
      have ml := e3.none nl
      have e4 := Ex.trans e3 x4
      obtain ⟨us, hus, hp⟩ := A3.ex
      have hp4 : Paired ((rL (rInt K)).rel (Or1 H ll) (upd H3 ll (.lst []))) us rows := pmono hp fun _ _ q => (rL (rInt K)).weak (fun a h => h.elim (fun h => Or.inl (Or.inl h)) fun h => Or.inr h) ((rL (rInt K)).mono x4.a (fr_L fr_int nl q))
      have hus4 := x4 _ _ hus
      have dlr : ll ≠ lr := fun z => by rw [z, hus] at nl; cases nl
      have p4 : rows.length ≤ 256 := Nat.le_trans rl (by
        rcases (by omega : x = 0 ∨ x = 1 ∨ x = 2 ∨ x = 3) with h | h | h | h <;> subst h <;> decide)
      generalize upd H3 ll (.lst []) = H4 at x4 A4 e4 hp4 hus4 ⊢
      walk_at "x"
      refine x_forL ?_
      walk_at "x"
      refine ⟨lr, rfl, ⟨us, SqL.of hus4⟩, ?_⟩
      refine loopL_foldi (xs := rows) hp.length (stepRow n x) (fun i acc σ' H' => Ex H H' ∧ ExA (Or1 H ll) H4 H' ∧ acc.length ≤ 4 * i ∧ (∀ r ∈ acc, r.length = n) ∧ H' lr = some (.lst us) ∧ AccAt (rL (rInt K)) H H' ll acc ∧ ∃ y4 y5 y6, σ' = [some (vn n), some (.ref lr), some (vn x), some (.ref ll), y4, y5, y6])
        [] ⟨e4, (Ex.refl _).a, Nat.le_refl _, fun r hr => (by cases hr), hus4, A4, _, _, _, rfl⟩ (fun i acc σ' H' h => SqL.of h.2.2.2.2.1) ?_ ?_
      · rintro acc i row u σ' H5 hrow hu ⟨e5, ea5, al, an, hus5, A5, y4, y5, y6, rfl⟩
        have hi : i < rows.length := (List.getElem?_eq_some_iff.mp hrow).1
        obtain ⟨u', hu', ru⟩ := pair_at hp4 hrow
        rw [hu] at hu'
        cases hu'
        have ru5 := (rL (rInt K)).mono ea5 ru
        obtain ⟨ra, rfl, hra⟩ := rLi ru5
        have rown := rn row (List.mem_of_getElem? hrow)
        walk_at "x"
        refine x_ixI hra.sq rfl (by omega) ?_
        walk_at "x"
        refine x_dec (fun h1 => ?_) (fun h1 => ?_)
        · walk_at "x"
          refine ⟨A5.ty, ?_⟩
          walk_at "x"
          refine A5.app (by omega) ru5 fun ws A6 => ?_
          have es : stepRow n x acc row = acc ++ [row] := by unfold stepRow; rw [if_pos h1]
          rw [es]
          refine ⟨Ex.mut e5 ml, ea5.trans (ExA.put (Or.inr rfl)), ?_, fun r hr => ?_, ?_, A6, _, _, _, rfl⟩
          · rw [List.length_append]; show acc.length + 1 ≤ _; omega
          · rcases List.mem_append.mp hr with z | z
            · exact an r z
            · rw [List.mem_singleton.mp z]; exact rown
          · rw [upd_ne dlr.symm]; exact hus5
        · have es : stepRow n x acc row = (List.range (n - x)).foldl (stepCell row x) acc := by unfold stepRow; rw [if_neg h1]
          rw [es]
          walk_at "x"
          refine x_forR2 ?_
          walk_at "x"
          refine ⟨_, _, rfl, by omega, ?_⟩
          rw [show ((n : Int) - (x : Int)).toNat = n - x by omega]
          refine loopR_foldi (stepCell row x) (fun k acc σ' H' => Ex H H' ∧ ExA (Or1 H ll) H4 H' ∧ acc.length ≤ 4 * i + k ∧ (∀ r ∈ acc, r.length = n) ∧ H' lr = some (.lst us) ∧ AccAt (rL (rInt K)) H H' ll acc ∧ ∃ y5 y6, σ' = [some (vn n), some (.ref lr), some (vn x), some (.ref ll), some (.ref ra), y5, y6])
            acc ⟨e5, ea5, by omega, an, hus5, A5, _, _, rfl⟩ ?_ ?_
          · rintro acc k σ' H6 hk ⟨e6, ea6, al, an, hus6, A6, y5, y6, rfl⟩
            rw [show ((x : Nat) : Int) + (k : Nat) = ((x + k : Nat) : Int) by omega]
            obtain ⟨ra', era, hra6⟩ := rLi ((rL (rInt K)).mono ea6 ru)
            cases era
            walk_at "x"
            refine x_ixI hra6.sq rfl (by omega) ?_
            walk_at "x"
            refine x_dec (fun h2 => ?_) (fun h2 => ?_)
            · walk_at "x"
              refine ⟨ra, _, rfl, .inl hra6.sq, fun lo no => ?_⟩
              have x7 := Ex.new (o := .lst (row.map V.int)) no
              have mo := e6.none no
              have dlo : lo ≠ ll := fun z => by
                obtain ⟨ws, hws, _⟩ := A6.at_
                rw [z, hws] at no
                cases no
              have dlo2 : lo ≠ lr := fun z => by rw [z, hus6] at no; cases no
              walk_at "x"
              refine x_setAt (n := x) upd_same rfl (by rw [List.length_map]; omega) ?_
              rw [← List.map_set (f := V.int), upd_upd]
              walk_at "x"
              refine x_setAt (n := x + k) upd_same rfl (by rw [List.length_map, List.length_set]; omega) ?_
              rw [← List.map_set (f := V.int), upd_upd]
              have ea7 : ExA (fun a => a = lo) H6 (upd H6 lo (.lst (((row.set x ((x + k : Nat) : Int)).set (x + k) (x : Int)).map V.int))) := ExA.put rfl
              have A7 := A6.but (fr_L fr_int) no ea7
              have h7o : upd H6 lo (.lst (((row.set x ((x + k : Nat) : Int)).set (x + k) (x : Int)).map V.int)) lo = some (.lst (((row.set x ((x + k : Nat) : Int)).set (x + k) (x : Int)).map V.int)) := upd_same
              have ex7 : Ex H (upd H6 lo (.lst (((row.set x ((x + k : Nat) : Int)).set (x + k) (x : Int)).map V.int))) := Ex.mut e6 mo
              have eb7 : ExA (Or1 H ll) H4 (upd H6 lo (.lst (((row.set x ((x + k : Nat) : Int)).set (x + k) (x : Int)).map V.int))) := fun a o m h => by
                have z := ea6 a o m h
                have ne : a ≠ lo := fun q => by rw [q, no] at z; cases z
                rw [upd_ne ne]
                exact z
              have hu7 : upd H6 lo (.lst (((row.set x ((x + k : Nat) : Int)).set (x + k) (x : Int)).map V.int)) lr = some (.lst us) := by rw [upd_ne dlo2.symm]; exact hus6
              generalize upd H6 lo (.lst (((row.set x ((x + k : Nat) : Int)).set (x + k) (x : Int)).map V.int)) = H7 at ea7 A7 h7o ex7 eb7 hu7 ⊢
              walk_at "x"
              refine ⟨A7.ty, ?_⟩
              walk_at "x"
              refine A7.app (by omega) (x := (row.set x ((x + k : Nat) : Int)).set (x + k) (x : Int)) (rLi' (.inl ⟨fun z => z.elim (fun z => z mo) dlo, Rd.of h7o⟩)) fun ws A8 => ?_
              have es : stepCell row x acc k = acc ++ [(row.set x ((x + k : Nat) : Int)).set (x + k) (x : Int)] := by unfold stepCell; rw [if_pos h2]
              rw [es]
              refine ⟨Ex.mut ex7 ml, eb7.trans (ExA.put (Or.inr rfl)), ?_, fun r hr => ?_, ?_, A8, _, _, rfl⟩
              · rw [List.length_append]; show acc.length + 1 ≤ _; omega
              · rcases List.mem_append.mp hr with z | z
                · exact an r z
                · rw [List.mem_singleton.mp z, List.length_set, List.length_set]; exact rown
              · rw [upd_ne dlr.symm]; exact hu7
            · walk_at "x"
              have es : stepCell row x acc k = acc := by unfold stepCell; rw [if_neg h2]
              rw [es]
              exact ⟨e6, ea6, by omega, an, hus6, A6, _, _, rfl⟩
          · rintro σ' H6 ⟨e6, ea6, al, an, hus6, A6, y5, y6, rfl⟩
            exact ⟨e6, ea6, by omega, an, hus6, A6, _, _, _, rfl⟩
      · rintro σ' H5 ⟨e5, ea5, al, an, hus5, A5, y4, y5, y6, rfl⟩
        walk_at "x"
        refine ⟨e5, ?_, an, ll, ml, A5, _, _, _, _, _, rfl⟩
        show (rows.foldl (stepRow n x) []).length ≤ 4 ^ (x + 1)
        rw [Nat.pow_succ]
        omega
    · rintro σ' H3 ⟨e3, rl, rn, lr, mr, A3, y2, y3, y4, y5, y6, rfl⟩
      have hre : (List.range n).foldl (stepX n) [List.replicate n (-1 : Int)] = (statesN n).map fun s => s.map fun (x : Nat) => (x : Int) := of_decide_eq_true (List.all_eq_true.mp rows_eq n (List.mem_range.mpr (by omega)))
      have hso : ((List.range n).foldl (stepX n) [List.replicate n (-1 : Int)]).Pairwise (fun p q => decide (p ≤ q) = true) := of_decide_eq_true (List.all_eq_true.mp rows_sorted n (List.mem_range.mpr (by omega)))
      rw [hre] at A3 hso
      obtain ⟨us, hus, hp⟩ := A3.ex
      obtain ⟨rs, rfl, hrs, hra⟩ := rows_of hp
      walk_at "x"
      refine ⟨lr, rs, rfl, SqL.of hus, fun r hr => (hra r hr).sq, fun p np => ?_⟩
      rw [List.mergeSort_of_pairwise (by rw [← hrs, List.pairwise_map] at hso; exact hso)]
      refine q _ _ (Ex.trans e3 (Ex.new np)) ⟨p, _, rfl, LstA.new upd_same (e3.none np), ?_⟩
      refine pmono (pair_un _ hp) fun u s h => ?_
      exact (rL (rNat K)).weak (fun a h => Or.inl h) ((rL (rNat K)).mono (Ex.new np).a (nat_of_int h))
end
end Pm
end
section
set_option Elab.async false
set_option maxRecDepth 100000
set_option maxHeartbeats 4000000
set_option linter.all false
namespace Pm
open PySem L2
local macro_rules | `(tactic| walk_at "ex") => `(tactic| first | exact Ex.refl _ | assumption | exact Ex.new (by assumption) | exact Ex.trans (by walk_at "ex") (by assumption) | exact Ex.trans (by walk_at "ex") (Ex.new (by assumption)) | exact Ex.mut (by walk_at "ex") (by first | assumption | exact Ex.none (by walk_at "ex") (by assumption)))
local macro_rules | `(tactic| walk_at "sq") => `(tactic| first | assumption | exact Ex.l (by walk_at "ex") (by assumption) | exact Ex.t (by walk_at "ex") (by assumption) | exact SqL.of (by walk_at "hp") | exact SqT.of (by walk_at "hp") | exact Ex.l (by walk_at "ex") (LstA.sq (by assumption)) | exact Ex.t (by walk_at "ex") (TupA.sq (by assumption)))
local macro_rules | `(tactic| walk_at "hp") => `(tactic| first | assumption | exact upd_same | (refine (by walk_at "ex" : Ex _ _) _ _ ?_; assumption) | (refine (by walk_at "ex" : Ex _ _) _ _ ?_; exact upd_same))
local macro_rules | `(tactic| walk_at "x1") => `(tactic| first
  | (with_reducible refine x_seq ?_) | (with_reducible refine x_asg ?_) | ((with_reducible refine x_name ?_); dsimp only [List.set_cons_succ, List.set_cons_zero])
  | (with_reducible refine x_ret ?_) | (with_reducible refine x_if ?_) | (with_reducible refine x_drop ?_) | (with_reducible refine x_next ?_)
  | ((with_reducible refine' x_var ?h ?_); (case h => rfl)) | (with_reducible refine x_c ?_) | (with_reducible refine x_op ?_) | (with_reducible refine x_un ?_)
  | (with_reducible refine x_I0 ?_) | ((with_reducible refine x_I ?h ?_); (case h => first | exact Or.inl (by omega) | exact Or.inr (by omega) | omega | (constructor <;> omega))) | (with_reducible refine x_U ?_)
  | ((with_reducible refine' x_eq ?h ?_); (case h => rfl)) | ((with_reducible refine' x_ne ?h ?_); (case h => rfl))
  | (with_reducible refine x_cb ?_) | (with_reducible refine x_call ?_) | (with_reducible refine x_nil ?_) | (with_reducible refine x_cons ?_)
  | (with_reducible refine x_test ?_) | (with_reducible refine x_tB ?_) | (with_reducible refine x_bl ?_) | (with_reducible refine x_or ?_) | (with_reducible refine x_and ?_) | (with_reducible refine x_not ?_)
  | (with_reducible refine x_ifE ?_) | (with_reducible refine x_lst ?_) | (with_reducible refine x_tup ?_)
  | (with_reducible refine x_bm ?_) | (with_reducible refine x_bmG ?_) | (with_reducible refine x_chain ?_) | (with_reducible refine x_orV ?_) | (with_reducible refine x_andV ?_) | (with_reducible refine x_notV ?_) | (with_reducible refine x_sub ?_) | (with_reducible refine x_star ?_) | (with_reducible refine x_sl ?_) | (with_reducible refine x_po ?_) | (with_reducible refine x_pn ?_))
local macro_rules | `(tactic| walk_at "y1") => `(tactic| first
  | (with_reducible refine x_seq ?_) | (with_reducible refine x_asg ?_) | ((with_reducible refine x_name ?_); dsimp only [List.set_cons_succ, List.set_cons_zero])
  | (with_reducible refine x_drop ?_) | (with_reducible refine x_next ?_)
  | ((with_reducible refine' x_var ?h ?_); (case h => rfl)) | (with_reducible refine x_c ?_) | (with_reducible refine x_op ?_) | (with_reducible refine x_un ?_)
  | (with_reducible refine x_I0 ?_) | ((with_reducible refine x_I ?h ?_); (case h => first | exact Or.inl (by omega) | exact Or.inr (by omega) | omega | (constructor <;> omega))) | (with_reducible refine x_U ?_)
  | ((with_reducible refine' x_eq ?h ?_); (case h => rfl)) | ((with_reducible refine' x_ne ?h ?_); (case h => rfl))
  | (with_reducible refine x_cb ?_) | (with_reducible refine x_call ?_) | (with_reducible refine x_nil ?_) | (with_reducible refine x_cons ?_)
  | (with_reducible refine x_test ?_) | (with_reducible refine x_tB ?_) | (with_reducible refine x_bl ?_) | (with_reducible refine x_or ?_) | (with_reducible refine x_and ?_) | (with_reducible refine x_not ?_)
  | (with_reducible refine x_ifE ?_) | (with_reducible refine x_lst ?_) | (with_reducible refine x_tup ?_)
  | (with_reducible refine x_bm ?_) | (with_reducible refine x_bmG ?_) | (with_reducible refine x_chain ?_) | (with_reducible refine x_orV ?_) | (with_reducible refine x_andV ?_) | (with_reducible refine x_notV ?_) | (with_reducible refine x_sub ?_) | (with_reducible refine x_star ?_) | (with_reducible refine x_sl ?_) | (with_reducible refine x_po ?_) | (with_reducible refine x_pn ?_))
local macro_rules | `(tactic| walk_at "xi") => `(tactic| first | (with_reducible refine iteT ?_) | (with_reducible refine iteF ?_) | (with_reducible refine x_notT ?_) | (with_reducible refine x_notF ?_))
local macro_rules | `(tactic| walk_at "x") => `(tactic| ((try dsimp only); repeat ((first | walk_at "x1" | walk_at "xi"); (try dsimp only))))
local macro_rules | `(tactic| walk_at "y") => `(tactic| ((try dsimp only); repeat ((first | walk_at "y1" | walk_at "xi"); (try dsimp only))))

section
variable {P : Program} {w : World} {K : PySem.W.Frag} {mg : Str → Option Value} {base : Heap}
/-- found.append([[..], [..], [..]]) -/
theorem app_flip {σ : L2.St} {H0 H' : Hp} {lf : Addr} {acc : List Flip} {us vs ws : List Nat} {ta tb tc : TA} {Q : VK} (A : AccAt (rFlip K) H0 H' lf acc) (e : Ex H0 H') (n0 : H0 lf = none) (hz : acc.length < 1000000) (z1 : us.length ≤ 100) (z2 : vs.length ≤ 100) (z3 : ws.length ≤ 100)
    (h1 : ∀ H2 (Q : List V → Hp → Prop), Ex H' H2 → Q (us.map vn) H2 → ta σ H2 Q) (h2 : ∀ H2 (Q : List V → Hp → Prop), Ex H' H2 → Q (vs.map vn) H2 → tb σ H2 Q) (h3 : ∀ H2 (Q : List V → Hp → Prop), Ex H' H2 → Q (ws.map vn) H2 → tc σ H2 Q)
    (q : ∀ H2, Ex H0 H2 → (∀ a o, a ≠ lf → H' a = some o → H2 a = some o) → AccAt (rFlip K) H0 H2 lf (acc ++ [[us, vs, ws]]) → Q .non H2) : tCons (tLst (tCons (tLst ta) (tCons (tLst tb) (tCons (tLst tc) tNil)))) tNil σ H' fun xs H2 => rAppend (.ref lf) xs H2 Q := by
  refine x_cons (x_lll (us := us.map vn) (vs := vs.map vn) (ws := ws.map vn) (by rw [List.length_map]; exact z1) (by rw [List.length_map]; exact z2) (by rw [List.length_map]; exact z3) h1 h2 h3 fun l l0 l1 l2 H2 e2 n m0 m1 m2 g g0 g1 g2 => ?_)
  refine x_nil ?_
  obtain ⟨wl, hwl, _⟩ := A.at_
  have ne : ∀ {a : Addr}, H' a = none → a ≠ lf := fun h z => by rw [z, hwl] at h; cases h
  have nm : ∀ {a : Addr}, H' a = none → ¬ Or1 H0 lf a := fun h z => z.elim (fun z => z (e.none h)) (ne h)
  refine (A.grow e2).app (x := [us, vs, ws]) hz ⟨l, _, rfl, nm n, g, .cons (rPLn' (nm m0) g0) (.cons (rPLn' (nm m1) g1) (.cons (rPLn' (nm m2) g2) .nil))⟩ fun ws A2 => ?_
  refine q _ (Ex.mut (Ex.trans e e2) n0) (fun a o na h => ?_) A2
  rw [upd_ne na]
  exact e2 _ _ h
/-! _law_flips: slots _law_state_here 0, _law_units 1, _law_x 2, _law_found 3, _law_k 4, _law_p 5, _law_q 6, _law_r 7, _law_s 8; calls []; built-ins ['range', 'len'] -/
abbrev s_law_flips : Stmt := top 45
abbrev N_law_flips : List Str := ["_law_state_here", "_law_units", "_law_x", "_law_found", "_law_k", "_law_p", "_law_q", "_law_r", "_law_s"]
theorem sc_law_flips : FnScope N_law_flips ["_law_state_here"] (defScope s_law_flips) := ⟨rfl, rfl, rfl, by decide +kernel, rfl, by decide +kernel, by decide +kernel⟩

def spLFlips (K : PySem.W.Frag) : Sp := fun vs H Q _ => ∃ (a : Addr) (n : Nat) (st : List Nat), vs = [.ref a] ∧ SqL K H a (st.map vn) ∧ StOk n st ∧ n ≤ 4 ∧ ∀ l H', Ex H H' → H l = none → AccAt (rFlip K) H H' l (lawFlips st) → Q (.ref l) H'
def lfIn (st : List Nat) (p : Nat) (found : List Flip) (r : Nat) : List Flip :=
  if p = gt st p ∧ r = gt st r then found ++ [[[r, p], [r, p], [p, r]]]
  else if p ≠ gt st p ∧ r ≠ gt st r then (found ++ [[[p, gt st p, r, gt st r], [gt st p, p, gt st r, r], [gt st r, r, gt st p, p]]]) ++ [[[p, gt st p, gt st r, r], [gt st p, p, r, gt st r], [r, gt st r, gt st p, p]]]
  else if p ≠ gt st p then (found ++ [[[p, gt st p, r], [gt st p, p, r], [r, gt st p, p]]]) ++ [[[gt st p, p, r], [p, gt st p, r], [r, p, gt st p]]]
  else (found ++ [[[r, gt st r, p], [gt st r, r, p], [p, gt st r, r]]]) ++ [[[gt st r, r, p], [r, gt st r, p], [p, r, gt st r]]]
theorem lfAt_eq (st units : List Nat) (found : List Flip) (k : Nat) : lawFlipsAt st units found k = (units.take k).foldl (lfIn st (gt units k)) (if gt units k ≠ gt st (gt units k) then found ++ [[[gt units k, gt st (gt units k)], [gt st (gt units k), gt units k], [gt units k, gt st (gt units k)]]] else found) := rfl
theorem lfIn_len (st : List Nat) (p : Nat) (found : List Flip) (r : Nat) : (lfIn st p found r).length ≤ found.length + 2 := by
  unfold lfIn
  split
  · simp
  · split
    · simp
    · split <;> simp
theorem lfAt_len {st units : List Nat} (found : List Flip) (k : Nat) (hu : units.length ≤ 9) : (lawFlipsAt st units found k).length ≤ found.length + 19 := by
  rw [lfAt_eq]
  have h1 := foldl_len (lfIn st (gt units k)) 2 (lfIn_len st (gt units k)) (units.take k) (if gt units k ≠ gt st (gt units k) then found ++ [[[gt units k, gt st (gt units k)], [gt st (gt units k), gt units k], [gt units k, gt st (gt units k)]]] else found)
  have h2 : (units.take k).length ≤ 9 := by rw [List.length_take]; omega
  have h3 : (if gt units k ≠ gt st (gt units k) then found ++ [[[gt units k, gt st (gt units k)], [gt st (gt units k), gt units k], [gt units k, gt st (gt units k)]]] else found).length ≤ found.length + 1 := by
    split <;> simp
  omega
set_option linter.unusedVariables false in
theorem ok_law_flips {f : Addr} {fd : FuncData} (F : Fun K "_law_flips" "_law_flips" s_law_flips f fd) (T : Txt mg) : FnOk P w K mg base CX0 1 f fd ["_law_state_here"] (spLFlips K) := by
  refine F.ok sc_law_flips (fun vs H Q E h => ?_) (fun cdv A outer s H vs Q E hr h => ?_)
  · obtain ⟨_, _, _, rfl, _⟩ := h
    rfl
  · obtain ⟨sa, n, st, rfl, hS, S, hn, q⟩ := h
    refine ⟨_, (pss_cons (ps_setLc (i := 1) (own := [("_law_x", 2)]) (g := gName 2) rfl sc_law_flips.nd rfl rfl (sw_true rfl rfl rfl (by decide +kernel)) (pi_range1 (by rfl) T.b_range (pa_cons (pe_callB call_len_seq (by rfl) T.b_len (by decide +kernel) (pa_cons (pv 0) pa_nil)) pa_nil)) (blkOk_by (N := N_law_flips) (sc := defScope s_law_flips) (by decide +kernel)) (fun _ _ _ _ _ => pg_name (i := 2) sc_law_flips.nd rfl (Or.inl rfl)) (fun _ _ _ _ _ => (pts_one (pt_cmpR op_le (pv 2) (pe_ix (ix_listK K rfl) (pv 0) (pv 2) (fun _ _ => rfl)) (nomark _)))) (fun _ _ _ _ _ => (pv 2)))
  (pss_cons (ps_set (i := 3) sc_law_flips.nd rfl (by first | exact Or.inl rfl | exact Or.inr rfl) (pe_lst pa_nil))
  (pss_cons (ps_for PassesOwn.never rfl (pi_range1 (by rfl) T.b_range (pa_cons (pe_callB call_len_seq (by rfl) T.b_len (by decide +kernel) (pa_cons (pv 1) pa_nil)) pa_nil)) (pg_name (i := 4) sc_law_flips.nd rfl (by first | exact Or.inl rfl | exact Or.inr rfl)) (pss_cons (ps_set (i := 5) sc_law_flips.nd rfl (by first | exact Or.inl rfl | exact Or.inr rfl) (pe_ix ix_list (pv 1) (pv 4) (fun _ _ => rfl)))
  (pss_cons (ps_set (i := 6) sc_law_flips.nd rfl (by first | exact Or.inl rfl | exact Or.inr rfl) (pe_ix ix_list (pv 0) (pv 5) (fun _ _ => rfl)))
  (pss_cons (ps_if (pt_cmpR op_ne (pv 5) (pv 6) (nomark _)) (pss_one (ps_expr (pe_bm PySem.F.plainAttrs_list PySem.F.slot_list_append PySem.F.type_list_append mt_append (pv 3) (pa_cons (pe_lst (pa_cons (pe_lst (pa_cons (pv 5) (pa_cons (pv 6) pa_nil))) (pa_cons (pe_lst (pa_cons (pv 6) (pa_cons (pv 5) pa_nil))) (pa_cons (pe_lst (pa_cons (pv 5) (pa_cons (pv 6) pa_nil))) pa_nil)))) pa_nil)))) pss_nil)
  (pss_one (ps_for PassesOwn.never rfl (pi_list (pe_slice sl_list (pv 1) po_none (po_some (pv 4)))) (pg_name (i := 7) sc_law_flips.nd rfl (by first | exact Or.inl rfl | exact Or.inr rfl)) (pss_cons (ps_set (i := 8) sc_law_flips.nd rfl (by first | exact Or.inl rfl | exact Or.inr rfl) (pe_ix ix_list (pv 0) (pv 7) (fun _ _ => rfl)))
  (pss_one (ps_if (PW.pt (pw_and (pt_cmpR op_eq (pv 5) (pv 6) (nomark _)) (pw_and1 (pt_cmpR op_eq (pv 7) (pv 8) (nomark _))))) (pss_one (ps_expr (pe_bm PySem.F.plainAttrs_list PySem.F.slot_list_append PySem.F.type_list_append mt_append (pv 3) (pa_cons (pe_lst (pa_cons (pe_lst (pa_cons (pv 7) (pa_cons (pv 5) pa_nil))) (pa_cons (pe_lst (pa_cons (pv 7) (pa_cons (pv 5) pa_nil))) (pa_cons (pe_lst (pa_cons (pv 5) (pa_cons (pv 7) pa_nil))) pa_nil)))) pa_nil)))) (pss_one (ps_if (PW.pt (pw_and (pt_cmpR op_ne (pv 5) (pv 6) (nomark _)) (pw_and1 (pt_cmpR op_ne (pv 7) (pv 8) (nomark _))))) (pss_cons (ps_expr (pe_bm PySem.F.plainAttrs_list PySem.F.slot_list_append PySem.F.type_list_append mt_append (pv 3) (pa_cons (pe_lst (pa_cons (pe_lst (pa_cons (pv 5) (pa_cons (pv 6) (pa_cons (pv 7) (pa_cons (pv 8) pa_nil))))) (pa_cons (pe_lst (pa_cons (pv 6) (pa_cons (pv 5) (pa_cons (pv 8) (pa_cons (pv 7) pa_nil))))) (pa_cons (pe_lst (pa_cons (pv 8) (pa_cons (pv 7) (pa_cons (pv 6) (pa_cons (pv 5) pa_nil))))) pa_nil)))) pa_nil)))
  (pss_one (ps_expr (pe_bm PySem.F.plainAttrs_list PySem.F.slot_list_append PySem.F.type_list_append mt_append (pv 3) (pa_cons (pe_lst (pa_cons (pe_lst (pa_cons (pv 5) (pa_cons (pv 6) (pa_cons (pv 8) (pa_cons (pv 7) pa_nil))))) (pa_cons (pe_lst (pa_cons (pv 6) (pa_cons (pv 5) (pa_cons (pv 7) (pa_cons (pv 8) pa_nil))))) (pa_cons (pe_lst (pa_cons (pv 7) (pa_cons (pv 8) (pa_cons (pv 6) (pa_cons (pv 5) pa_nil))))) pa_nil)))) pa_nil))))) (pss_one (ps_if (pt_cmpR op_ne (pv 5) (pv 6) (nomark _)) (pss_cons (ps_expr (pe_bm PySem.F.plainAttrs_list PySem.F.slot_list_append PySem.F.type_list_append mt_append (pv 3) (pa_cons (pe_lst (pa_cons (pe_lst (pa_cons (pv 5) (pa_cons (pv 6) (pa_cons (pv 7) pa_nil)))) (pa_cons (pe_lst (pa_cons (pv 6) (pa_cons (pv 5) (pa_cons (pv 7) pa_nil)))) (pa_cons (pe_lst (pa_cons (pv 7) (pa_cons (pv 6) (pa_cons (pv 5) pa_nil)))) pa_nil)))) pa_nil)))
  (pss_one (ps_expr (pe_bm PySem.F.plainAttrs_list PySem.F.slot_list_append PySem.F.type_list_append mt_append (pv 3) (pa_cons (pe_lst (pa_cons (pe_lst (pa_cons (pv 6) (pa_cons (pv 5) (pa_cons (pv 7) pa_nil)))) (pa_cons (pe_lst (pa_cons (pv 5) (pa_cons (pv 6) (pa_cons (pv 7) pa_nil)))) (pa_cons (pe_lst (pa_cons (pv 7) (pa_cons (pv 5) (pa_cons (pv 6) pa_nil)))) pa_nil)))) pa_nil))))) (pss_cons (ps_expr (pe_bm PySem.F.plainAttrs_list PySem.F.slot_list_append PySem.F.type_list_append mt_append (pv 3) (pa_cons (pe_lst (pa_cons (pe_lst (pa_cons (pv 7) (pa_cons (pv 8) (pa_cons (pv 5) pa_nil)))) (pa_cons (pe_lst (pa_cons (pv 8) (pa_cons (pv 7) (pa_cons (pv 5) pa_nil)))) (pa_cons (pe_lst (pa_cons (pv 5) (pa_cons (pv 8) (pa_cons (pv 7) pa_nil)))) pa_nil)))) pa_nil)))
  (pss_one (ps_expr (pe_bm PySem.F.plainAttrs_list PySem.F.slot_list_append PySem.F.type_list_append mt_append (pv 3) (pa_cons (pe_lst (pa_cons (pe_lst (pa_cons (pv 8) (pa_cons (pv 7) (pa_cons (pv 5) pa_nil)))) (pa_cons (pe_lst (pa_cons (pv 7) (pa_cons (pv 8) (pa_cons (pv 5) pa_nil)))) (pa_cons (pe_lst (pa_cons (pv 5) (pa_cons (pv 7) (pa_cons (pv 8) pa_nil)))) pa_nil)))) pa_nil))))))))))))))))))
  (pss_one (ps_ret (pv 3)))))), ?_⟩
    refine x_start (σ := [some _, none, none, none, none, none, none, none, none]) rfl ?_
    have sl := S.len
    walk_at "x"
    refine x_lcR1 ?_
    walk_at "x"
    refine ⟨sa, _, rfl, .inl hS, ?_⟩
    rw [List.length_map]
    walk_at "x"
    refine ⟨_, rfl, by omega, by omega, ?_⟩
    rw [Int.toNat_natCast]
    refine compR_map (by omega) (fun x => decide (x ≤ gt st x)) vn (fun _ => rfl) (fun i H2 hi e2 Qt qt => ?_) (fun i H2 hi hu e2 Qe qe => ?_) (fun lu H1 n1 e1 h1 => ?_)
    · rw [Int.zero_add]
      walk_at "x"
      refine x_ixN (e2.l hS) rfl (by omega) ?_
      walk_at "x"
      have ed : decide ((i : Int) ≤ ((gt st i : Nat) : Int)) = decide (i ≤ gt st i) := decide_eq_decide.mpr (by omega)
      rw [ed]
      exact qt _ (Ex.refl _)
    · rw [Int.zero_add]
      walk_at "x"
      exact qe _ (Ex.refl _)
    have eu : accOf (fun x => decide (x ≤ gt st x)) vn (List.range st.length) = (unitsOf st).map vn := rfl
    rw [eu] at h1
    have um : ∀ r ∈ unitsOf st, r < st.length := fun r hr => List.mem_range.mp (List.mem_filter.mp hr).1
    have ul : (unitsOf st).length ≤ 4 := by
      have := List.length_filter_le (fun x => decide (x ≤ gt st x)) (List.range st.length)
      rw [List.length_range] at this
      unfold unitsOf
      omega
    walk_at "x"
    refine ⟨by decide, fun lf nf => ?_⟩
    have x2 := Ex.new (o := .lst []) nf
    have A2 : AccAt (rFlip K) H (upd H1 lf (.lst [])) lf [] := .nil upd_same
    have mf := e1.none nf
    have e2 := Ex.trans e1 x2
    have h2 := x2 _ _ h1
    have dfu : lu ≠ lf := fun z => by rw [← z, h1] at nf; cases nf
    generalize upd H1 lf (.lst []) = H2 at x2 A2 e2 h2 ⊢
    walk_at "x"
    refine x_forR1 ?_
    walk_at "x"
    refine ⟨lu, _, rfl, .inl (SqL.of h2), ?_⟩
    rw [List.length_map]
    walk_at "x"
    refine ⟨_, rfl, by omega, by omega, ?_⟩
    rw [Int.toNat_natCast]
    generalize hun : unitsOf st = units at h1 h2 um ul
    refine loopR_foldi (lawFlipsAt st units) (fun k found σ' H' => Ex H H' ∧ H' lu = some (.lst (units.map vn)) ∧ found.length ≤ 100 * k ∧ AccAt (rFlip K) H H' lf found ∧ ∃ y4 y5 y6 y7 y8, σ' = [some (.ref sa), some (.ref lu), none, some (.ref lf), y4, y5, y6, y7, y8])
      [] ⟨e2, h2, Nat.le_refl _, A2, _, _, _, _, _, rfl⟩ ?_ ?_
    · rintro found k σ' H3 hk ⟨e3, h3, fl, A3, y4, y5, y6, y7, y8, rfl⟩
      rw [Int.zero_add]
      refine x_name ?_
      dsimp only [List.set_cons_succ, List.set_cons_zero]
      refine x_seq (x_asg (x_op (x_var rfl (x_var rfl ?_))))
      refine x_ixN (n := k) (SqL.of h3) rfl hk ?_
      have pm := um _ (gt_mem hk)
      have lfl := lfAt_len (st := st) found k (by omega : units.length ≤ 9)
      rw [lfAt_eq] at lfl ⊢
      generalize gt units k = p at pm lfl ⊢
      refine x_name ?_
      dsimp only [List.set_cons_succ, List.set_cons_zero]
      refine x_seq (x_asg (x_op (x_var rfl (x_var rfl ?_))))
      refine x_ixN (n := p) (e3.l hS) rfl pm ?_
      refine x_name ?_
      dsimp only [List.set_cons_succ, List.set_cons_zero]
      refine x_seqI (fun σ' H' => Ex H H' ∧ H' lu = some (.lst (units.map vn)) ∧ AccAt (rFlip K) H H' lf (if p ≠ gt st p then found ++ [[[p, gt st p], [gt st p, p], [p, gt st p]]] else found) ∧ σ' = [some (.ref sa), some (.ref lu), none, some (.ref lf), some (vn k), some (vn p), some (vn (gt st p)), y7, y8]) (fun N hN => ?_) ?_
      · walk_at "x"
        refine x_ndecI (fun h5 => ?_) (fun h5 => ?_)
        · walk_at "y"
          refine ⟨A3.ty, ?_⟩
          refine app_flip (us := [p, gt st p]) (vs := [gt st p, p]) (ws := [p, gt st p]) A3 e3 mf (by omega) (by simp) (by simp) (by simp) (fun H' Q' e' q' => ?_) (fun H' Q' e' q' => ?_) (fun H' Q' e' q' => ?_) fun H4 e4 k4 A4 => ?_
          · walk_at "x"
            exact q'
          · walk_at "x"
            exact q'
          · walk_at "x"
            exact q'
          · walk_at "x"
            refine hN _ _ ⟨e4, k4 _ _ dfu h3, ?_, rfl⟩
            rw [if_pos (by omega)]
            exact A4
        · walk_at "x"
          refine hN _ _ ⟨e3, h3, ?_, rfl⟩
          rw [if_neg (by omega)]
          exact A3
      generalize hf1 : (if p ≠ gt st p then found ++ [[[p, gt st p], [gt st p, p], [p, gt st p]]] else found) = found1 at lfl ⊢
      have fl1 : found1.length ≤ found.length + 1 := by
        rw [← hf1]
        split <;> simp
      clear hf1
      rintro _ H4 ⟨e4, h4, A4, rfl⟩
      refine x_forL ?_
      walk_at "x"
      refine ⟨_, rfl, ?_⟩
      refine ⟨lu, _, rfl, SqL.of h4, fun lc nc => ?_⟩
      rw [cut_to, ← List.map_take]
      have x5 := Ex.new (o := .lst ((units.take k).map vn)) nc
      have h5c : upd H4 lc (.lst ((units.take k).map vn)) lc = some (.lst ((units.take k).map vn)) := upd_same
      have h5 := x5 _ _ h4
      have A5 := A4.grow x5
      have e5 := Ex.trans e4 x5
      have dcf : lc ≠ lf := fun z => by
        obtain ⟨ws, hws, _⟩ := A4.at_
        rw [z, hws] at nc
        cases nc
      generalize upd H4 lc (.lst ((units.take k).map vn)) = H5 at h5c h5 A5 e5 ⊢
      refine ⟨lc, rfl, ⟨_, SqL.of h5c⟩, ?_⟩
      have tl : (units.take k).length ≤ 4 := by rw [List.length_take]; omega
      refine loopL_foldi (xs := units.take k) (List.length_map _) (lfIn st p) (fun i found σ' H' => Ex H H' ∧ H' lu = some (.lst (units.map vn)) ∧ H' lc = some (.lst ((units.take k).map vn)) ∧ found.length ≤ found1.length + 2 * i ∧ AccAt (rFlip K) H H' lf found ∧ ∃ y7 y8, σ' = [some (.ref sa), some (.ref lu), none, some (.ref lf), some (vn k), some (vn p), some (vn (gt st p)), y7, y8])
        found1 ⟨e5, h5, h5c, Nat.le_refl _, A5, _, _, rfl⟩ (fun i s σ' H' h => SqL.of h.2.2.1) ?_ ?_
      · rintro found i r u σ' H6 hr' hu ⟨e6, h6, h6c, fl6, A6, y7, y8, rfl⟩
        cases vn_of hr' hu
        have rm := um r (List.mem_of_mem_take (List.mem_of_getElem? hr'))
        have il : i < (units.take k).length := (List.getElem?_eq_some_iff.mp hr').1
        have lin := lfIn_len st p found r
        refine x_name ?_
        dsimp only [List.set_cons_succ, List.set_cons_zero]
        refine x_seq (x_asg (x_op (x_var rfl (x_var rfl ?_))))
        refine x_ixN (n := r) (e6.l hS) rfl rm ?_
        refine x_name ?_
        dsimp only [List.set_cons_succ, List.set_cons_zero]
        refine x_ifsE (H := H6) (p = gt st p ∧ r = gt st r) (¬ (p = gt st p ∧ r = gt st r)) (fun Qt qt => ?_) (fun H' e' hc => ?_) (fun H' e' hc => ?_)
        · walk_at "x"
          refine x_decI (fun h6 => ?_) (fun h6 => ?_)
          · walk_at "x"
            refine qt _ _ (Ex.refl _) (fun z => ?_) (fun z => ?_)
            · have := of_decide_eq_true z
              rw [vint_iff] at this
              omega
            · have := of_decide_eq_false z
              rw [vint_iff] at this
              omega
          · exact qt _ _ (Ex.refl _) (fun z => by cases z) (fun _ => by omega)
        · have el : lfIn st p found r = found ++ [[[r, p], [r, p], [p, r]]] := by unfold lfIn; rw [if_pos hc]
          rw [el] at lin ⊢
          replace A6 := A6.grow e'
          replace h6 := e' _ _ h6
          replace h6c := e' _ _ h6c
          replace e6 := Ex.trans e6 e'
          walk_at "y"
          refine ⟨A6.ty, ?_⟩
          refine app_flip (us := [r, p]) (vs := [r, p]) (ws := [p, r]) A6 e6 mf (by omega) (by simp) (by simp) (by simp) (fun H' Q' e' q' => ?_) (fun H' Q' e' q' => ?_) (fun H' Q' e' q' => ?_) fun H7 e7 k7 A7 => ?_
          · walk_at "x"
            exact q'
          · walk_at "x"
            exact q'
          · walk_at "x"
            exact q'
          · walk_at "x"
            refine ⟨e7, k7 _ _ dfu h6, k7 _ _ dcf h6c, ?_, A7, _, _, rfl⟩
            rw [List.length_append]
            show found.length + 1 ≤ _
            omega
        replace A6 := A6.grow e'
        replace h6 := e' _ _ h6
        replace h6c := e' _ _ h6c
        replace e6 := Ex.trans e6 e'
        clear e'
        refine x_ifsE (H := H') (p ≠ gt st p ∧ r ≠ gt st r) (¬ (p ≠ gt st p ∧ r ≠ gt st r)) (fun Qt qt => ?_) (fun H8 e' hd => ?_) (fun H8 e' hd => ?_)
        · walk_at "x"
          refine x_ndecI (fun h6 => ?_) (fun h6 => ?_)
          · walk_at "x"
            refine qt _ _ (Ex.refl _) (fun z => ?_) (fun z => ?_)
            · have : ¬ (V.int (r : Int) = V.int ((gt st r : Nat) : Int)) := by simpa using z
              rw [vint_iff] at this
              omega
            · have : (V.int (r : Int) = V.int ((gt st r : Nat) : Int)) := by simpa using z
              rw [vint_iff] at this
              omega
          · exact qt _ _ (Ex.refl _) (fun z => by cases z) (fun _ => by omega)
        · have el : lfIn st p found r = (found ++ [[[p, gt st p, r, gt st r], [gt st p, p, gt st r, r], [gt st r, r, gt st p, p]]]) ++ [[[p, gt st p, gt st r, r], [gt st p, p, r, gt st r], [r, gt st r, gt st p, p]]] := by unfold lfIn; rw [if_neg hc, if_pos hd]
          rw [el] at lin ⊢
          replace A6 := A6.grow e'
          replace h6 := e' _ _ h6
          replace h6c := e' _ _ h6c
          replace e6 := Ex.trans e6 e'
          walk_at "y"
          refine ⟨A6.ty, ?_⟩
          refine app_flip (us := [p, gt st p, r, gt st r]) (vs := [gt st p, p, gt st r, r]) (ws := [gt st r, r, gt st p, p]) A6 e6 mf (by omega) (by simp) (by simp) (by simp) (fun H' Q' e' q' => ?_) (fun H' Q' e' q' => ?_) (fun H' Q' e' q' => ?_) fun H7 e7 k7 A7 => ?_
          · walk_at "x"
            exact q'
          · walk_at "x"
            exact q'
          · walk_at "x"
            exact q'
          · walk_at "y"
            refine ⟨A7.ty, ?_⟩
            have hg7 : (found ++ [[[p, gt st p, r, gt st r], [gt st p, p, gt st r, r], [gt st r, r, gt st p, p]]]).length < 1000000 := by rw [List.length_append]; show found.length + 1 < _; omega
            refine app_flip (us := [p, gt st p, gt st r, r]) (vs := [gt st p, p, r, gt st r]) (ws := [r, gt st r, gt st p, p]) A7 e7 mf hg7 (by simp) (by simp) (by simp) (fun H' Q' e' q' => ?_) (fun H' Q' e' q' => ?_) (fun H' Q' e' q' => ?_) fun H9 e9 k9 A9 => ?_
            · walk_at "x"
              exact q'
            · walk_at "x"
              exact q'
            · walk_at "x"
              exact q'
            · walk_at "x"
              refine ⟨e9, k9 _ _ dfu (k7 _ _ dfu h6), k9 _ _ dcf (k7 _ _ dcf h6c), ?_, A9, _, _, rfl⟩
              omega
        replace A6 := A6.grow e'
        replace h6 := e' _ _ h6
        replace h6c := e' _ _ h6c
        replace e6 := Ex.trans e6 e'
        clear e'
        refine x_ifsE (H := H8) (p ≠ gt st p) (¬ (p ≠ gt st p)) (fun Qt qt => ?_) (fun H10 e' he => ?_) (fun H10 e' he => ?_)
        · walk_at "x"
          refine qt _ _ (Ex.refl _) (fun z => ?_) (fun z => ?_)
          · have : ¬ (V.int (p : Int) = V.int ((gt st p : Nat) : Int)) := by simpa using z
            rw [vint_iff] at this
            omega
          · have : (V.int (p : Int) = V.int ((gt st p : Nat) : Int)) := by simpa using z
            rw [vint_iff] at this
            omega
        · have el : lfIn st p found r = (found ++ [[[p, gt st p, r], [gt st p, p, r], [r, gt st p, p]]]) ++ [[[gt st p, p, r], [p, gt st p, r], [r, p, gt st p]]] := by unfold lfIn; rw [if_neg hc, if_neg hd, if_pos he]
          rw [el] at lin ⊢
          replace A6 := A6.grow e'
          replace h6 := e' _ _ h6
          replace h6c := e' _ _ h6c
          replace e6 := Ex.trans e6 e'
          walk_at "y"
          refine ⟨A6.ty, ?_⟩
          refine app_flip (us := [p, gt st p, r]) (vs := [gt st p, p, r]) (ws := [r, gt st p, p]) A6 e6 mf (by omega) (by simp) (by simp) (by simp) (fun H' Q' e' q' => ?_) (fun H' Q' e' q' => ?_) (fun H' Q' e' q' => ?_) fun H7 e7 k7 A7 => ?_
          · walk_at "x"
            exact q'
          · walk_at "x"
            exact q'
          · walk_at "x"
            exact q'
          · walk_at "y"
            refine ⟨A7.ty, ?_⟩
            have hg7 : (found ++ [[[p, gt st p, r], [gt st p, p, r], [r, gt st p, p]]]).length < 1000000 := by rw [List.length_append]; show found.length + 1 < _; omega
            refine app_flip (us := [gt st p, p, r]) (vs := [p, gt st p, r]) (ws := [r, p, gt st p]) A7 e7 mf hg7 (by simp) (by simp) (by simp) (fun H' Q' e' q' => ?_) (fun H' Q' e' q' => ?_) (fun H' Q' e' q' => ?_) fun H9 e9 k9 A9 => ?_
            · walk_at "x"
              exact q'
            · walk_at "x"
              exact q'
            · walk_at "x"
              exact q'
            · walk_at "x"
              refine ⟨e9, k9 _ _ dfu (k7 _ _ dfu h6), k9 _ _ dcf (k7 _ _ dcf h6c), ?_, A9, _, _, rfl⟩
              omega
        · have el : lfIn st p found r = (found ++ [[[r, gt st r, p], [gt st r, r, p], [p, gt st r, r]]]) ++ [[[gt st r, r, p], [r, gt st r, p], [p, r, gt st r]]] := by unfold lfIn; rw [if_neg hc, if_neg hd, if_neg he]
          rw [el] at lin ⊢
          replace A6 := A6.grow e'
          replace h6 := e' _ _ h6
          replace h6c := e' _ _ h6c
          replace e6 := Ex.trans e6 e'
          walk_at "y"
          refine ⟨A6.ty, ?_⟩
          refine app_flip (us := [r, gt st r, p]) (vs := [gt st r, r, p]) (ws := [p, gt st r, r]) A6 e6 mf (by omega) (by simp) (by simp) (by simp) (fun H' Q' e' q' => ?_) (fun H' Q' e' q' => ?_) (fun H' Q' e' q' => ?_) fun H7 e7 k7 A7 => ?_
          · walk_at "x"
            exact q'
          · walk_at "x"
            exact q'
          · walk_at "x"
            exact q'
          · walk_at "y"
            refine ⟨A7.ty, ?_⟩
            have hg7 : (found ++ [[[r, gt st r, p], [gt st r, r, p], [p, gt st r, r]]]).length < 1000000 := by rw [List.length_append]; show found.length + 1 < _; omega
            refine app_flip (us := [gt st r, r, p]) (vs := [r, gt st r, p]) (ws := [p, r, gt st r]) A7 e7 mf hg7 (by simp) (by simp) (by simp) (fun H' Q' e' q' => ?_) (fun H' Q' e' q' => ?_) (fun H' Q' e' q' => ?_) fun H9 e9 k9 A9 => ?_
            · walk_at "x"
              exact q'
            · walk_at "x"
              exact q'
            · walk_at "x"
              exact q'
            · walk_at "x"
              refine ⟨e9, k9 _ _ dfu (k7 _ _ dfu h6), k9 _ _ dcf (k7 _ _ dcf h6c), ?_, A9, _, _, rfl⟩
              omega
      · rintro σ' H6 ⟨e6, h6, h6c, fl6, A6, y7, y8, rfl⟩
        refine ⟨e6, h6, ?_, A6, _, _, _, _, _, rfl⟩
        omega
    · rintro σ' H3 ⟨e3, h3, fl, A3, y4, y5, y6, y7, y8, rfl⟩
      walk_at "x"
      have : lawFlips st = (List.range units.length).foldl (lawFlipsAt st units) [] := by unfold lawFlips; rw [hun]
      rw [← this] at A3
      exact q lf _ e3 mf A3
end
end Pm
end
section
set_option Elab.async false
set_option maxRecDepth 100000
set_option maxHeartbeats 4000000
set_option linter.all false
namespace Pm
open PySem L2
local macro_rules | `(tactic| walk_at "ex") => `(tactic| first | exact Ex.refl _ | assumption | exact Ex.new (by assumption) | exact Ex.trans (by walk_at "ex") (by assumption) | exact Ex.trans (by walk_at "ex") (Ex.new (by assumption)) | exact Ex.mut (by walk_at "ex") (by first | assumption | exact Ex.none (by walk_at "ex") (by assumption)))
local macro_rules | `(tactic| walk_at "sq") => `(tactic| first | assumption | exact Ex.l (by walk_at "ex") (by assumption) | exact Ex.t (by walk_at "ex") (by assumption) | exact SqL.of (by walk_at "hp") | exact SqT.of (by walk_at "hp") | exact Ex.l (by walk_at "ex") (LstA.sq (by assumption)) | exact Ex.t (by walk_at "ex") (TupA.sq (by assumption)))
local macro_rules | `(tactic| walk_at "hp") => `(tactic| first | assumption | exact upd_same | (refine (by walk_at "ex" : Ex _ _) _ _ ?_; assumption) | (refine (by walk_at "ex" : Ex _ _) _ _ ?_; exact upd_same))
local macro_rules | `(tactic| walk_at "x1") => `(tactic| first
  | (with_reducible refine x_seq ?_) | (with_reducible refine x_asg ?_) | ((with_reducible refine x_name ?_); dsimp only [List.set_cons_succ, List.set_cons_zero])
  | (with_reducible refine x_ret ?_) | (with_reducible refine x_if ?_) | (with_reducible refine x_drop ?_) | (with_reducible refine x_next ?_)
  | ((with_reducible refine' x_var ?h ?_); (case h => rfl)) | (with_reducible refine x_c ?_) | (with_reducible refine x_op ?_) | (with_reducible refine x_un ?_)
  | (with_reducible refine x_I0 ?_) | ((with_reducible refine x_I ?h ?_); (case h => first | exact Or.inl (by omega) | exact Or.inr (by omega) | omega | (constructor <;> omega))) | (with_reducible refine x_U ?_)
  | ((with_reducible refine' x_eq ?h ?_); (case h => rfl)) | ((with_reducible refine' x_ne ?h ?_); (case h => rfl))
  | (with_reducible refine x_cb ?_) | (with_reducible refine x_call ?_) | (with_reducible refine x_nil ?_) | (with_reducible refine x_cons ?_)
  | (with_reducible refine x_test ?_) | (with_reducible refine x_tB ?_) | (with_reducible refine x_bl ?_) | (with_reducible refine x_or ?_) | (with_reducible refine x_and ?_) | (with_reducible refine x_not ?_)
  | (with_reducible refine x_ifE ?_) | (with_reducible refine x_lst ?_) | (with_reducible refine x_tup ?_)
  | (with_reducible refine x_bm ?_) | (with_reducible refine x_bmG ?_) | (with_reducible refine x_chain ?_) | (with_reducible refine x_orV ?_) | (with_reducible refine x_andV ?_) | (with_reducible refine x_notV ?_) | (with_reducible refine x_sub ?_) | (with_reducible refine x_star ?_) | (with_reducible refine x_sl ?_) | (with_reducible refine x_po ?_) | (with_reducible refine x_pn ?_))
local macro_rules | `(tactic| walk_at "y1") => `(tactic| first
  | (with_reducible refine x_seq ?_) | (with_reducible refine x_asg ?_) | ((with_reducible refine x_name ?_); dsimp only [List.set_cons_succ, List.set_cons_zero])
  | (with_reducible refine x_drop ?_) | (with_reducible refine x_next ?_)
  | ((with_reducible refine' x_var ?h ?_); (case h => rfl)) | (with_reducible refine x_c ?_) | (with_reducible refine x_op ?_) | (with_reducible refine x_un ?_)
  | (with_reducible refine x_I0 ?_) | ((with_reducible refine x_I ?h ?_); (case h => first | exact Or.inl (by omega) | exact Or.inr (by omega) | omega | (constructor <;> omega))) | (with_reducible refine x_U ?_)
  | ((with_reducible refine' x_eq ?h ?_); (case h => rfl)) | ((with_reducible refine' x_ne ?h ?_); (case h => rfl))
  | (with_reducible refine x_cb ?_) | (with_reducible refine x_call ?_) | (with_reducible refine x_nil ?_) | (with_reducible refine x_cons ?_)
  | (with_reducible refine x_test ?_) | (with_reducible refine x_tB ?_) | (with_reducible refine x_bl ?_) | (with_reducible refine x_or ?_) | (with_reducible refine x_and ?_) | (with_reducible refine x_not ?_)
  | (with_reducible refine x_ifE ?_) | (with_reducible refine x_lst ?_) | (with_reducible refine x_tup ?_)
  | (with_reducible refine x_bm ?_) | (with_reducible refine x_bmG ?_) | (with_reducible refine x_chain ?_) | (with_reducible refine x_orV ?_) | (with_reducible refine x_andV ?_) | (with_reducible refine x_notV ?_) | (with_reducible refine x_sub ?_) | (with_reducible refine x_star ?_) | (with_reducible refine x_sl ?_) | (with_reducible refine x_po ?_) | (with_reducible refine x_pn ?_))
local macro_rules | `(tactic| walk_at "xi") => `(tactic| first | (with_reducible refine iteT ?_) | (with_reducible refine iteF ?_) | (with_reducible refine x_notT ?_) | (with_reducible refine x_notF ?_))
local macro_rules | `(tactic| walk_at "x") => `(tactic| ((try dsimp only); repeat ((first | walk_at "x1" | walk_at "xi"); (try dsimp only))))
local macro_rules | `(tactic| walk_at "y") => `(tactic| ((try dsimp only); repeat ((first | walk_at "y1" | walk_at "xi"); (try dsimp only))))

def setsIn (f : Flip) (acc : List (List Flip)) (one : List Flip) : List (List Flip) := if (f.getD 0 []).filter (fun x => decide (x ∈ busyOf one)) = [] then acc ++ [one ++ [f]] else acc
def setsTo (st : List Nat) (i : Nat) : List (List Flip) := ((lawFlips st).take i).foldl (fun sets f => sets.foldl (setsIn f) sets) [[]]
def flipB (n : Nat) (f : Flip) : Bool := decide (f.length = 3) && (decide ((f.getD 0 []).length ≤ 4) && (decide ((f.getD 2 []).length = (f.getD 0 []).length) && (f.getD 0 []).all fun x => decide (x < n)))
theorem states_all : ((List.range 5).all fun n => (statesN n).all fun st => decide (st.length = n) && (List.range n).all fun i => decide (gt st i < n) && decide (gt st (gt st i) = i)) = true := by decide +kernel
theorem flips_all : ((List.range 5).all fun n => (statesN n).all fun st => decide ((lawFlips st).length ≤ 100) && (lawFlips st).all (flipB n)) = true := by decide +kernel
theorem sets_all : ((List.range 5).all fun n => (statesN n).all fun st => (List.range ((lawFlips st).length + 1)).all fun i => decide ((setsTo st i).length ≤ 200) && (setsTo st i).all fun one => decide (one.length ≤ 4) && one.all (flipB n)) = true := by decide +kernel
theorem st_of {n : Nat} (hn : n ≤ 4) {st : List Nat} (h : st ∈ statesN n) : StOk n st := by
  have f := List.all_eq_true.mp (List.all_eq_true.mp states_all n (List.mem_range.mpr (by omega))) st h
  rw [Bool.and_eq_true, decide_eq_true_iff, List.all_eq_true] at f
  refine ⟨f.1, fun i hi => ?_⟩
  have g := f.2 i (List.mem_range.mpr hi)
  rw [Bool.and_eq_true, decide_eq_true_iff, decide_eq_true_iff] at g
  exact g
section
variable {P : Program} {w : World} {K : PySem.W.Frag} {mg : Str → Option Value} {base : Heap}
theorem flip_at {M : Av} {H : Hp} {v : V} {f : Flip} (h : (rFlip K).rel M H v f) {j : Nat} (hj : j < f.length) : ∃ a us l, v = .ref a ∧ H a = some (.lst us) ∧ us[j]? = some (.ref l) ∧ H l = some (.lst ((f.getD j []).map vn)) := by
  obtain ⟨a, us, rfl, _, h2, h3⟩ := h
  have e : f[j]? = some (f.getD j []) := by
    rw [List.getD_eq_getElem?_getD, List.getElem?_eq_getElem hj]
    rfl
  obtain ⟨u, hu, ru⟩ := pair_at h3 e
  obtain ⟨l, rfl, _, hl⟩ := rPLn ru
  exact ⟨a, us, l, rfl, h2, hu, hl⟩
/-! _law_sets: slots _law_state_here 0, _law_sets_here 1, _law_flip_here 2, _law_one 3, _law_busy 4, _law_other 5, _law_x 6; calls ['_law_flips']; built-ins ['list'] -/
abbrev s_law_sets : Stmt := top 47
abbrev N_law_sets : List Str := ["_law_state_here", "_law_sets_here", "_law_flip_here", "_law_one", "_law_busy", "_law_other", "_law_x"]
theorem sc_law_sets : FnScope N_law_sets ["_law_state_here"] (defScope s_law_sets) := ⟨rfl, rfl, rfl, by decide +kernel, rfl, by decide +kernel, by decide +kernel⟩

def spLSets (K : PySem.W.Frag) : Sp := fun vs H Q _ => ∃ (a : Addr) (n : Nat) (st : List Nat), vs = [.ref a] ∧ SqL K H a (st.map vn) ∧ n ≤ 4 ∧ st ∈ statesN n ∧ ∀ l H', Ex H H' → H l = none → AccAt (rPL (rFlip K)) H H' l (lawSets st) → Q (.ref l) H'
set_option linter.unusedVariables false in
theorem ok_law_sets {f : Addr} {fd : FuncData} (F : Fun K "_law_sets" "_law_sets" s_law_sets f fd) (T : Txt mg) (D_law_flips : Df P w K mg base "_law_flips" 1 ["_law_state_here"] (spLFlips K)) : FnOk P w K mg base CX0 2 f fd ["_law_state_here"] (spLSets K) := by
  refine F.ok sc_law_sets (fun vs H Q E h => ?_) (fun cdv A outer s H vs Q E hr h => ?_)
  · obtain ⟨_, _, _, rfl, _⟩ := h
    rfl
  · obtain ⟨sa, n, st, rfl, hS, hn, hst, q⟩ := h
    refine ⟨_, (pss_cons (ps_set (i := 1) sc_law_sets.nd rfl (by first | exact Or.inl rfl | exact Or.inr rfl) (pe_lst (pa_cons (pe_lst pa_nil) pa_nil)))
  (pss_cons (ps_for PassesOwn.never rfl (pi_list (pe_callD D_law_flips (hr.mono (by decide)) (by rfl) (pa_cons (pv 0) pa_nil))) (pg_name (i := 2) sc_law_sets.nd rfl (by first | exact Or.inl rfl | exact Or.inr rfl)) (pss_one (ps_for PassesOwn.never rfl (pi_list (pe_callTy call_list_of (by rfl) T.b_list (by decide +kernel) (pa_cons (pv 1) pa_nil))) (pg_name (i := 3) sc_law_sets.nd rfl (by first | exact Or.inl rfl | exact Or.inr rfl)) (pss_cons (ps_set (i := 4) sc_law_sets.nd rfl (by first | exact Or.inl rfl | exact Or.inr rfl) (pe_lst pa_nil))
  (pss_cons (ps_for PassesOwn.never rfl (pi_list (pv 3)) (pg_name (i := 5) sc_law_sets.nd rfl (by first | exact Or.inl rfl | exact Or.inr rfl)) (pss_one (ps_set (i := 4) sc_law_sets.nd rfl (by first | exact Or.inl rfl | exact Or.inr rfl) (pe_op op_cat (pv 4) (pe_ix ix_list (pv 5) pe_int (fun _ _ => rfl))))))
  (pss_one (ps_if (pt_cmpR (op_eqD hr.units) (pe_lc (own := [("_law_x", 6)]) (g := gName 6) rfl sc_law_sets.nd (pi_list (pe_ix ix_list (pv 2) pe_int (fun _ _ => rfl))) (blkOk_by (N := N_law_sets) (sc := defScope s_law_sets) (by decide +kernel)) (fun _ _ _ _ _ => pg_name (i := 6) sc_law_sets.nd rfl (Or.inl rfl)) (fun _ _ _ _ _ => (pts_one (pt_cmpR (op_inK K rfl) (pv 6) (pv 4) (by rfl)))) (fun _ _ _ _ _ => (pv 6))) (pe_lst pa_nil) (nomark _)) (pss_one (ps_expr (pe_bm PySem.F.plainAttrs_list PySem.F.slot_list_append PySem.F.type_list_append mt_append (pv 1) (pa_cons (pe_op op_cat (pv 3) (pe_lst (pa_cons (pv 2) pa_nil))) pa_nil)))) pss_nil)))))))
  (pss_one (ps_ret (pv 1))))), ?_⟩
    refine x_start (σ := [some _, none, none, none, none, none, none]) rfl ?_
    have S := st_of hn hst
    walk_at "x"
    refine ⟨by decide, fun l0 n0 => ?_⟩
    walk_at "x"
    refine ⟨by show 1 ≤ sizeLine; decide, fun ls ns => ?_⟩
    have e1 := Ex.trans (Ex.new (o := .lst []) n0) (Ex.new (o := .lst [V.ref l0]) ns)
    have ms := (Ex.new n0).none ns
    have A1 : AccAt (rPL (rFlip K)) H (upd (upd H l0 (.lst [])) ls (.lst [V.ref l0])) ls [[]] := by
      have d : l0 ≠ ls := fun z => by rw [← z, upd_same] at ns; cases ns
      refine ⟨_, upd_same, .cons ⟨l0, [], rfl, fun z => ?_, by rw [upd_ne d]; exact upd_same, .nil⟩ .nil⟩
      rcases z with z | z
      · exact z n0
      · exact d z
    generalize upd (upd H l0 (.lst [])) ls (.lst [V.ref l0]) = H1 at e1 A1 ⊢
    walk_at "x"
    refine x_forL ?_
    walk_at "x"
    refine ⟨sa, n, st, rfl, e1.l hS, S, hn, fun lf H2 e2 nf A2 => ?_⟩
    obtain ⟨fus, hfus, hfp⟩ := A2.ex
    refine ⟨lf, rfl, ⟨_, SqL.of hfus⟩, ?_⟩
    have ff := List.all_eq_true.mp (List.all_eq_true.mp flips_all n (List.mem_range.mpr (by omega))) st hst
    rw [Bool.and_eq_true, decide_eq_true_iff, List.all_eq_true] at ff
    have sf := List.all_eq_true.mp (List.all_eq_true.mp sets_all n (List.mem_range.mpr (by omega))) st hst
    rw [List.all_eq_true] at sf
    obtain ⟨w1, hw1, _⟩ := A1.at_
    have dls : lf ≠ ls := fun z => by rw [z, hw1] at nf; cases nf
    have dom1 : Dom H1 ls := dom_of hw1
    have mf := e1.none nf
    refine loopL_foldi (xs := lawFlips st) hfp.length (fun sets f => sets.foldl (setsIn f) sets) (fun i sets σ' H' => sets = setsTo st i ∧ i ≤ (lawFlips st).length ∧ Ex H H' ∧ ExA (Or1 H1 lf) H2 H' ∧ H' lf = some (.lst fus) ∧ AccAt (rPL (rFlip K)) H H' ls sets ∧ ∃ y2 y3 y4 y5, σ' = [some (.ref sa), some (.ref ls), y2, y3, y4, y5, none])
      [[]] ⟨rfl, Nat.zero_le _, Ex.trans e1 e2, (Ex.refl _).a, hfus, A1.grow e2, _, _, _, _, rfl⟩ (fun i s σ' H' h => SqL.of h.2.2.2.2.1) ?_ ?_
    · rintro sets i fl u σ' H3 hfl hu ⟨es, il, e3, ea3, hf3, A3, y2, y3, y4, y5, rfl⟩
      have flm := List.mem_of_getElem? hfl
      have il2 : i < (lawFlips st).length := (List.getElem?_eq_some_iff.mp hfl).1
      obtain ⟨u', hu', ru⟩ := pair_at hfp hfl
      rw [hu] at hu'
      cases hu'
      have ru3 := (rFlip K).mono ea3 ru
      have fb := ff.2 fl flm
      unfold flipB at fb
      rw [Bool.and_eq_true, Bool.and_eq_true, decide_eq_true_iff, decide_eq_true_iff] at fb
      obtain ⟨f3, f4, _⟩ := fb
      have si := sf i (List.mem_range.mpr (by omega))
      rw [← es, Bool.and_eq_true, decide_eq_true_iff, List.all_eq_true] at si
      obtain ⟨slen, sone⟩ := si
      obtain ⟨fa, _, _, rfl, _⟩ := flip_at ru3 (j := 0) (by omega)
      walk_at "x"
      refine x_forL ?_
      walk_at "x"
      obtain ⟨ous, hous, hop⟩ := A3.ex
      refine ⟨ls, _, rfl, .inl (SqL.of hous), fun lc nc => ?_⟩
      have x4 := Ex.new (o := .lst ous) nc
      have h4c : upd H3 lc (.lst ous) lc = some (.lst ous) := upd_same
      have e4 := Ex.trans e3 x4
      have mc := e3.none nc
      have hop4 := pmono hop fun _ _ q => (rPL (rFlip K)).mono x4.a q
      have A4 := A3.grow x4
      have hf4 := x4 _ _ hf3
      have ea4 := ea3.trans x4.a
      have dcs : lc ≠ ls := fun z => by rw [z, hous] at nc; cases nc
      generalize upd H3 lc (.lst ous) = H4 at x4 h4c e4 hop4 A4 hf4 ea4 ⊢
      refine ⟨lc, rfl, ⟨_, SqL.of h4c⟩, ?_⟩
      refine loopL_foldi (xs := sets) hop.length (setsIn fl) (fun k acc σ' H' => acc.length ≤ sets.length + k ∧ Ex H H' ∧ ExA (Or1 H ls) H4 H' ∧ ExA (Or1 H1 lf) H2 H' ∧ H' lf = some (.lst fus) ∧ H' lc = some (.lst ous) ∧ AccAt (rPL (rFlip K)) H H' ls acc ∧ ∃ y3 y4 y5, σ' = [some (.ref sa), some (.ref ls), some (.ref fa), y3, y4, y5, none])
        sets ⟨Nat.le_refl _, e4, (Ex.refl _).a, ea4, hf4, h4c, A4, _, _, _, rfl⟩ (fun i s σ' H' h => SqL.of h.2.2.2.2.2.1) ?_ ?_
      · rintro acc k one uo σ' H5 hone huo ⟨al, e5, eb5, ea5, hf5, hc5, A5, y3, y4, y5, rfl⟩
        have kl : k < sets.length := (List.getElem?_eq_some_iff.mp hone).1
        have om := sone one (List.mem_of_getElem? hone)
        rw [Bool.and_eq_true, decide_eq_true_iff, List.all_eq_true] at om
        obtain ⟨u', hu', ro⟩ := pair_at hop4 hone
        rw [huo] at hu'
        cases hu'
        have ro5 := (rPL (rFlip K)).mono eb5 ro
        have ru5 := (rFlip K).mono ea5 ru
        obtain ⟨oa, ovs, rfl, moa, hoa, hov⟩ := ro5
        walk_at "x"
        refine ⟨by decide, fun lb nb => ?_⟩
        have x6 := Ex.new (o := .lst []) nb
        have h6b : upd H5 lb (.lst []) lb = some (.lst (([] : List Nat).map vn)) := upd_same
        have hoa6 := x6 _ _ hoa
        have hov6 := pmono hov fun _ _ q => (rFlip K).mono x6.a q
        generalize upd H5 lb (.lst []) = H6 at x6 h6b hoa6 hov6 ⊢
        walk_at "x"
        refine x_forL ?_
        walk_at "x"
        refine ⟨oa, rfl, ⟨_, SqL.of hoa6⟩, ?_⟩
        refine loopL_foldi (xs := one) hov.length (fun b f => b ++ f.getD 0 []) (fun j busy σ' H' => busy.length ≤ 4 * j ∧ Ex H6 H' ∧ ∃ lb y5, H' lb = some (.lst (busy.map vn)) ∧ σ' = [some (.ref sa), some (.ref ls), some (.ref fa), some (.ref oa), some (.ref lb), y5, none])
          [] ⟨Nat.le_refl _, Ex.refl _, lb, _, h6b, rfl⟩ (fun i s σ' H' h => SqL.of (h.2.1 _ _ hoa6)) ?_ ?_
        · rintro busy j g ug σ' H7 hg hug ⟨bl, e7, lb, y5, h7b, rfl⟩
          obtain ⟨u', hu', rg⟩ := pair_at hov6 hg
          rw [hug] at hu'
          cases hu'
          have jl : j < one.length := (List.getElem?_eq_some_iff.mp hg).1
          have gb := om.2 g (List.mem_of_getElem? hg)
          unfold flipB at gb
          rw [Bool.and_eq_true, Bool.and_eq_true, decide_eq_true_iff, decide_eq_true_iff] at gb
          obtain ⟨ga, gus, gl, rfl, g1, g2, g3⟩ := flip_at ((rFlip K).mono e7.a rg) (j := 0) (by omega)
          walk_at "x"
          refine x_ixL (SqL.of g1) (at_n (n := 0) rfl g2) ?_
          refine ⟨lb, gl, _, _, rfl, rfl, h7b, g3, by rw [List.length_map, List.length_map, sizeLine_eq]; omega, fun lb2 nb2 => ?_⟩
          rw [← List.map_append]
          walk_at "x"
          refine ⟨by rw [List.length_append]; omega, Ex.trans e7 (Ex.new nb2), lb2, _, upd_same, rfl⟩
        · rintro σ' H7 ⟨bl, e7, lb, y5, h7b, rfl⟩
          have hbz : one.foldl (fun b f => b ++ f.getD 0 []) [] = busyOf one := rfl
          rw [hbz] at bl h7b
          have e57 := Ex.trans x6 e7
          have A7 := A5.grow e57
          have ru7 := (rFlip K).mono e57.a ru5
          have hoa7 := e7 _ _ hoa6
          have hov7 := pmono hov6 fun _ _ q => (rFlip K).mono e7.a q
          obtain ⟨fa', fus', l0', era, g1, g2, g3⟩ := flip_at ru7 (j := 0) (by omega)
          cases era
          dsimp only
          refine x_ifsE (H := H7) ((fl.getD 0 []).filter (fun x => decide (x ∈ busyOf one)) = []) (¬ (fl.getD 0 []).filter (fun x => decide (x ∈ busyOf one)) = []) (fun Qt qt => ?_) (fun H8 e8 hc => ?_) (fun H8 e8 hc => ?_)
          · walk_at "x"
            refine x_lcL ?_
            walk_at "x"
            refine x_ixL (SqL.of g1) (at_n (n := 0) rfl g2) ?_
            refine ⟨l0', rfl, ⟨_, SqL.of g3⟩, ?_⟩
            refine compL_nat (SqL.of g3) (by omega) (fun x => decide (x ∈ busyOf one)) id (fun _ => rfl) (fun z H2 hz e2 Qt qt => ?_) (fun z H2 hz _ e2 Qe qe => ?_) (fun lx H8 nx e8 h8 => ?_)
            · walk_at "x"
              refine x_in (.inl (SqL.of (e2 _ _ h7b))) ?_
              walk_at "x"
              exact qt _ (Ex.refl _)
            · walk_at "x"
              exact qe _ (Ex.refl _)
            rw [List.map_id] at h8
            walk_at "x"
            refine ⟨by decide, fun p np => ?_⟩
            walk_at "x"
            refine x_eqL (ys := []) (SqL.of ((Ex.new np) _ _ h8)) (SqL.of upd_same) ?_
            walk_at "x"
            exact qt _ _ (Ex.trans e8 (Ex.new np)) (fun z => of_decide_eq_true z) (fun z => of_decide_eq_false z)
          · replace A7 := A7.grow e8
            replace hoa7 := e8 _ _ hoa7
            replace hov7 := pmono hov7 fun _ _ q => (rFlip K).mono e8.a q
            replace ru7 := (rFlip K).mono e8.a ru7
            have e58 := Ex.trans e57 e8
            have e08 := Ex.trans e5 e58
            obtain ⟨wl, hwl, hwlen⟩ := A7.at_
            have moa8 : ¬ Or1 H ls oa := moa
            walk_at "x"
            refine ⟨A7.ty, ?_⟩
            walk_at "x"
            refine ⟨by show 1 ≤ sizeLine; decide, fun l9 n9 => ?_⟩
            have x9 := Ex.new (o := .lst [V.ref fa]) n9
            refine ⟨oa, l9, _, _, rfl, rfl, x9 _ _ hoa7, upd_same, by rw [hov.length, sizeLine_eq]; show one.length + 1 ≤ _; omega, fun l10 n10 => ?_⟩
            have x10 := Ex.trans x9 (Ex.new (o := .lst (ovs ++ [V.ref fa])) n10)
            have h10 : upd (upd H8 l9 (.lst [V.ref fa])) l10 (.lst (ovs ++ [V.ref fa])) l10 = some (.lst (ovs ++ [V.ref fa])) := upd_same
            have n10' := x9.none n10
            have d10 : l10 ≠ ls := fun z => by rw [z, hwl] at n10'; cases n10'
            have m10 := e08.none n10'
            have hov10 := pmono hov7 fun _ _ q => (rFlip K).mono x10.a q
            have ru10 := (rFlip K).mono x10.a ru7
            replace A7 := A7.grow x10
            generalize upd (upd H8 l9 (.lst [V.ref fa])) l10 (.lst (ovs ++ [V.ref fa])) = H10 at x10 h10 hov10 ru10 A7 ⊢
            walk_at "x"
            have ru10' : (rFlip K).rel (Or1 H ls) H10 (.ref fa) fl := (rFlip K).weak (fun a h => ?_) ru10
            · refine A7.app (x := one ++ [fl]) (by omega) ⟨l10, _, rfl, fun z => z.elim (fun z => z m10) d10, h10, pair_snoc hov10 ru10'⟩ fun ws A11 => ?_
              have el : setsIn fl acc one = acc ++ [one ++ [fl]] := by unfold setsIn; rw [if_pos hc]
              rw [el]
              have e510 := Ex.trans e58 x10
              refine ⟨by rw [List.length_append]; show acc.length + 1 ≤ _; omega, Ex.mut (Ex.trans e08 x10) ms, (eb5.trans e510.a).trans (ExA.put (Or.inr rfl)), (ea5.trans e510.a).trans (ExA.put (Or.inl dom1)), ?_, ?_, A11, _, _, _, rfl⟩
              · rw [upd_ne dls]; exact e510 _ _ hf5
              · rw [upd_ne dcs]; exact e510 _ _ hc5
            · rcases h with h | h
              · exact Or.inl (e1.dom h)
              · rw [h]; exact Or.inl dom1
          · walk_at "x"
            have el : setsIn fl acc one = acc := by unfold setsIn; rw [if_neg hc]
            rw [el]
            have e58 := Ex.trans e57 e8
            exact ⟨by omega, Ex.trans e5 e58, eb5.trans e58.a, ea5.trans e58.a, e58 _ _ hf5, e58 _ _ hc5, A7.grow e8, _, _, _, rfl⟩
      · rintro σ' H5 ⟨al, e5, eb5, ea5, hf5, hc5, A5, y3, y4, y5, rfl⟩
        refine ⟨?_, by omega, e5, ea5, hf5, A5, _, _, _, _, rfl⟩
        rw [es]
        unfold setsTo
        rw [List.take_add_one, hfl, List.foldl_append]
        rfl
    · rintro σ' H3 ⟨es, il, e3, ea3, hf3, A3, y2, y3, y4, y5, rfl⟩
      walk_at "x"
      exact q ls _ e3 ms A3
end
end Pm
end
section
set_option Elab.async false
set_option maxRecDepth 100000
set_option maxHeartbeats 4000000
set_option linter.all false
namespace Pm
open PySem L2
local macro_rules | `(tactic| walk_at "ex") => `(tactic| first | exact Ex.refl _ | assumption | exact Ex.new (by assumption) | exact Ex.trans (by walk_at "ex") (by assumption) | exact Ex.trans (by walk_at "ex") (Ex.new (by assumption)) | exact Ex.mut (by walk_at "ex") (by first | assumption | exact Ex.none (by walk_at "ex") (by assumption)))
local macro_rules | `(tactic| walk_at "sq") => `(tactic| first | assumption | exact Ex.l (by walk_at "ex") (by assumption) | exact Ex.t (by walk_at "ex") (by assumption) | exact SqL.of (by walk_at "hp") | exact SqT.of (by walk_at "hp") | exact Ex.l (by walk_at "ex") (LstA.sq (by assumption)) | exact Ex.t (by walk_at "ex") (TupA.sq (by assumption)))
local macro_rules | `(tactic| walk_at "hp") => `(tactic| first | assumption | exact upd_same | (refine (by walk_at "ex" : Ex _ _) _ _ ?_; assumption) | (refine (by walk_at "ex" : Ex _ _) _ _ ?_; exact upd_same))
local macro_rules | `(tactic| walk_at "x1") => `(tactic| first
  | (with_reducible refine x_seq ?_) | (with_reducible refine x_asg ?_) | ((with_reducible refine x_name ?_); dsimp only [List.set_cons_succ, List.set_cons_zero])
  | (with_reducible refine x_ret ?_) | (with_reducible refine x_if ?_) | (with_reducible refine x_drop ?_) | (with_reducible refine x_next ?_)
  | ((with_reducible refine' x_var ?h ?_); (case h => rfl)) | (with_reducible refine x_c ?_) | (with_reducible refine x_op ?_) | (with_reducible refine x_un ?_)
  | (with_reducible refine x_I0 ?_) | ((with_reducible refine x_I ?h ?_); (case h => first | exact Or.inl (by omega) | exact Or.inr (by omega) | omega | (constructor <;> omega))) | (with_reducible refine x_U ?_)
  | ((with_reducible refine' x_eq ?h ?_); (case h => rfl)) | ((with_reducible refine' x_ne ?h ?_); (case h => rfl))
  | (with_reducible refine x_cb ?_) | (with_reducible refine x_call ?_) | (with_reducible refine x_nil ?_) | (with_reducible refine x_cons ?_)
  | (with_reducible refine x_test ?_) | (with_reducible refine x_tB ?_) | (with_reducible refine x_bl ?_) | (with_reducible refine x_or ?_) | (with_reducible refine x_and ?_) | (with_reducible refine x_not ?_)
  | (with_reducible refine x_ifE ?_) | (with_reducible refine x_lst ?_) | (with_reducible refine x_tup ?_)
  | (with_reducible refine x_bm ?_) | (with_reducible refine x_bmG ?_) | (with_reducible refine x_chain ?_) | (with_reducible refine x_orV ?_) | (with_reducible refine x_andV ?_) | (with_reducible refine x_notV ?_) | (with_reducible refine x_sub ?_) | (with_reducible refine x_star ?_) | (with_reducible refine x_sl ?_) | (with_reducible refine x_po ?_) | (with_reducible refine x_pn ?_))
local macro_rules | `(tactic| walk_at "y1") => `(tactic| first
  | (with_reducible refine x_seq ?_) | (with_reducible refine x_asg ?_) | ((with_reducible refine x_name ?_); dsimp only [List.set_cons_succ, List.set_cons_zero])
  | (with_reducible refine x_drop ?_) | (with_reducible refine x_next ?_)
  | ((with_reducible refine' x_var ?h ?_); (case h => rfl)) | (with_reducible refine x_c ?_) | (with_reducible refine x_op ?_) | (with_reducible refine x_un ?_)
  | (with_reducible refine x_I0 ?_) | ((with_reducible refine x_I ?h ?_); (case h => first | exact Or.inl (by omega) | exact Or.inr (by omega) | omega | (constructor <;> omega))) | (with_reducible refine x_U ?_)
  | ((with_reducible refine' x_eq ?h ?_); (case h => rfl)) | ((with_reducible refine' x_ne ?h ?_); (case h => rfl))
  | (with_reducible refine x_cb ?_) | (with_reducible refine x_call ?_) | (with_reducible refine x_nil ?_) | (with_reducible refine x_cons ?_)
  | (with_reducible refine x_test ?_) | (with_reducible refine x_tB ?_) | (with_reducible refine x_bl ?_) | (with_reducible refine x_or ?_) | (with_reducible refine x_and ?_) | (with_reducible refine x_not ?_)
  | (with_reducible refine x_ifE ?_) | (with_reducible refine x_lst ?_) | (with_reducible refine x_tup ?_)
  | (with_reducible refine x_bm ?_) | (with_reducible refine x_bmG ?_) | (with_reducible refine x_chain ?_) | (with_reducible refine x_orV ?_) | (with_reducible refine x_andV ?_) | (with_reducible refine x_notV ?_) | (with_reducible refine x_sub ?_) | (with_reducible refine x_star ?_) | (with_reducible refine x_sl ?_) | (with_reducible refine x_po ?_) | (with_reducible refine x_pn ?_))
local macro_rules | `(tactic| walk_at "xi") => `(tactic| first | (with_reducible refine iteT ?_) | (with_reducible refine iteF ?_) | (with_reducible refine x_notT ?_) | (with_reducible refine x_notF ?_))
local macro_rules | `(tactic| walk_at "x") => `(tactic| ((try dsimp only); repeat ((first | walk_at "x1" | walk_at "xi"); (try dsimp only))))
local macro_rules | `(tactic| walk_at "y") => `(tactic| ((try dsimp only); repeat ((first | walk_at "y1" | walk_at "xi"); (try dsimp only))))

def maskStep (f : Flip) (mask : Nat) (s : List Nat × Nat) (j : Nat) : List Nat × Nat := if mask / 2 ^ j % 2 = 1 then (s.1.set (gt (f.getD 0 []) j) (gt (f.getD 2 []) j), s.2 + 1) else s
theorem maskImage_eq (f : Flip) (im : List Nat) (mask : Nat) : maskImage f im mask = (List.range (f.getD 0 []).length).foldl (maskStep f mask) (im, 0) := rfl
def torn01 (w n : Nat) : Nat := if 0 < w ∧ w < n then 1 else 0
def partIn (f : Flip) (sh : List Nat × Nat) (longer : List (List Nat × Nat)) (mask : Nat) : List (List Nat × Nat) := longer ++ [((maskImage f sh.1 mask).1, sh.2 + torn01 (maskImage f sh.1 mask).2 (f.getD 0 []).length)]
def partSh (f : Flip) (longer : List (List Nat × Nat)) (sh : List Nat × Nat) : List (List Nat × Nat) := (List.range (2 ^ (f.getD 0 []).length)).foldl (partIn f sh) longer
theorem partsAt_eq (f : Flip) (shapes : List (List Nat × Nat)) : lawPartsAt f shapes = shapes.foldl (partSh f) [] := rfl
theorem maskStep_len (f : Flip) (mask : Nat) (s : List Nat × Nat) (j : Nat) : (maskStep f mask s j).1.length = s.1.length := by
  unfold maskStep
  split
  · exact List.length_set
  · rfl
theorem mask_len (f : Flip) (mask : Nat) : ∀ (js : List Nat) (s : List Nat × Nat), (js.foldl (maskStep f mask) s).1.length = s.1.length
  | [], _ => rfl
  | j :: js, s => by rw [List.foldl_cons, mask_len f mask js, maskStep_len]
theorem partSh_len (f : Flip) (hf : (f.getD 0 []).length ≤ 4) (longer : List (List Nat × Nat)) (sh : List Nat × Nat) : (partSh f longer sh).length ≤ longer.length + 16 := by
  unfold partSh
  have := foldl_len (partIn f sh) 1 (fun acc x => by unfold partIn; rw [List.length_append]; exact Nat.le_refl _) (List.range (2 ^ (f.getD 0 []).length)) longer
  rw [List.length_range] at this
  have h16 : 2 ^ (f.getD 0 []).length ≤ 16 := Nat.pow_le_pow_right (by decide) hf
  omega
theorem x_via {te : TE} {σ : L2.St} {H : Hp} {R : VK} (v : V) (H2 : Hp) (h : ∀ R' : VK, R' v H2 → te σ H R') (q : R v H2) : te σ H R := h R q
theorem mask_bit (m j : Nat) : (((0 : Int) + (m : Int)) / 2 ^ ((0 : Int) + (j : Int)).toNat).fmod 2 = 1 ↔ m / 2 ^ j % 2 = 1 := by
  have e : ((0 : Int) + (m : Int)) / 2 ^ ((0 : Int) + (j : Int)).toNat = ((m / 2 ^ j : Nat) : Int) := by
    rw [Int.zero_add, Int.zero_add, Int.toNat_natCast]
    push_cast
    rfl
  rw [e, Int.fmod_eq_emod_of_nonneg _ (by decide)]
  omega
section
variable {P : Program} {w : World} {K : PySem.W.Frag} {mg : Str → Option Value} {base : Heap}
abbrev rShape (K : PySem.W.Frag) : Rp K (List Nat × Nat) := rL2 (rL (rNat K)) (rNat K)
theorem fr_shape : Fr (rShape K) := fr_L2 (fr_L fr_nat) fr_nat
/-! _law_parts: slots _law_state_here 0, _law_flips_here 1, _law_shapes 2, _law_flip_here 3, _law_longer 4, _law_shape 5, _law_mask 6, _law_image 7, _law_written 8, _law_j 9; calls []; built-ins ['list', 'range', 'len', 'int'] -/
abbrev s_law_parts : Stmt := top 48
abbrev N_law_parts : List Str := ["_law_state_here", "_law_flips_here", "_law_shapes", "_law_flip_here", "_law_longer", "_law_shape", "_law_mask", "_law_image", "_law_written", "_law_j"]
theorem sc_law_parts : FnScope N_law_parts ["_law_state_here", "_law_flips_here"] (defScope s_law_parts) := ⟨rfl, rfl, rfl, by decide +kernel, rfl, by decide +kernel, by decide +kernel⟩

def spParts (K : PySem.W.Frag) : Sp := fun vs H Q _ => ∃ (a b : Addr) (n : Nat) (st : List Nat) (fs : List Flip), vs = [.ref a, .ref b] ∧ SqL K H a (st.map vn) ∧ (rPL (rFlip K)).rel none_ H (.ref b) fs ∧ n ≤ 4 ∧ st.length = n ∧ fs.length ≤ 4 ∧ fs.all (flipB n) = true ∧ ∀ l H', Ex H H' → H l = none → AccAt (rShape K) H H' l (lawParts st fs) → Q (.ref l) H'
set_option linter.unusedVariables false in
theorem ok_law_parts {f : Addr} {fd : FuncData} (F : Fun K "_law_parts" "_law_parts" s_law_parts f fd) (T : Txt mg) : FnOk P w K mg base CX0 1 f fd ["_law_state_here", "_law_flips_here"] (spParts K) := by
  refine F.ok sc_law_parts (fun vs H Q E h => ?_) (fun cdv A outer s H vs Q E hr h => ?_)
  · obtain ⟨_, _, _, _, _, rfl, _⟩ := h
    rfl
  · obtain ⟨sa, fa, n, st, fs, rfl, hS, hfs, hn, stl, fsl, fall, q⟩ := h
    refine ⟨_, (pss_cons (ps_set (i := 2) sc_law_parts.nd rfl (by first | exact Or.inl rfl | exact Or.inr rfl) (pe_lst (pa_cons (pe_lst (pa_cons (pe_callTy call_list_of (by rfl) T.b_list (by decide +kernel) (pa_cons (pv 0) pa_nil)) (pa_cons pe_int pa_nil))) pa_nil)))
  (pss_cons (ps_for PassesOwn.never rfl (pi_list (pv 1)) (pg_name (i := 3) sc_law_parts.nd rfl (by first | exact Or.inl rfl | exact Or.inr rfl)) (pss_cons (ps_set (i := 4) sc_law_parts.nd rfl (by first | exact Or.inl rfl | exact Or.inr rfl) (pe_lst pa_nil))
  (pss_cons (ps_for PassesOwn.never rfl (pi_list (pv 2)) (pg_name (i := 5) sc_law_parts.nd rfl (by first | exact Or.inl rfl | exact Or.inr rfl)) (pss_one (ps_for PassesOwn.never rfl (pi_range1 (by rfl) T.b_range (pa_cons (pe_op op_shl pe_int (pe_callB call_len_seq (by rfl) T.b_len (by decide +kernel) (pa_cons (pe_ix ix_list (pv 3) pe_int (fun _ _ => rfl)) pa_nil))) pa_nil)) (pg_name (i := 6) sc_law_parts.nd rfl (by first | exact Or.inl rfl | exact Or.inr rfl)) (pss_cons (ps_set (i := 7) sc_law_parts.nd rfl (by first | exact Or.inl rfl | exact Or.inr rfl) (pe_callTy call_list_of (by rfl) T.b_list (by decide +kernel) (pa_cons (pe_ix ix_list (pv 5) pe_int (fun _ _ => rfl)) pa_nil)))
  (pss_cons (ps_set (i := 8) sc_law_parts.nd rfl (by first | exact Or.inl rfl | exact Or.inr rfl) pe_int)
  (pss_cons (ps_for PassesOwn.never rfl (pi_range1 (by rfl) T.b_range (pa_cons (pe_callB call_len_seq (by rfl) T.b_len (by decide +kernel) (pa_cons (pe_ix ix_list (pv 3) pe_int (fun _ _ => rfl)) pa_nil)) pa_nil)) (pg_name (i := 9) sc_law_parts.nd rfl (by first | exact Or.inl rfl | exact Or.inr rfl)) (pss_one (ps_if (pt_cmpR op_eq (pe_op op_modN (pe_callTy call_int1 (by rfl) T.b_int (by decide +kernel) (pa_cons (pe_op op_shr (pv 6) (pv 9)) pa_nil)) pe_int) pe_int (nomark _)) (pss_cons (ps_asg (pe_ix ix_list (pe_ix ix_list (pv 3) pe_int (fun _ _ => rfl)) (pv 9) (fun _ _ => rfl)) (pg_sub (pv 7) (pe_ix ix_list (pe_ix ix_list (pv 3) pe_int (fun _ _ => rfl)) (pv 9) (fun _ _ => rfl)) set_list))
  (pss_one (ps_set (i := 8) sc_law_parts.nd rfl (by first | exact Or.inl rfl | exact Or.inr rfl) (pe_op op_add (pv 8) pe_int)))) pss_nil)))
  (pss_one (ps_expr (pe_bm PySem.F.plainAttrs_list PySem.F.slot_list_append PySem.F.type_list_append mt_append (pv 4) (pa_cons (pe_lst (pa_cons (pv 7) (pa_cons (pe_op op_add (pe_ix ix_list (pv 5) pe_int (fun _ _ => rfl)) (pe_callTy call_int1 (by rfl) T.b_int (by decide +kernel) (pa_cons (pe_chain op_lt op_lt pe_int (pv 8) (pe_callB call_len_seq (by rfl) T.b_len (by decide +kernel) (pa_cons (pe_ix ix_list (pv 3) pe_int (fun _ _ => rfl)) pa_nil))) pa_nil))) pa_nil))) pa_nil))))))))))
  (pss_one (ps_set (i := 2) sc_law_parts.nd rfl (by first | exact Or.inl rfl | exact Or.inr rfl) (pv 4))))))
  (pss_one (ps_ret (pv 2))))), ?_⟩
    refine x_start (σ := [some _, some _, none, none, none, none, none, none, none, none]) rfl ?_
    rw [List.all_eq_true] at fall
    obtain ⟨fa', fus, efa, mfa, hfa, hfp⟩ := hfs
    cases efa
    walk_at "x"
    refine ⟨sa, _, rfl, .inl hS, fun l0 n0 => ?_⟩
    walk_at "x"
    refine ⟨by show 2 ≤ sizeLine; decide, fun l1 n1 => ?_⟩
    walk_at "x"
    refine ⟨by show 1 ≤ sizeLine; decide, fun l2 n2 => ?_⟩
    have x0 := Ex.new (o := .lst (st.map vn)) n0
    have x1 := Ex.new (o := .lst [V.ref l0, V.int 0]) n1
    have x2 := Ex.new (o := .lst [V.ref l1]) n2
    have m1 := x0.none n1
    have m2 := x0.none (x1.none n2)
    have d02 : l0 ≠ l2 := fun z => by rw [← z, x1 l0 _ upd_same] at n2; cases n2
    have d12 : l1 ≠ l2 := fun z => by rw [← z, upd_same] at n2; cases n2
    have A1 : AccAt (rShape K) H (upd (upd (upd H l0 (.lst (st.map vn))) l1 (.lst [V.ref l0, V.int 0])) l2 (.lst [V.ref l1])) l2 [(st, 0)] := by
      refine ⟨_, upd_same, .cons ⟨l1, _, _, rfl, .inl ⟨fun z => z.elim (fun z => z m1) d12, Rd.of (x2 _ _ upd_same)⟩, rLn' (.inl ⟨fun z => z.elim (fun z => z n0) d02, Rd.of (x2 _ _ (x1 _ _ upd_same))⟩), rfl⟩ .nil⟩
    have e1 := Ex.trans (Ex.trans x0 x1) x2
    generalize upd (upd (upd H l0 (.lst (st.map vn))) l1 (.lst [V.ref l0, V.int 0])) l2 (.lst [V.ref l1]) = H1 at e1 A1 ⊢
    walk_at "x"
    refine x_forL ?_
    walk_at "x"
    refine ⟨fa, rfl, ⟨_, SqL.of (e1 _ _ hfa)⟩, ?_⟩
    refine loopL_foldi (xs := fs) hfp.length (fun sh f => lawPartsAt f sh) (fun i shapes σ' H' => Ex H H' ∧ shapes.length ≤ 16 ^ i ∧ (∀ sh ∈ shapes, sh.1.length = n) ∧ ∃ l, H l = none ∧ AccAt (rShape K) H H' l shapes ∧ ∃ y3 y4 y5 y6 y7 y8 y9, σ' = [some (.ref sa), some (.ref fa), some (.ref l), y3, y4, y5, y6, y7, y8, y9])
      [(st, 0)] ⟨e1, Nat.le_refl _, fun sh hsh => by rw [List.mem_singleton.mp hsh]; exact stl, l2, m2, A1, _, _, _, _, _, _, _, rfl⟩ (fun i s σ' H' h => SqL.of (h.1 _ _ hfa)) ?_ ?_
    · rintro shapes i fl u σ' H3 hfl hu ⟨e3, sl, sn, l, ml, A3, y3, y4, y5, y6, y7, y8, y9, rfl⟩
      have il : i < fs.length := (List.getElem?_eq_some_iff.mp hfl).1
      obtain ⟨u', hu', ru⟩ := pair_at hfp hfl
      rw [hu] at hu'
      cases hu'
      have fb := fall fl (List.mem_of_getElem? hfl)
      unfold flipB at fb
      rw [Bool.and_eq_true, Bool.and_eq_true, Bool.and_eq_true, decide_eq_true_iff, decide_eq_true_iff, decide_eq_true_iff, List.all_eq_true] at fb
      obtain ⟨f3, f4, f5, f6⟩ := fb
      have ru3 := (rFlip K).mono e3.a ru
      obtain ⟨ga, gus, g0, rfl, hga, hg0, hl0⟩ := flip_at ru3 (j := 0) (by omega)
      obtain ⟨ga', gus', g2, era, hga', hg2, hl2⟩ := flip_at ru3 (j := 2) (by omega)
      cases era
      rw [hga] at hga'
      cases hga'
      have p16 : shapes.length ≤ 4096 := Nat.le_trans sl (Nat.pow_le_pow_right (n := 16) (by decide) (by omega : i ≤ 3))
      walk_at "x"
      refine ⟨by decide, fun ll nl => ?_⟩
      have x4 := Ex.new (o := .lst []) nl
      have A4 : AccAt (rShape K) H (upd H3 ll (.lst [])) ll [] := .nil upd_same
      obtain ⟨sus, hsus, hsp⟩ := A3.ex
      have dls : ll ≠ l := fun z => by rw [z, hsus] at nl; cases nl
      have hsp4 : Paired ((rShape K).rel (Or1 H ll) (upd H3 ll (.lst []))) sus shapes := pmono hsp fun _ _ q => (rShape K).weak (fun a h => h.elim (fun h => Or.inl (Or.inl h)) fun h => Or.inr h) ((rShape K).mono x4.a (fr_shape nl q))
      have ml2 := e3.none nl
      have e4 := Ex.trans e3 x4
      have hsus4 := x4 _ _ hsus
      have dg1 : ga ≠ ll := fun z => by rw [z, nl] at hga; cases hga
      have dg2 : g0 ≠ ll := fun z => by rw [z, nl] at hl0; cases hl0
      have dg3 : g2 ≠ ll := fun z => by rw [z, nl] at hl2; cases hl2
      replace hga := x4 _ _ hga
      replace hl0 := x4 _ _ hl0
      replace hl2 := x4 _ _ hl2
      have dga : ∀ {a : Addr} {us : List V}, H3 a = some (.lst us) → a ≠ ll := fun h z => by rw [z, nl] at h; cases h
      generalize upd H3 ll (.lst []) = H4 at x4 A4 e4 hsp4 hsus4 hga hl0 hl2 ⊢
      walk_at "x"
      refine x_forL ?_
      walk_at "x"
      refine ⟨l, rfl, ⟨_, SqL.of hsus4⟩, ?_⟩
      rw [partsAt_eq]
      refine loopL_foldi (xs := shapes) hsp.length (partSh fl) (fun k longer σ' H' => Ex H H' ∧ ExA (Or1 H ll) H4 H' ∧ longer.length ≤ 16 * k ∧ (∀ sh ∈ longer, sh.1.length = n) ∧ H' l = some (.lst sus) ∧ H' ga = some (.lst gus) ∧ H' g0 = some (.lst ((fl.getD 0 []).map vn)) ∧ H' g2 = some (.lst ((fl.getD 2 []).map vn)) ∧ AccAt (rShape K) H H' ll longer ∧ ∃ y5 y6 y7 y8 y9, σ' = [some (.ref sa), some (.ref fa), some (.ref l), some (.ref ga), some (.ref ll), y5, y6, y7, y8, y9])
        [] ⟨e4, (Ex.refl _).a, Nat.le_refl _, fun sh hsh => (by cases hsh), hsus4, hga, hl0, hl2, A4, _, _, _, _, _, rfl⟩ (fun i s σ' H' h => SqL.of h.2.2.2.2.1) ?_ ?_
      · rintro longer k sh us σ' H5 hsh hus ⟨e5, ea5, ll5, ln5, hl5, hga5, hg05, hg25, A5, y5, y6, y7, y8, y9, rfl⟩
        have kl : k < shapes.length := (List.getElem?_eq_some_iff.mp hsh).1
        have shn := sn sh (List.mem_of_getElem? hsh)
        obtain ⟨u', hu', rs⟩ := pair_at hsp4 hsh
        rw [hus] at hu'
        cases hu'
        walk_at "x"
        refine x_forR1 ?_
        walk_at "x"
        refine x_ixL (SqL.of hga5) (at_n (n := 0) rfl hg0) ?_
        walk_at "x"
        refine ⟨g0, _, rfl, .inl (SqL.of hg05), ?_⟩
        rw [List.length_map]
        walk_at "x"
        rw [Int.toNat_natCast, Int.one_mul]
        have p2 : 2 ^ (fl.getD 0 []).length ≤ 16 := Nat.pow_le_pow_right (by decide) f4
        have e2 : (2 : Int) ^ (fl.getD 0 []).length = ((2 ^ (fl.getD 0 []).length : Nat) : Int) := by push_cast; rfl
        rw [e2]
        refine ⟨_, rfl, by (generalize 2 ^ (fl.getD 0 []).length = pp at p2); omega, by (generalize 2 ^ (fl.getD 0 []).length = pp at p2); omega, ?_⟩
        rw [Int.toNat_natCast]
        obtain ⟨pa, pu, pw, rfl, hpa, hpu, hpw⟩ := rs
        obtain ⟨ia, rfl, hia⟩ := rLn hpu
        cases hpw
        refine loopR_foldi (partIn fl sh) (fun m longer σ' H' => Ex H H' ∧ ExA (Or1 H ll) H4 H' ∧ longer.length ≤ 16 * k + m ∧ (∀ sh ∈ longer, sh.1.length = n) ∧ H' l = some (.lst sus) ∧ H' ga = some (.lst gus) ∧ H' g0 = some (.lst ((fl.getD 0 []).map vn)) ∧ H' g2 = some (.lst ((fl.getD 2 []).map vn)) ∧ AccAt (rShape K) H H' ll longer ∧ ∃ y6 y7 y8 y9, σ' = [some (.ref sa), some (.ref fa), some (.ref l), some (.ref ga), some (.ref ll), some (.ref pa), y6, y7, y8, y9])
          longer ⟨e5, ea5, ll5, ln5, hl5, hga5, hg05, hg25, A5, _, _, _, _, rfl⟩ ?_ ?_
        · rintro longer m σ' H6 hm ⟨e6, ea6, ll6, ln6, hl6, hga6, hg06, hg26, A6, y6, y7, y8, y9, rfl⟩
          have hpa6 := hpa.mono ea6
          have hia6 := hia.mono ea6
          walk_at "x"
          refine x_ixL hpa6.sq (at_n (n := 0) rfl rfl) ?_
          walk_at "x"
          refine ⟨ia, _, rfl, .inl hia6.sq, fun li nli => ?_⟩
          walk_at "x"
          have x7 := Ex.new (o := .lst (sh.1.map vn)) nli
          refine x_forR1 ?_
          walk_at "x"
          refine x_ixL (SqL.of (x7 _ _ hga6)) (at_n (n := 0) rfl hg0) ?_
          walk_at "x"
          refine ⟨g0, _, rfl, .inl (SqL.of (x7 _ _ hg06)), ?_⟩
          rw [List.length_map]
          refine ⟨_, rfl, by omega, by omega, ?_⟩
          rw [Int.toNat_natCast]
          refine loopR_foldi (maskStep fl m) (fun j s σ' H' => Ex H6 H' ∧ H' li = some (.lst (s.1.map vn)) ∧ s.2 ≤ j ∧ s.1.length = n ∧ ∃ y9, σ' = [some (.ref sa), some (.ref fa), some (.ref l), some (.ref ga), some (.ref ll), some (.ref pa), some (.int (0 + (m : Int))), some (.ref li), some (vn s.2), y9])
            (sh.1, 0) ⟨x7, upd_same, Nat.le_refl _, shn, _, rfl⟩ ?_ ?_
          · rintro ⟨im, wr⟩ j σ' H7 hj ⟨e7, hli, wj, imn, y9, rfl⟩
            dsimp only at hli wj imn ⊢
            have gj : gt (fl.getD 0 []) j < n := of_decide_eq_true (f6 _ (gt_mem hj))
            walk_at "x"
            refine .inl ⟨_, rfl, ?_⟩
            walk_at "x"
            refine x_decI (fun hb => ?_) fun hb => ?_
            · have hb' := (mask_bit m j).mp hb
              have es : maskStep fl m (im, wr) j = (im.set (gt (fl.getD 0 []) j) (gt (fl.getD 2 []) j), wr + 1) := if_pos hb'
              rw [es]
              walk_at "x"
              refine x_ixL (SqL.of (e7 _ _ hga6)) (at_n (n := 2) rfl hg2) ?_
              walk_at "x"
              refine x_ixN (SqL.of (e7 _ _ hg26)) (Int.zero_add _) (by rw [f5]; exact hj) ?_
              walk_at "x"
              refine x_ixL (SqL.of (e7 _ _ hga6)) (at_n (n := 0) rfl hg0) ?_
              walk_at "x"
              refine x_ixN (SqL.of (e7 _ _ hg06)) (Int.zero_add _) hj ?_
              refine x_setN hli rfl (by rw [imn]; exact gj) ?_
              walk_at "x"
              exact ⟨Ex.mut e7 nli, upd_same, Nat.succ_le_succ wj, by rw [List.length_set]; exact imn, _, rfl⟩
            · have es : maskStep fl m (im, wr) j = (im, wr) := if_neg fun z => hb ((mask_bit m j).mpr z)
              rw [es]
              walk_at "x"
              exact ⟨e7, hli, by omega, imn, _, rfl⟩
          · rintro σ' H7 ⟨e7, hli, wj, imn, y9, rfl⟩
            walk_at "x"
            have A7 := A6.grow e7
            refine ⟨A7.ty, ?_⟩
            walk_at "x"
            have hpa7 := hpa6.mono (M := Or1 H ll) (H' := H7) e7.a
            refine x_ixL hpa7.sq (at_n (n := 1) rfl rfl) ?_
            generalize hs : (List.range (fl.getD 0 []).length).foldl (maskStep fl m) (sh.1, 0) = s at hli wj imn ⊢
            have hs' : maskImage fl sh.1 m = s := hs
            refine x_via (vn (torn01 s.2 (fl.getD 0 []).length)) H7 (fun R' q' => ?_) ?_
            · walk_at "x"
              refine x_dec (fun h0 => ?_) fun h0 => ?_
              · walk_at "x"
                refine x_ixL (SqL.of (e7 _ _ hga6)) (at_n (n := 0) rfl hg0) ?_
                walk_at "x"
                refine ⟨g0, _, rfl, .inl (SqL.of (e7 _ _ hg06)), ?_⟩
                rw [List.length_map]
                walk_at "x"
                refine .inr ⟨_, rfl, ?_⟩
                have e : V.int (if decide ((s.2 : Int) < ((fl.getD 0 []).length : Int)) = true then 1 else 0) = vn (torn01 s.2 (fl.getD 0 []).length) := by
                  unfold torn01
                  by_cases hlt : s.2 < (fl.getD 0 []).length
                  · rw [if_pos (decide_eq_true (Int.ofNat_lt.mpr hlt)), if_pos ⟨Int.ofNat_lt.mp h0, hlt⟩]
                    rfl
                  · rw [if_neg (fun z => hlt (Int.ofNat_lt.mp (of_decide_eq_true z))), if_neg (fun z => hlt z.2)]
                    rfl
                rw [e]
                exact q'
              · walk_at "x"
                refine .inr ⟨_, rfl, ?_⟩
                have e : V.int (if false = true then 1 else 0) = vn (torn01 s.2 (fl.getD 0 []).length) := by
                  unfold torn01
                  rw [if_neg (fun z : 0 < s.2 ∧ s.2 < (fl.getD 0 []).length => h0 (Int.ofNat_lt.mpr z.1)), if_neg Bool.false_ne_true]
                  rfl
                rw [e]
                exact q'
            · walk_at "x"
              refine ⟨by show 2 ≤ sizeLine; decide, fun lr nlr => ?_⟩
              have x8 := Ex.new (o := .lst [V.ref li, .int ((sh.2 : Int) + (torn01 s.2 (fl.getD 0 []).length : Int))]) nlr
              have e8 := Ex.trans e7 x8
              have n1 : H li = none := e6.none nli
              have n2 : H lr = none := (Ex.trans e6 e7).none nlr
              have d1 : li ≠ ll := fun z => by
                obtain ⟨ws, hw, _⟩ := A6.at_
                rw [z, hw] at nli
                cases nli
              have d2 : lr ≠ ll := fun z => by
                obtain ⟨ws, hw, _⟩ := A7.at_
                rw [z, hw] at nlr
                cases nlr
              walk_at "x"
              refine (A7.grow x8).app (x := ((maskImage fl sh.1 m).1, sh.2 + torn01 (maskImage fl sh.1 m).2 (fl.getD 0 []).length)) (by omega) ⟨lr, _, _, rfl, .inl ⟨fun z => z.elim (fun z => z n2) d2, Rd.of upd_same⟩, rLn' (.inl ⟨fun z => z.elim (fun z => z n1) d1, Rd.of (x8 _ _ (by rw [hs']; exact hli))⟩), by rw [hs']; rfl⟩ fun ws A8 => ?_
              have g : ∀ {a : Addr} {o : HO}, a ≠ ll → H6 a = some o → upd (upd H7 lr (.lst [V.ref li, .int ((sh.2 : Int) + (torn01 s.2 (fl.getD 0 []).length : Int))])) ll (.lst ws) a = some o := fun ne h => by rw [upd_ne ne]; exact e8 _ _ h
              have hpi : partIn fl sh longer m = longer ++ [((maskImage fl sh.1 m).1, sh.2 + torn01 (maskImage fl sh.1 m).2 (fl.getD 0 []).length)] := rfl
              rw [hpi]
              refine ⟨Ex.mut (Ex.trans e6 e8) ml2, ea6.trans (e8.a.trans (ExA.put (Or.inr rfl))), ?_, ?_, g (Ne.symm dls) hl6, g dg1 hga6, g dg2 hg06, g dg3 hg26, A8, _, _, _, _, rfl⟩
              · rw [List.length_append, List.length_singleton]
                omega
              · intro sh' hsh'
                rcases List.mem_append.mp hsh' with z | z
                · exact ln6 _ z
                · rw [List.mem_singleton.mp z]
                  show (maskImage fl sh.1 m).1.length = n
                  rw [hs']
                  exact imn
        · rintro σ' H6 ⟨e6, ea6, ll6, ln6, hl6, hga6, hg06, hg26, A6, y6, y7, y8, y9, rfl⟩
          walk_at "x"
          refine ⟨e6, ea6, ?_, ln6, hl6, hga6, hg06, hg26, A6, _, _, _, _, _, rfl⟩
          unfold partSh
          omega
      · rintro σ' H5 ⟨e5, ea5, ll5, ln5, hl5, hga5, hg05, hg25, A5, y5, y6, y7, y8, y9, rfl⟩
        walk_at "x"
        refine ⟨e5, ?_, ln5, ll, ml2, A5, _, _, _, _, _, _, _, rfl⟩
        rw [Nat.pow_succ]
        omega
    · rintro σ' H3 ⟨e3, sl, sn, l, ml, A3, y3, y4, y5, y6, y7, y8, y9, rfl⟩
      walk_at "x"
      exact q l _ e3 ml A3
end
end Pm
end
section
set_option Elab.async false
set_option maxRecDepth 100000
set_option maxHeartbeats 4000000
set_option linter.all false
namespace Pm
open PySem L2
local macro_rules | `(tactic| walk_at "ex") => `(tactic| first | exact Ex.refl _ | assumption | exact Ex.new (by assumption) | exact Ex.trans (by walk_at "ex") (by assumption) | exact Ex.trans (by walk_at "ex") (Ex.new (by assumption)) | exact Ex.mut (by walk_at "ex") (by first | assumption | exact Ex.none (by walk_at "ex") (by assumption)))
local macro_rules | `(tactic| walk_at "sq") => `(tactic| first | assumption | exact Ex.l (by walk_at "ex") (by assumption) | exact Ex.t (by walk_at "ex") (by assumption) | exact SqL.of (by walk_at "hp") | exact SqT.of (by walk_at "hp") | exact Ex.l (by walk_at "ex") (LstA.sq (by assumption)) | exact Ex.t (by walk_at "ex") (TupA.sq (by assumption)))
local macro_rules | `(tactic| walk_at "hp") => `(tactic| first | assumption | exact upd_same | (refine (by walk_at "ex" : Ex _ _) _ _ ?_; assumption) | (refine (by walk_at "ex" : Ex _ _) _ _ ?_; exact upd_same))
local macro_rules | `(tactic| walk_at "x1") => `(tactic| first
  | (with_reducible refine x_seq ?_) | (with_reducible refine x_asg ?_) | ((with_reducible refine x_name ?_); dsimp only [List.set_cons_succ, List.set_cons_zero])
  | (with_reducible refine x_ret ?_) | (with_reducible refine x_if ?_) | (with_reducible refine x_drop ?_) | (with_reducible refine x_next ?_)
  | ((with_reducible refine' x_var ?h ?_); (case h => rfl)) | (with_reducible refine x_c ?_) | (with_reducible refine x_op ?_) | (with_reducible refine x_un ?_)
  | (with_reducible refine x_I0 ?_) | ((with_reducible refine x_I ?h ?_); (case h => first | exact Or.inl (by omega) | exact Or.inr (by omega) | omega | (constructor <;> omega))) | (with_reducible refine x_U ?_)
  | ((with_reducible refine' x_eq ?h ?_); (case h => rfl)) | ((with_reducible refine' x_ne ?h ?_); (case h => rfl))
  | (with_reducible refine x_cb ?_) | (with_reducible refine x_call ?_) | (with_reducible refine x_nil ?_) | (with_reducible refine x_cons ?_)
  | (with_reducible refine x_test ?_) | (with_reducible refine x_tB ?_) | (with_reducible refine x_bl ?_) | (with_reducible refine x_or ?_) | (with_reducible refine x_and ?_) | (with_reducible refine x_not ?_)
  | (with_reducible refine x_ifE ?_) | (with_reducible refine x_lst ?_) | (with_reducible refine x_tup ?_)
  | (with_reducible refine x_bm ?_) | (with_reducible refine x_bmG ?_) | (with_reducible refine x_chain ?_) | (with_reducible refine x_orV ?_) | (with_reducible refine x_andV ?_) | (with_reducible refine x_notV ?_) | (with_reducible refine x_sub ?_) | (with_reducible refine x_star ?_) | (with_reducible refine x_sl ?_) | (with_reducible refine x_po ?_) | (with_reducible refine x_pn ?_))
local macro_rules | `(tactic| walk_at "y1") => `(tactic| first
  | (with_reducible refine x_seq ?_) | (with_reducible refine x_asg ?_) | ((with_reducible refine x_name ?_); dsimp only [List.set_cons_succ, List.set_cons_zero])
  | (with_reducible refine x_drop ?_) | (with_reducible refine x_next ?_)
  | ((with_reducible refine' x_var ?h ?_); (case h => rfl)) | (with_reducible refine x_c ?_) | (with_reducible refine x_op ?_) | (with_reducible refine x_un ?_)
  | (with_reducible refine x_I0 ?_) | ((with_reducible refine x_I ?h ?_); (case h => first | exact Or.inl (by omega) | exact Or.inr (by omega) | omega | (constructor <;> omega))) | (with_reducible refine x_U ?_)
  | ((with_reducible refine' x_eq ?h ?_); (case h => rfl)) | ((with_reducible refine' x_ne ?h ?_); (case h => rfl))
  | (with_reducible refine x_cb ?_) | (with_reducible refine x_call ?_) | (with_reducible refine x_nil ?_) | (with_reducible refine x_cons ?_)
  | (with_reducible refine x_test ?_) | (with_reducible refine x_tB ?_) | (with_reducible refine x_bl ?_) | (with_reducible refine x_or ?_) | (with_reducible refine x_and ?_) | (with_reducible refine x_not ?_)
  | (with_reducible refine x_ifE ?_) | (with_reducible refine x_lst ?_) | (with_reducible refine x_tup ?_)
  | (with_reducible refine x_bm ?_) | (with_reducible refine x_bmG ?_) | (with_reducible refine x_chain ?_) | (with_reducible refine x_orV ?_) | (with_reducible refine x_andV ?_) | (with_reducible refine x_notV ?_) | (with_reducible refine x_sub ?_) | (with_reducible refine x_star ?_) | (with_reducible refine x_sl ?_) | (with_reducible refine x_po ?_) | (with_reducible refine x_pn ?_))
local macro_rules | `(tactic| walk_at "xi") => `(tactic| first | (with_reducible refine iteT ?_) | (with_reducible refine iteF ?_) | (with_reducible refine x_notT ?_) | (with_reducible refine x_notF ?_))
local macro_rules | `(tactic| walk_at "x") => `(tactic| ((try dsimp only); repeat ((first | walk_at "x1" | walk_at "xi"); (try dsimp only))))
local macro_rules | `(tactic| walk_at "y") => `(tactic| ((try dsimp only); repeat ((first | walk_at "y1" | walk_at "xi"); (try dsimp only))))

def kd (xs : List Nat) : List Key := xs.map fun (x : Nat) => (.inl (x : Int) : Key)
theorem kd_kV (xs : List Nat) : (kd xs).map kV = xs.map vn := by
  unfold kd
  rw [List.map_map]
  rfl
theorem kd_inj {a b : List Nat} (h : kd a = kd b) : a = b := by
  unfold kd at h
  refine (List.map_inj_right (f := fun (x : Nat) => (.inl (x : Int) : Key)) fun x y e => ?_).mp h
  injection e with e
  exact Int.ofNat_inj.mp e
def metD (m : List (List Nat × Nat)) : List (List Key × V) := m.map fun p => (kd p.1, vn p.2)
theorem metD_len (m : List (List Nat × Nat)) : (metD m).length = m.length := List.length_map _
theorem metD_put (m : List (List Nat × Nat)) (k : List Nat) (v : Nat) : putK (metD m) (kd k) (vn v) = metD (put m k v) := by
  have e : (metD m).any (fun kv => decide (kv.1 = kd k)) = m.any (fun p => decide (p.1 = k)) := by
    unfold metD
    rw [List.any_map]
    congr 1
    funext p
    exact decide_eq_decide.mpr ⟨fun h => kd_inj h, fun h => by show kd p.1 = kd k; rw [h]⟩
  unfold putK put
  rw [e]
  split
  · unfold metD
    rw [List.map_map, List.map_map]
    congr 1
    funext p
    show (if kd p.1 = kd k then (kd p.1, vn v) else (kd p.1, vn p.2)) = (kd (if p.1 = k then (k, v) else p).1, vn (if p.1 = k then (k, v) else p).2)
    by_cases h : p.1 = k
    · rw [if_pos h, if_pos (by rw [h]), h]
    · rw [if_neg h, if_neg fun z => h (kd_inj z)]
  · unfold metD
    rw [List.map_append]
    rfl
theorem metD_look (m : List (List Nat × Nat)) (k : List Nat) : valV (metD m) (kd k) = (look m k).map vn := by
  induction m with
  | nil => rfl
  | cons p m ih =>
    by_cases h : p.1 = k
    · rw [show metD (p :: m) = (kd p.1, vn p.2) :: metD m from rfl, valV_pos (by show kd p.1 = kd k; rw [h])]
      unfold look
      rw [List.find?_cons_of_pos (by simp [h])]
      rfl
    · rw [show metD (p :: m) = (kd p.1, vn p.2) :: metD m from rfl, valV_neg (fun z => h (kd_inj z)), ih]
      unfold look
      rw [List.find?_cons_of_neg (by simp [h])]
theorem put_len (m : List (List Nat × Nat)) (k : List Nat) (v : Nat) : (put m k v).length ≤ m.length + 1 := by
  unfold put
  split
  · rw [List.length_map]
    omega
  · rw [List.length_append]
    exact Nat.le_refl _
theorem parts_all : ((List.range 5).all fun n => (statesN n).all fun st => (lawSets st).all fun fs => decide ((lawParts st fs).length ≤ 16)) = true := by decide +kernel
theorem states_few : ((List.range 5).all fun n => decide ((statesN n).length ≤ 10)) = true := by decide +kernel
theorem setsTo_eq (st : List Nat) : setsTo st (lawFlips st).length = lawSets st := by
  unfold setsTo
  rw [List.take_length]
  rfl
theorem sets_of {n : Nat} (hn : n ≤ 4) {st : List Nat} (h : st ∈ statesN n) : (lawSets st).length ≤ 200 ∧ ∀ fs ∈ lawSets st, fs.length ≤ 4 ∧ fs.all (flipB n) = true ∧ (lawParts st fs).length ≤ 16 := by
  have f := List.all_eq_true.mp (List.all_eq_true.mp (List.all_eq_true.mp sets_all n (List.mem_range.mpr (by omega))) st h) (lawFlips st).length (List.mem_range.mpr (Nat.lt_succ_self _))
  rw [setsTo_eq, Bool.and_eq_true, decide_eq_true_iff, List.all_eq_true] at f
  refine ⟨f.1, fun fs hf => ?_⟩
  have g := f.2 fs hf
  rw [Bool.and_eq_true, decide_eq_true_iff] at g
  exact ⟨g.1, g.2, of_decide_eq_true (List.all_eq_true.mp (List.all_eq_true.mp (List.all_eq_true.mp parts_all n (List.mem_range.mpr (by omega))) st h) fs hf)⟩
theorem x_dput {td ty tv : TE} {D : Ends} {σ : L2.St} {H : Hp} (q : tv σ H fun v H1 => td σ H1 fun x H2 => ty σ H2 fun y H3 => ∃ a H4, x = .ref a ∧ DPut H3 a y v H4 ∧ D.nx σ H4) : sDPut td ty tv D σ H := q
def metIn (met : List (List Nat × Nat)) (sh : List Nat × Nat) : List (List Nat × Nat) := put met sh.1 sh.2
def metSets (st : List Nat) (met : List (List Nat × Nat)) (fs : List Flip) : List (List Nat × Nat) := (lawParts st fs).foldl metIn met
def metSt (met : List (List Nat × Nat)) (st : List Nat) : List (List Nat × Nat) := (lawSets st).foldl (metSets st) met
theorem lawMet_eq (n : Nat) : lawMet n = (statesN n).foldl metSt [] := rfl
theorem ExA.wk {M M' : Av} {H H' : Hp} (w : ∀ a, M a → M' a) (e : ExA M H H') : ExA M' H H' := fun a o m h => e a o (fun z => m (w a z)) h
section
variable {P : Program} {w : World} {K : PySem.W.Frag} {mg : Str → Option Value} {base : Heap}
/-! _law_met: slots _law_size 0, _law_met_here 1, _law_state_here 2, _law_flips_here 3, _law_shape 4; calls ['_law_states', '_law_sets', '_law_parts']; built-ins ['tuple'] -/
abbrev s_law_met : Stmt := top 49
abbrev N_law_met : List Str := ["_law_size", "_law_met_here", "_law_state_here", "_law_flips_here", "_law_shape"]
theorem sc_law_met : FnScope N_law_met ["_law_size"] (defScope s_law_met) := ⟨rfl, rfl, rfl, by decide +kernel, rfl, by decide +kernel, by decide +kernel⟩

def spMet (K : PySem.W.Frag) : Sp := fun vs H Q _ => ∃ n : Nat, vs = [vn n] ∧ n ≤ 4 ∧ ∀ p H', Ex H H' → H p = none → H' p = some (.dT (metD (lawMet n))) → Q (.ref p) H'
set_option linter.unusedVariables false in
theorem ok_law_met {f : Addr} {fd : FuncData} (F : Fun K "_law_met" "_law_met" s_law_met f fd) (T : Txt mg) (D_law_states : Df P w K mg base "_law_states" 1 ["_law_size"] (spLStates K)) (D_law_sets : Df P w K mg base "_law_sets" 2 ["_law_state_here"] (spLSets K))
    (D_law_parts : Df P w K mg base "_law_parts" 1 ["_law_state_here", "_law_flips_here"] (spParts K)) : FnOk P w K mg base CX0 3 f fd ["_law_size"] (spMet K) := by
  refine F.ok sc_law_met (fun vs H Q E h => ?_) (fun cdv A outer s H vs Q E hr h => ?_)
  · obtain ⟨_, rfl, _⟩ := h
    rfl
  · obtain ⟨n, rfl, hn, q⟩ := h
    refine ⟨_, (pss_cons (ps_set (i := 1) sc_law_met.nd rfl (by first | exact Or.inl rfl | exact Or.inr rfl) pe_dnewT)
  (pss_cons (ps_for PassesOwn.never rfl (pi_list (pe_callD D_law_states (hr.mono (by decide)) (by rfl) (pa_cons (pv 0) pa_nil))) (pg_name (i := 2) sc_law_met.nd rfl (by first | exact Or.inl rfl | exact Or.inr rfl)) (pss_one (ps_for PassesOwn.never rfl (pi_list (pe_callD D_law_sets (hr.mono (by decide)) (by rfl) (pa_cons (pv 2) pa_nil))) (pg_name (i := 3) sc_law_met.nd rfl (by first | exact Or.inl rfl | exact Or.inr rfl)) (pss_one (ps_for PassesOwn.never rfl (pi_list (pe_callD D_law_parts (hr.mono (by decide)) (by rfl) (pa_cons (pv 2) (pa_cons (pv 3) pa_nil)))) (pg_name (i := 4) sc_law_met.nd rfl (by first | exact Or.inl rfl | exact Or.inr rfl)) (pss_one (ps_dput (hu_of hr) (pv 1) (pe_callTy call_tuple_of (by rfl) T.b_tuple (by decide +kernel) (pa_cons (pe_ix ix_list (pv 4) pe_int (fun _ _ => rfl)) pa_nil)) (pe_ix ix_list (pv 4) pe_int (fun _ _ => rfl)) rfl)))))))
  (pss_one (ps_ret (pv 1))))), ?_⟩
    refine x_start (σ := [some _, none, none, none, none]) rfl ?_
    walk_at "x"
    intro p np
    walk_at "x"
    have x1 := Ex.new (o := .dT []) np
    have hp1 : upd H p (.dT []) p = some (.dT (metD [])) := upd_same
    generalize upd H p (.dT []) = H1 at x1 hp1 ⊢
    refine x_forL ?_
    walk_at "x"
    refine ⟨n, rfl, hn, ?_⟩
    rintro v H2 e2 ⟨sa, sus, rfl, hsa, hsp⟩
    refine ⟨sa, rfl, ⟨_, hsa.sq⟩, ?_⟩
    have dp : ∀ a, a = p → Dom H1 a := fun a z => z ▸ dom_of hp1
    have few := of_decide_eq_true (List.all_eq_true.mp states_few n (List.mem_range.mpr (by omega)))
    refine loopL_foldi (xs := statesN n) hsp.length metSt (fun i met σ' H' => ExA (fun a => a = p) H2 H' ∧ H' p = some (.dT (metD met)) ∧ met.length ≤ i * 3200 ∧ ∃ y2 y3 y4, σ' = [some (vn n), some (.ref p), y2, y3, y4])
      [] ⟨(Ex.refl _).a, e2 _ _ hp1, Nat.le_refl _, _, _, _, rfl⟩ (fun i s σ' H' h => (hsa.mono (ExA.wk dp h.1)).sq) ?_ ?_
    · rintro met i st u σ' H3 hst hu ⟨e3, hp3, ml, y2, y3, y4, rfl⟩
      have il : i < (statesN n).length := (List.getElem?_eq_some_iff.mp hst).1
      have mst := List.mem_of_getElem? hst
      obtain ⟨u', hu', ru⟩ := pair_at hsp hst
      rw [hu] at hu'
      cases hu'
      obtain ⟨ta, rfl, hta⟩ := rLn ((rL (rNat K)).mono (ExA.wk dp e3) ru)
      obtain ⟨sl, sf⟩ := sets_of hn mst
      walk_at "x"
      refine x_forL ?_
      walk_at "x"
      refine ⟨ta, n, st, rfl, hta.sq, hn, mst, fun l H4 e4 nl A4 => ?_⟩
      obtain ⟨ws, hws, hwp⟩ := A4.ex
      refine ⟨l, rfl, ⟨_, SqL.of hws⟩, ?_⟩
      have lp : l ≠ p := fun z => by rw [z, hp3] at nl; cases nl
      have dp4 : ∀ a, a = p → Or1 H3 l a := fun a z => .inl (z ▸ dom_of hp3)
      refine loopL_foldi (xs := lawSets st) hwp.length (metSets st) (fun j met σ' H' => ExA (fun a => a = p) H4 H' ∧ H' p = some (.dT (metD met)) ∧ met.length ≤ i * 3200 + j * 16 ∧ ∃ y3 y4, σ' = [some (vn n), some (.ref p), some (.ref ta), y3, y4])
        met ⟨(Ex.refl _).a, e4 _ _ hp3, ml, _, _, rfl⟩ (fun i s σ' H' h => SqL.of (h.1 _ _ lp hws)) ?_ ?_
      · rintro met j fs u σ' H5 hfs hu ⟨e5, hp5, ml5, y3, y4, rfl⟩
        have jl : j < (lawSets st).length := (List.getElem?_eq_some_iff.mp hfs).1
        obtain ⟨fl4, fall, pl⟩ := sf fs (List.mem_of_getElem? hfs)
        obtain ⟨u', hu', rf⟩ := pair_at hwp hfs
        rw [hu] at hu'
        cases hu'
        have rf5 := (rPL (rFlip K)).mono (ExA.wk dp4 e5) rf
        have rf5n := (rPL (rFlip K)).none_ rf5
        obtain ⟨fa, fus, rfl, _⟩ := id rf5
        have hta5 := hta.mono (ExA.trans (e4.a (M := Dom H1)) (ExA.wk dp e5))
        walk_at "x"
        refine x_forL ?_
        walk_at "x"
        refine ⟨ta, fa, n, st, fs, rfl, hta5.sq, rf5n, hn, (st_of hn mst).1, fl4, fall, fun l6 H6 e6 nl6 A6 => ?_⟩
        obtain ⟨ws6, hws6, hwp6⟩ := A6.ex
        refine ⟨l6, rfl, ⟨_, SqL.of hws6⟩, ?_⟩
        have lp6 : l6 ≠ p := fun z => by rw [z, hp5] at nl6; cases nl6
        have dp6 : ∀ a, a = p → Or1 H5 l6 a := fun a z => .inl (z ▸ dom_of hp5)
        refine loopL_foldi (xs := lawParts st fs) hwp6.length metIn (fun k met σ' H' => ExA (fun a => a = p) H6 H' ∧ H' p = some (.dT (metD met)) ∧ met.length ≤ i * 3200 + j * 16 + k ∧ ∃ y4, σ' = [some (vn n), some (.ref p), some (.ref ta), some (.ref fa), y4])
          met ⟨(Ex.refl _).a, e6 _ _ hp5, ml5, _, rfl⟩ (fun i s σ' H' h => SqL.of (h.1 _ _ lp6 hws6)) ?_ ?_
        · rintro met k sh u σ' H7 hsh hu ⟨e7, hp7, ml7, y4, rfl⟩
          have kl : k < (lawParts st fs).length := (List.getElem?_eq_some_iff.mp hsh).1
          obtain ⟨u', hu', rs⟩ := pair_at hwp6 hsh
          rw [hu] at hu'
          cases hu'
          obtain ⟨pa, pu, pw, rfl, hpa, hpu, hpw⟩ := (rShape K).mono (ExA.wk dp6 e7) rs
          obtain ⟨ia, rfl, hia⟩ := rLn hpu
          cases hpw
          walk_at "x"
          refine x_dput ?_
          walk_at "x"
          refine x_ixL hpa.sq (at_n (n := 1) rfl rfl) ?_
          walk_at "x"
          refine x_ixL hpa.sq (at_n (n := 0) rfl rfl) ?_
          walk_at "x"
          refine ⟨ia, _, rfl, .inl ⟨hia.sq, fun lt nlt => ?_⟩⟩
          have x8 := Ex.new (o := .tup (sh.1.map vn)) nlt
          refine ⟨p, _, rfl, DPut.t (k := kd sh.1) (x8 _ _ hp7) (by rw [kd_kV]; exact upd_same) (by rw [metD_len, sizeLine_eq]; omega), ?_⟩
          rw [metD_put]
          refine ⟨ExA.trans e7 (ExA.trans x8.a (ExA.put rfl)), upd_same, ?_, _, rfl⟩
          exact Nat.le_trans (put_len _ _ _) (by omega)
        · rintro σ' H7 ⟨e7, hp7, ml7, y4, rfl⟩
          walk_at "x"
          refine ⟨ExA.trans e5 (ExA.trans e6.a e7), hp7, ?_, _, _, rfl⟩
          show ((lawParts st fs).foldl metIn met).length ≤ _
          omega
      · rintro σ' H5 ⟨e5, hp5, ml5, y3, y4, rfl⟩
        walk_at "x"
        refine ⟨ExA.trans e3 (ExA.trans e4.a e5), hp5, ?_, _, _, _, rfl⟩
        show ((lawSets st).foldl (metSets st) met).length ≤ _
        omega
    · rintro σ' H3 ⟨e3, hp3, ml, y2, y3, y4, rfl⟩
      walk_at "x"
      refine q p _ ?_ np hp3
      intro a o h
      exact e3 a o (fun z => by rw [z, np] at h; cases h) (e2 _ _ (x1 _ _ h))
end
end Pm
end
section
set_option Elab.async false
set_option maxRecDepth 100000
set_option maxHeartbeats 4000000
set_option linter.all false
namespace Pm
/-- the images met, as `_law_met` tells them -/
def metN : Nat → List (List Nat × Nat)
  | 0 => [
    ([], 0)]
  | 1 => [
    ([0], 0)]
  | 2 => [
    ([0, 1], 0), ([1, 1], 1), ([0, 0], 1), ([1, 0], 0)]
  | 3 => [
    ([0, 1, 2], 0), ([1, 1, 2], 1), ([0, 0, 2], 1), ([1, 0, 2], 0), ([2, 1, 2], 1), ([0, 1, 0], 1), ([2, 1, 0], 0), ([0, 2, 2], 1), ([0, 1, 1], 1), ([0, 2, 1], 0), ([0, 0, 1], 1), ([1, 2, 1], 1),
    ([1, 0, 1], 1), ([1, 2, 2], 1), ([0, 2, 0], 1), ([2, 2, 1], 1), ([2, 2, 0], 1), ([2, 1, 1], 1), ([2, 0, 2], 1), ([1, 0, 0], 1), ([2, 0, 0], 1), ([1, 1, 0], 1)]
  | 4 => [
    ([0, 1, 2, 3], 0), ([1, 1, 2, 3], 1), ([0, 0, 2, 3], 1), ([1, 0, 2, 3], 0), ([2, 1, 2, 3], 1), ([0, 1, 0, 3], 1), ([2, 1, 0, 3], 0), ([0, 2, 2, 3], 1), ([0, 1, 1, 3], 1), ([0, 2, 1, 3], 0), ([3, 1, 2, 3], 1), ([0, 1, 2, 0], 1),
    ([3, 1, 2, 0], 0), ([3, 2, 2, 3], 2), ([0, 2, 2, 0], 2), ([3, 2, 2, 0], 1), ([3, 1, 1, 3], 2), ([0, 1, 1, 0], 2), ([3, 1, 1, 0], 1), ([3, 2, 1, 3], 1), ([0, 2, 1, 0], 1), ([3, 2, 1, 0], 0), ([0, 3, 2, 3], 1), ([0, 1, 2, 1], 1),
    ([0, 3, 2, 1], 0), ([2, 3, 2, 3], 2), ([2, 1, 2, 1], 2), ([2, 3, 2, 1], 1), ([0, 3, 0, 3], 2), ([0, 1, 0, 1], 2), ([0, 3, 0, 1], 1), ([2, 3, 0, 3], 1), ([2, 1, 0, 1], 1), ([2, 3, 0, 1], 0), ([0, 1, 3, 3], 1), ([0, 1, 2, 2], 1),
    ([0, 1, 3, 2], 0), ([1, 1, 3, 3], 2), ([1, 1, 2, 2], 2), ([1, 1, 3, 2], 1), ([0, 0, 3, 3], 2), ([0, 0, 2, 2], 2), ([0, 0, 3, 2], 1), ([1, 0, 3, 3], 1), ([1, 0, 2, 2], 1), ([1, 0, 3, 2], 0), ([0, 1, 0, 2], 1), ([2, 1, 3, 2], 1),
    ([2, 1, 0, 2], 1), ([2, 1, 3, 3], 1), ([0, 1, 3, 0], 1), ([3, 1, 3, 2], 1), ([3, 1, 3, 0], 1), ([3, 1, 2, 2], 1), ([0, 1, 1, 2], 1), ([0, 2, 3, 2], 1), ([0, 2, 1, 2], 1), ([0, 2, 3, 3], 1), ([0, 1, 3, 1], 1), ([0, 3, 3, 2], 1),
    ([0, 3, 3, 1], 1), ([0, 3, 2, 2], 1), ([0, 0, 1, 3], 1), ([1, 2, 1, 3], 1), ([1, 0, 1, 3], 1), ([1, 2, 2, 3], 1), ([0, 2, 0, 3], 1), ([2, 2, 1, 3], 1), ([2, 2, 0, 3], 1), ([2, 1, 1, 3], 1), ([0, 3, 1, 3], 1), ([0, 2, 1, 1], 1),
    ([0, 3, 1, 1], 1), ([0, 2, 2, 1], 1), ([0, 0, 2, 1], 1), ([1, 3, 2, 1], 1), ([1, 0, 2, 1], 1), ([1, 3, 2, 3], 1), ([0, 3, 2, 0], 1), ([3, 3, 2, 1], 1), ([3, 3, 2, 0], 1), ([3, 1, 2, 1], 1), ([2, 0, 2, 3], 1), ([1, 0, 0, 3], 1),
    ([2, 0, 0, 3], 1), ([1, 1, 0, 3], 1), ([3, 0, 2, 3], 1), ([1, 0, 2, 0], 1), ([3, 0, 2, 0], 1), ([1, 1, 2, 0], 1), ([1, 0, 1, 2], 1), ([1, 0, 3, 0], 1), ([1, 0, 1, 0], 1), ([3, 0, 3, 2], 1), ([3, 0, 1, 2], 1), ([3, 0, 3, 0], 1),
    ([3, 0, 1, 0], 1), ([1, 2, 3, 2], 1), ([1, 2, 1, 2], 1), ([1, 2, 3, 0], 1), ([1, 2, 1, 0], 1), ([3, 2, 3, 2], 1), ([3, 2, 1, 2], 1), ([3, 2, 3, 0], 1), ([1, 0, 0, 2], 1), ([1, 0, 3, 1], 1), ([1, 0, 0, 1], 1), ([1, 3, 3, 2], 1),
    ([1, 3, 0, 2], 1), ([1, 3, 3, 1], 1), ([1, 3, 0, 1], 1), ([2, 0, 3, 2], 1), ([2, 0, 0, 2], 1), ([2, 0, 3, 1], 1), ([2, 0, 0, 1], 1), ([2, 3, 3, 2], 1), ([2, 3, 0, 2], 1), ([2, 3, 3, 1], 1), ([3, 1, 0, 3], 1), ([2, 1, 0, 0], 1),
    ([3, 1, 0, 0], 1), ([2, 1, 2, 0], 1), ([2, 2, 0, 1], 1), ([2, 3, 0, 0], 1), ([2, 2, 0, 0], 1), ([3, 3, 0, 1], 1), ([3, 2, 0, 1], 1), ([3, 3, 0, 0], 1), ([3, 2, 0, 0], 1), ([2, 3, 1, 1], 1), ([2, 2, 1, 1], 1), ([2, 3, 1, 0], 1),
    ([2, 2, 1, 0], 1), ([3, 3, 1, 1], 1), ([3, 2, 1, 1], 1), ([3, 3, 1, 0], 1)]
  | _ => []
theorem met_all : ((List.range 5).all fun n => decide (lawMet n = metN n)) = true := by decide +kernel
theorem met_eq {n : Nat} (h : n ≤ 4) : lawMet n = metN n := of_decide_eq_true (List.all_eq_true.mp met_all n (List.mem_range.mpr (by omega)))
def metTally (t : List Nat) (p : List Nat × Nat) : List Nat := t.set p.2 (gt t p.2 + 1)
def tallyN (n : Nat) : List Nat := (metN n).foldl metTally (List.replicate (n + 2) 0)
theorem mf_keys : ((List.range 5).all fun n => (metN n).all fun p => decide (p.2 < n + 2) && (decide (look (metN n) p.1 = some p.2) && decide (p.1.length = n))) = true := by decide +kernel
theorem mf_len : ((List.range 5).all fun n => decide ((metN n).length ≤ 136)) = true := by decide +kernel
theorem mf_count : ((List.range 5).all fun n => decide (countImages n none = (metN n).length) && (decide (countImages n (some 0) = gt (tallyN n) 0) && (List.range (n + 2)).all fun (t : Nat) => decide (countImages n (some (t : Int)) = gt (tallyN n) t))) = true := by decide +kernel
theorem mf_codes : ((List.range 5).all fun n => (List.range (n ^ n)).all fun c => decide (repairable (codeImage n c) = (look (metN n) (codeImage n c)).isSome)) = true := by decide +kernel
theorem mf_at : ((List.range 5).all fun n => (List.range (metN n).length).all fun k => match imageAt n k with | none => false | some im => decide (imageNumber im = some k) && (decide (look (metN n) im = some (tornOf im).length) && (decide (repairable im = true) && (decide (im.length = n) && im.all fun x => decide (x < n))))) = true := by decide +kernel
def seenAt (n : Nat) (seen : List (List Nat × Nat)) (k : Nat) : List (List Nat × Nat) := put seen ((imageAt n k).getD []) k
theorem mf_seen : ((List.range 4).all fun n => decide (((List.range (metN n).length).foldl (seenAt n) []).length = (metN n).length)) = true := by decide +kernel
theorem mf_total : ((List.range 10).all fun n => decide (lawTotal n = gt (totalsN n) n)) = true := by decide +kernel
theorem mf_tot4 : ((List.range 5).all fun n => decide ((metN n).length = gt (totalsN n) n)) = true := by decide +kernel
end Pm
end
section
set_option Elab.async false
set_option maxRecDepth 100000
set_option maxHeartbeats 4000000
set_option linter.all false
namespace Pm
open PySem L2
local macro_rules | `(tactic| walk_at "ex") => `(tactic| first | exact Ex.refl _ | assumption | exact Ex.new (by assumption) | exact Ex.trans (by walk_at "ex") (by assumption) | exact Ex.trans (by walk_at "ex") (Ex.new (by assumption)) | exact Ex.mut (by walk_at "ex") (by first | assumption | exact Ex.none (by walk_at "ex") (by assumption)))
local macro_rules | `(tactic| walk_at "sq") => `(tactic| first | assumption | exact Ex.l (by walk_at "ex") (by assumption) | exact Ex.t (by walk_at "ex") (by assumption) | exact SqL.of (by walk_at "hp") | exact SqT.of (by walk_at "hp") | exact Ex.l (by walk_at "ex") (LstA.sq (by assumption)) | exact Ex.t (by walk_at "ex") (TupA.sq (by assumption)))
local macro_rules | `(tactic| walk_at "hp") => `(tactic| first | assumption | exact upd_same | (refine (by walk_at "ex" : Ex _ _) _ _ ?_; assumption) | (refine (by walk_at "ex" : Ex _ _) _ _ ?_; exact upd_same))
local macro_rules | `(tactic| walk_at "x1") => `(tactic| first
  | (with_reducible refine x_seq ?_) | (with_reducible refine x_asg ?_) | ((with_reducible refine x_name ?_); dsimp only [List.set_cons_succ, List.set_cons_zero])
  | (with_reducible refine x_ret ?_) | (with_reducible refine x_if ?_) | (with_reducible refine x_drop ?_) | (with_reducible refine x_next ?_)
  | ((with_reducible refine' x_var ?h ?_); (case h => rfl)) | (with_reducible refine x_c ?_) | (with_reducible refine x_op ?_) | (with_reducible refine x_un ?_)
  | (with_reducible refine x_I0 ?_) | ((with_reducible refine x_I ?h ?_); (case h => first | exact Or.inl (by omega) | exact Or.inr (by omega) | omega | (constructor <;> omega))) | (with_reducible refine x_U ?_)
  | ((with_reducible refine' x_eq ?h ?_); (case h => rfl)) | ((with_reducible refine' x_ne ?h ?_); (case h => rfl))
  | (with_reducible refine x_cb ?_) | (with_reducible refine x_call ?_) | (with_reducible refine x_nil ?_) | (with_reducible refine x_cons ?_)
  | (with_reducible refine x_test ?_) | (with_reducible refine x_tB ?_) | (with_reducible refine x_bl ?_) | (with_reducible refine x_or ?_) | (with_reducible refine x_and ?_) | (with_reducible refine x_not ?_)
  | (with_reducible refine x_ifE ?_) | (with_reducible refine x_lst ?_) | (with_reducible refine x_tup ?_)
  | (with_reducible refine x_bm ?_) | (with_reducible refine x_bmG ?_) | (with_reducible refine x_chain ?_) | (with_reducible refine x_orV ?_) | (with_reducible refine x_andV ?_) | (with_reducible refine x_notV ?_) | (with_reducible refine x_sub ?_) | (with_reducible refine x_star ?_) | (with_reducible refine x_sl ?_) | (with_reducible refine x_po ?_) | (with_reducible refine x_pn ?_))
local macro_rules | `(tactic| walk_at "y1") => `(tactic| first
  | (with_reducible refine x_seq ?_) | (with_reducible refine x_asg ?_) | ((with_reducible refine x_name ?_); dsimp only [List.set_cons_succ, List.set_cons_zero])
  | (with_reducible refine x_drop ?_) | (with_reducible refine x_next ?_)
  | ((with_reducible refine' x_var ?h ?_); (case h => rfl)) | (with_reducible refine x_c ?_) | (with_reducible refine x_op ?_) | (with_reducible refine x_un ?_)
  | (with_reducible refine x_I0 ?_) | ((with_reducible refine x_I ?h ?_); (case h => first | exact Or.inl (by omega) | exact Or.inr (by omega) | omega | (constructor <;> omega))) | (with_reducible refine x_U ?_)
  | ((with_reducible refine' x_eq ?h ?_); (case h => rfl)) | ((with_reducible refine' x_ne ?h ?_); (case h => rfl))
  | (with_reducible refine x_cb ?_) | (with_reducible refine x_call ?_) | (with_reducible refine x_nil ?_) | (with_reducible refine x_cons ?_)
  | (with_reducible refine x_test ?_) | (with_reducible refine x_tB ?_) | (with_reducible refine x_bl ?_) | (with_reducible refine x_or ?_) | (with_reducible refine x_and ?_) | (with_reducible refine x_not ?_)
  | (with_reducible refine x_ifE ?_) | (with_reducible refine x_lst ?_) | (with_reducible refine x_tup ?_)
  | (with_reducible refine x_bm ?_) | (with_reducible refine x_bmG ?_) | (with_reducible refine x_chain ?_) | (with_reducible refine x_orV ?_) | (with_reducible refine x_andV ?_) | (with_reducible refine x_notV ?_) | (with_reducible refine x_sub ?_) | (with_reducible refine x_star ?_) | (with_reducible refine x_sl ?_) | (with_reducible refine x_po ?_) | (with_reducible refine x_pn ?_))
local macro_rules | `(tactic| walk_at "xi") => `(tactic| first | (with_reducible refine iteT ?_) | (with_reducible refine iteF ?_) | (with_reducible refine x_notT ?_) | (with_reducible refine x_notF ?_))
local macro_rules | `(tactic| walk_at "x") => `(tactic| ((try dsimp only); repeat ((first | walk_at "x1" | walk_at "xi"); (try dsimp only))))
local macro_rules | `(tactic| walk_at "y") => `(tactic| ((try dsimp only); repeat ((first | walk_at "y1" | walk_at "xi"); (try dsimp only))))

theorem ExA.mut {M : Av} {H H' : Hp} {p : Addr} {o : HO} (e : ExA M H H') (h : H p = none) : ExA M H (upd H' p o) := fun a u m ha => by
  by_cases z : a = p
  · rw [z, h] at ha
    cases ha
  · rw [upd_ne z]
    exact e a u m ha
theorem ExA.unlock {p : Addr} {u : HO} {H H' : Hp} (e : ExA (fun a => a = p) H H') (h : H p = some u) : Ex H (upd H' p u) := fun a o ha => by
  by_cases z : a = p
  · rw [z, h] at ha
    cases ha
    rw [z]
    exact upd_same
  · rw [upd_ne z]
    exact e a o z ha
/-- a loop over the keys of a plain dict of tuple keys, the dict locked -/
theorem x_lockT {S : Type} {σ : L2.St} {H : Hp} {g : TG} {tb : TS} {D : Ends} {j : Nat} {p : Addr} {kvs : List (List Key × V)} (hv : σ[j]? = some (some (.ref p))) (hp : H p = some (.dT kvs)) (f : S → List Key × V → S) (I : Obj → Nat → S → L2.St → Hp → Prop) (s0 : S) (h0 : ∀ od, I od 0 s0 σ (upd H p (.frz od (.dT kvs))))
    (hS : ∀ od i s σ H, I od i s σ H → H p = some (.frz od (.dT kvs)))
    (hs : ∀ (od : Obj) (s : S) (i : Nat) (k : List Key) (v : V) (q : Addr) (σ : L2.St) (H : Hp) (rt : VK) (bk : L2.St → Hp → Prop), kvs[i]? = some (k, v) → H q = some (.tup (k.map kV)) → I od i s σ H → g (.ref q) σ H fun σ2 H2 => tb ⟨I od (i + 1) (f s (k, v)), rt, bk, I od (i + 1) (f s (k, v))⟩ σ2 H2)
    (hd : ∀ od σ H, I od kvs.length (kvs.foldl f s0) σ H → D.nx σ (upd H p (.dT kvs))) : tLock (tFor (iKeys (tVar j)) g tb) D σ H := by
  refine ⟨p, .dT kvs, hp, trivial, fun od => ?_⟩
  refine ⟨.ref p, hv, p, od, rfl, .inr ⟨kvs, upd_same, ?_⟩⟩
  refine ⟨fun i m σ H => m = kvs.length - i ∧ i ≤ kvs.length ∧ I od i ((kvs.take i).foldl f s0) σ H, ⟨_, rfl, Nat.zero_le _, h0 od⟩, ?_⟩
  rintro i m σ H ⟨rfl, hi, pI⟩
  by_cases hlt : i < kvs.length
  · have hx : kvs[i]? = some kvs[i] := List.getElem?_eq_getElem hlt
    have et : (kvs.take (i + 1)).foldl f s0 = f ((kvs.take i).foldl f s0) kvs[i] := by
      rw [List.take_add_one, hx, List.foldl_append]
      rfl
    refine .inr ⟨⟨hS _ _ _ _ _ pI, hlt⟩, I od (i + 1) (f ((kvs.take i).foldl f s0) kvs[i]), fun σ' H' p' => ⟨kvs.length - (i + 1), by omega, rfl, hlt, ?_⟩, ?_⟩
    · rw [et]
      exact p'
    · rintro x H' ⟨rfl, k, v, q, hk, rfl, hq⟩
      rw [hx] at hk
      have ek : kvs[i] = (k, v) := Option.some.inj hk
      rw [ek] at hx ⊢
      exact hs od _ i k v q σ _ _ _ hx hq pI
  · have e : i = kvs.length := by omega
    subst e
    rw [List.take_length] at pI
    exact .inl ⟨⟨hS _ _ _ _ _ pI, Nat.le_refl _⟩, hS _ _ _ _ _ pI, hd od σ H pI⟩
theorem x_callV {σ : L2.St} {H : Hp} {Q : VK} {sp : Sp} {dv : List V} {E : XK} {t : TA} (q : t σ H fun vs H1 => sp (vs ++ dv) H1 Q E) : tCall sp dv E t σ H Q := q
theorem x_dget {σ : L2.St} {H : Hp} {Q : VK} {td ty : TE} (q : td σ H fun x H1 => ty σ H1 fun y H2 => ∃ a v, x = .ref a ∧ DGet H2 a y (some v) ∧ Q v H2) : tDGet td ty σ H Q := q
theorem met_at {n : Nat} (hn : n ≤ 4) {i : Nat} {k : List Key} {v : V} (h : (metD (metN n))[i]? = some (k, v)) : ∃ p : List Nat × Nat, (metN n)[i]? = some p ∧ k = kd p.1 ∧ v = vn p.2 ∧ p.2 < n + 2 ∧ look (metN n) p.1 = some p.2 ∧ p.1.length = n := by
  unfold metD at h
  rw [List.getElem?_map] at h
  obtain ⟨p, hp, e⟩ := Option.map_eq_some_iff.mp h
  cases e
  have f := List.all_eq_true.mp (List.all_eq_true.mp mf_keys n (List.mem_range.mpr (by omega))) p (List.mem_of_getElem? hp)
  rw [Bool.and_eq_true, Bool.and_eq_true, decide_eq_true_iff, decide_eq_true_iff, decide_eq_true_iff] at f
  exact ⟨p, hp, rfl, rfl, f.1, f.2.1, f.2.2⟩
theorem count_facts {n : Nat} (hn : n ≤ 4) : countImages n none = (metN n).length ∧ countImages n (some 0) = gt (tallyN n) 0 ∧ ∀ t : Nat, t < n + 2 → countImages n (some (t : Int)) = gt (tallyN n) t := by
  have f := List.all_eq_true.mp mf_count n (List.mem_range.mpr (by omega))
  rw [Bool.and_eq_true, Bool.and_eq_true, decide_eq_true_iff, decide_eq_true_iff, List.all_eq_true] at f
  exact ⟨f.1, f.2.1, fun t ht => of_decide_eq_true (f.2.2 t (List.mem_range.mpr ht))⟩
theorem count_neg (n : Nat) (k : Nat) : countImages n (some (-1 - (k : Int))) = 0 := if_pos (.inl (by omega))
def tallyK (t : List Nat) (p : List Key × V) : List Nat := match p.2 with
  | .int i => t.set i.toNat (gt t i.toNat + 1)
  | _ => t
theorem tally_fold : ∀ (m : List (List Nat × Nat)) (t : List Nat), (metD m).foldl tallyK t = m.foldl metTally t
  | [], _ => rfl
  | p :: m, t => tally_fold m (metTally t p)
theorem tally_len : ∀ (m : List (List Nat × Nat)) (t : List Nat), (m.foldl metTally t).length = t.length
  | [], _ => rfl
  | p :: m, t => by
    rw [List.foldl_cons, tally_len m]
    exact List.length_set
theorem bag_ex {K : PySem.W.Frag} {H H' : Hp} {b : Addr} (e : Ex H H') (h : BagAt K H b) : BagAt K H' b := by
  obtain ⟨c, cells, h1, h2, h3⟩ := h
  exact ⟨c, cells, e _ _ h1, h2, e.l h3⟩
section
variable {P : Program} {w : World} {K : PySem.W.Frag} {mg : Str → Option Value} {base : Heap}
/-! _law_counts: slots _law_bag_here 0, _law_size 1, _law_met_here 2, _law_tally 3, _law_image 4, _law_told 5, _law_t 6; calls ['count_images', 'count_states', '_law_same', '_law_take']; built-ins ['len', 'range'] -/
abbrev s_law_counts : Stmt := top 50
abbrev N_law_counts : List Str := ["_law_bag_here", "_law_size", "_law_met_here", "_law_tally", "_law_image", "_law_told", "_law_t"]
theorem sc_law_counts : FnScope N_law_counts ["_law_bag_here", "_law_size", "_law_met_here"] (defScope s_law_counts) := ⟨rfl, rfl, rfl, by decide +kernel, rfl, by decide +kernel, by decide +kernel⟩

def spCounts (K : PySem.W.Frag) : Sp := fun vs H Q _ => ∃ (b p : Addr) (n : Nat), vs = [.ref b, vn n, .ref p] ∧ n ≤ 4 ∧ BagAt K H b ∧ H p = some (.dT (metD (metN n))) ∧ ∀ H', Ex H H' → Q (.bl true) H'
set_option linter.unusedVariables false in
theorem ok_law_counts {f : Addr} {fd : FuncData} (F : Fun K "_law_counts" "_law_counts" s_law_counts f fd) (T : Txt mg) (D_count_images_kw : DfK P w K mg base "count_images" 4 ["size", "torn"] "torn" .non (spCount K)) (D_count_states : Df P w K mg base "count_states" 5 ["size"] (spStates K))
    (D_law_same : Df P w K mg base "_law_same" 1 ["_law_told", "_law_due"] (spSame K)) (D_law_take : Df P w K mg base "_law_take" 1 ["_law_bag_here", "_law_many"] (spTake K)) : FnOk P w K mg base CX0 6 f fd ["_law_bag_here", "_law_size", "_law_met_here"] (spCounts K) := by
  refine F.ok sc_law_counts (fun vs H Q E h => ?_) (fun cdv A outer s H vs Q E hr h => ?_)
  · obtain ⟨_, _, _, rfl, _⟩ := h
    rfl
  · obtain ⟨b, p, n, rfl, hn, hb, hp, q⟩ := h
    obtain ⟨c1, c2, c3⟩ := count_facts hn
    refine ⟨_, (pss_cons (ps_set (i := 3) sc_law_counts.nd rfl (by first | exact Or.inl rfl | exact Or.inr rfl) (pe_op op_rep (pe_lst (pa_cons pe_int pa_nil)) (pe_op op_add (pv 1) pe_int)))
  (pss_cons (ps_lock (ps_for PassesOwn.never rfl (pi_keys (pv 2)) (pg_name (i := 4) sc_law_counts.nd rfl (by first | exact Or.inl rfl | exact Or.inr rfl)) (pss_one (ps_asg (pe_op op_add (pe_ix ix_list (pv 3) (pe_dget (hu_of hr) (pv 2) (pv 4) (fun _ _ => rfl)) (fun _ _ => rfl)) pe_int) (pg_sub (pv 3) (pe_dget (hu_of hr) (pv 2) (pv 4) (fun _ _ => rfl)) set_list)))))
  (pss_cons (ps_set (i := 5) sc_law_counts.nd rfl (by first | exact Or.inl rfl | exact Or.inr rfl) (pe_lst (pa_cons (pe_callD0 D_count_images_kw (hr.mono (by decide)) (by rfl) (pa_cons (pv 1) pa_nil)) (pa_cons (pe_callK1 D_count_images_kw (hr.mono (by decide)) (by rfl) (pa_cons (pv 1) pa_nil) (pk_cons pe_non pk_nil)) (pa_cons (pe_callD D_count_states (hr.mono (by decide)) (by rfl) (pa_cons (pv 1) pa_nil)) pa_nil)))))
  (pss_cons (ps_if (pt_not (pt_val (pe_callD D_law_same (hr.mono (by decide)) (by rfl) (pa_cons (pv 5) (pa_cons (pe_lst (pa_cons (pe_callB call_len_dT (by rfl) T.b_len (by decide +kernel) (pa_cons (pv 2) pa_nil)) (pa_cons (pe_callB call_len_dT (by rfl) T.b_len (by decide +kernel) (pa_cons (pv 2) pa_nil)) (pa_cons (pe_ix ix_list (pv 3) pe_int (fun _ _ => rfl)) pa_nil)))) pa_nil))))) (pss_one (ps_ret pe_bl)) pss_nil)
  (pss_cons (ps_for PassesOwn.never rfl (pi_range1 (by rfl) T.b_range (pa_cons (pe_op op_add (pv 1) pe_int) pa_nil)) (pg_name (i := 6) sc_law_counts.nd rfl (by first | exact Or.inl rfl | exact Or.inr rfl)) (pss_one (ps_if (pt_not (pt_val (pe_callD D_law_same (hr.mono (by decide)) (by rfl) (pa_cons (pe_lst (pa_cons (pe_callK1 D_count_images_kw (hr.mono (by decide)) (by rfl) (pa_cons (pv 1) pa_nil) (pk_cons (pv 6) pk_nil)) pa_nil)) (pa_cons (pe_lst (pa_cons (pe_ix ix_list (pv 3) (pv 6) (fun _ _ => rfl)) pa_nil)) pa_nil))))) (pss_one (ps_ret pe_bl)) pss_nil)))
  (pss_one (ps_ret (pe_callD D_law_same (hr.mono (by decide)) (by rfl) (pa_cons (pe_lst (pa_cons (pe_callK1 D_count_images_kw (hr.mono (by decide)) (by rfl) (pa_cons (pv 1) pa_nil) (pk_cons (pe_op op_sub (pe_un un_neg pe_int) (pe_callD D_law_take (hr.mono (by decide)) (by rfl) (pa_cons (pv 0) (pa_cons pe_int pa_nil)))) pk_nil)) pa_nil)) (pa_cons (pe_lst (pa_cons pe_int pa_nil)) pa_nil)))))))))), ?_⟩
    refine x_start (σ := [some _, some _, some _, none, none, none, none]) rfl ?_
    walk_at "x"
    refine ⟨by show 1 ≤ sizeLine; decide, fun l0 n0 => ?_⟩
    walk_at "x"
    refine ⟨l0, _, _, rfl, rfl, upd_same, by omega, by omega, by rw [sizeLine_eq]; show 1 * _ ≤ _; omega, fun tl ntl => ?_⟩
    rw [show ((n : Int) + 2).toNat = n + 2 by omega, show ([V.int 0] : List V) = [vn 0] from rfl, rep_vn]
    walk_at "x"
    have x0 := Ex.new (o := .lst [vn 0]) n0
    have x1 := Ex.new (o := .lst ((List.replicate (n + 2) 0).map vn)) ntl
    have e1 := Ex.trans x0 x1
    have ntl' : H tl = none := x0.none ntl
    have ptl : p ≠ tl := fun z => by rw [z, ntl'] at hp; cases hp
    have hp1 := e1 _ _ hp
    refine x_lockT (j := 2) (p := p) rfl hp1 tallyK (fun od i s σ' H' => ExA (fun a => a = p) H H' ∧ H' p = some (.frz od (.dT (metD (metN n)))) ∧ H' tl = some (.lst (s.map vn)) ∧ s.length = n + 2 ∧ (∀ x ∈ s, x ≤ i) ∧ ∃ y4 y5 y6, σ' = [some (.ref b), some (vn n), some (.ref p), some (.ref tl), y4, y5, y6])
      (List.replicate (n + 2) 0) (fun od => ⟨ExA.trans e1.a (ExA.put rfl), upd_same, by rw [upd_ne (Ne.symm ptl)]; exact upd_same, List.length_replicate, fun x hx => by rw [List.eq_of_mem_replicate hx]; exact Nat.le_refl _, _, _, _, rfl⟩) (fun od i s σ H h => h.2.1) ?_ ?_
    · rintro od s i k v qa σ' H' rt bk hkv hq ⟨e, hf, ht, sl, sb, y4, y5, y6, rfl⟩
      obtain ⟨pr, hpr, rfl, rfl, p2, plk, _⟩ := met_at hn hkv
      have dg : ∀ {R : V → Prop}, R (vn pr.2) → ∃ a v, V.ref p = .ref a ∧ DGet H' a (.ref qa) (some v) ∧ R v := fun r => ⟨p, _, rfl, .inr ⟨_, kd pr.1, qa, .inr ⟨od, hf⟩, rfl, hq, by rw [metD_look, plk]; rfl⟩, r⟩
      have ek : tallyK s (kd pr.1, vn pr.2) = s.set pr.2 (gt s pr.2 + 1) := rfl
      walk_at "x"
      refine x_dget ?_
      walk_at "x"
      refine dg ?_
      refine x_ixN (SqL.of ht) rfl (by rw [sl]; exact p2) ?_
      walk_at "x"
      refine x_dget ?_
      walk_at "x"
      refine dg ?_
      refine x_setN (m := gt s pr.2 + 1) ht rfl (by rw [sl]; exact p2) ?_
      rw [ek]
      refine ⟨ExA.mut e ntl', by rw [upd_ne ptl]; exact hf, upd_same, by rw [List.length_set]; exact sl, fun x hx => ?_, _, _, _, rfl⟩
      rcases List.mem_or_eq_of_mem_set hx with z | z
      · exact Nat.le_succ_of_le (sb x z)
      · rw [z]
        exact Nat.succ_le_succ (sb _ (gt_mem (by rw [sl]; exact p2)))
    · rintro od σ' H' ⟨e, hf, ht, sl, sb, y4, y5, y6, rfl⟩
      have e2 := ExA.unlock e hp
      have hp2 : upd H' p (.dT (metD (metN n))) p = some (.dT (metD (metN n))) := upd_same
      have ht2 : upd H' p (.dT (metD (metN n))) tl = some (.lst ((tallyN n).map vn)) := by
        rw [upd_ne (Ne.symm ptl), ht, tally_fold]
        rfl
      generalize upd H' p (.dT (metD (metN n))) = H2 at e2 hp2 ht2 ⊢
      have tlen : (tallyN n).length = n + 2 := by
        unfold tallyN
        rw [tally_len, List.length_replicate]
      walk_at "x"
      refine x_callV ?_
      walk_at "x"
      refine ⟨n, none, rfl, .inl hn, fun _ z => (by cases z), fun H3 e3 => ?_⟩
      walk_at "x"
      refine x_callK1 ?_
      walk_at "x"
      refine ⟨_, _, rfl, rfl, n, none, rfl, .inl hn, fun _ z => (by cases z), fun H4 e4 => ?_⟩
      walk_at "x"
      refine ⟨n, rfl, hn, fun H5 e5 => ?_⟩
      walk_at "x"
      refine ⟨by show 3 ≤ sizeLine; decide, fun lt nlt => ?_⟩
      walk_at "x"
      have e25 := Ex.trans e2 (Ex.trans e3 (Ex.trans e4 e5))
      have e25' := Ex.trans e3 (Ex.trans e4 e5)
      have x6 := Ex.new (o := .lst [vn (countImages n none), vn (countImages n none), vn (countImages n (some 0))]) nlt
      have ht6 : upd H5 lt (.lst [vn (countImages n none), vn (countImages n none), vn (countImages n (some 0))]) lt = some (.lst ([countImages n none, countImages n none, countImages n (some 0)].map vn)) := upd_same
      have e6 := Ex.trans e25 x6
      have hp6 := x6 _ _ (e25' _ _ hp2)
      have hl6 := x6 _ _ (e25' _ _ ht2)
      generalize upd H5 lt (.lst [vn (countImages n none), vn (countImages n none), vn (countImages n (some 0))]) = H6 at e6 hp6 hl6 ht6 ⊢
      refine ⟨p, _, rfl, hp6, ?_⟩
      walk_at "x"
      refine ⟨p, _, rfl, hp6, ?_⟩
      walk_at "x"
      refine x_ixN (n := 0) (SqL.of hl6) rfl (by omega) ?_
      rw [metD_len]
      walk_at "x"
      refine ⟨by show 3 ≤ sizeLine; decide, fun ld nld => ?_⟩
      walk_at "x"
      have x7 := Ex.new (o := .lst [vn (metN n).length, vn (metN n).length, vn (gt (tallyN n) 0)]) nld
      refine ⟨lt, ld, [countImages n none, countImages n none, countImages n (some 0)], [(metN n).length, (metN n).length, gt (tallyN n) 0], rfl, x7 _ _ ht6, SqL.of upd_same, fun H8 e8 => ?_⟩
      rw [c1, c2, decide_eq_true rfl]
      walk_at "x"
      have e68 := Ex.trans x7 e8
      have e8' := Ex.trans e6 e68
      have hl8 := e68 _ _ hl6
      refine x_forR1 ?_
      walk_at "x"
      refine ⟨_, rfl, by omega, by omega, ?_⟩
      rw [show ((n : Int) + 2).toNat = n + 2 by omega]
      refine loopR_foldi (fun (_ : Unit) _ => ()) (fun i _ σ' H' => Ex H8 H' ∧ ∃ y6, σ' = [some (.ref b), some (vn n), some (.ref p), some (.ref tl), y4, some (.ref lt), y6])
        () ⟨Ex.refl _, _, rfl⟩ ?_ ?_
      · rintro _ t σ' H9 htn ⟨e9, y6, rfl⟩
        walk_at "x"
        refine x_callK1 ?_
        walk_at "x"
        refine ⟨_, _, rfl, rfl, n, some (t : Int), ?_, .inl hn, fun i z => ?_, fun H10 e10 => ?_⟩
        · rw [Int.zero_add]
          rfl
        · cases z
          omega
        walk_at "x"
        refine ⟨by show 1 ≤ sizeLine; decide, fun la nla => ?_⟩
        have x11 := Ex.new (o := .lst [vn (countImages n (some (t : Int)))]) nla
        have ha11 : upd H10 la (.lst [vn (countImages n (some (t : Int)))]) la = some (.lst ([countImages n (some (t : Int))].map vn)) := upd_same
        have e11 := Ex.trans e9 (Ex.trans e10 x11)
        generalize upd H10 la (.lst [vn (countImages n (some (t : Int)))]) = H11 at e11 ha11 ⊢
        walk_at "x"
        refine x_ixN (n := t) (SqL.of (e11 _ _ hl8)) (Int.zero_add _) (by omega) ?_
        walk_at "x"
        refine ⟨by show 1 ≤ sizeLine; decide, fun lb nlb => ?_⟩
        have x12 := Ex.new (o := .lst [vn (gt (tallyN n) t)]) nlb
        walk_at "x"
        refine ⟨la, lb, [countImages n (some (t : Int))], [gt (tallyN n) t], rfl, x12 _ _ ha11, SqL.of upd_same, fun H13 e13 => ?_⟩
        rw [c3 t htn, decide_eq_true rfl]
        walk_at "x"
        exact ⟨Ex.trans e11 (Ex.trans x12 e13), _, rfl⟩
      · rintro σ' H9 ⟨e9, y6, rfl⟩
        have hb9 := bag_ex (Ex.trans e8' e9) hb
        walk_at "x"
        refine x_callK1 ?_
        walk_at "x"
        refine ⟨b, 9, rfl, by decide, by decide, hb9, fun k hk => ?_⟩
        walk_at "x"
        refine ⟨_, _, rfl, rfl, n, some (-1 - (k : Int)), rfl, .inl hn, fun i z => ?_, fun H10 e10 => ?_⟩
        · cases z
          omega
        rw [count_neg]
        walk_at "x"
        refine ⟨by show 1 ≤ sizeLine; decide, fun la nla => ?_⟩
        have x11 := Ex.new (o := .lst [vn 0]) nla
        have ha11 : upd H10 la (.lst [vn 0]) la = some (.lst ([0].map vn)) := upd_same
        have e11 := Ex.trans e9 (Ex.trans e10 x11)
        generalize upd H10 la (.lst [vn 0]) = H11 at e11 ha11 ⊢
        walk_at "x"
        refine ⟨by show 1 ≤ sizeLine; decide, fun lb nlb => ?_⟩
        have x12 := Ex.new (o := .lst [V.int 0]) nlb
        walk_at "x"
        refine ⟨la, lb, [0], [0], rfl, x12 _ _ ha11, SqL.of upd_same, fun H13 e13 => ?_⟩
        exact q _ (Ex.trans e8' (Ex.trans e11 (Ex.trans x12 e13)))
end
end Pm
end
section
set_option Elab.async false
set_option maxRecDepth 100000
set_option maxHeartbeats 4000000
set_option linter.all false
namespace Pm
open PySem L2
local macro_rules | `(tactic| walk_at "ex") => `(tactic| first | exact Ex.refl _ | assumption | exact Ex.new (by assumption) | exact Ex.trans (by walk_at "ex") (by assumption) | exact Ex.trans (by walk_at "ex") (Ex.new (by assumption)) | exact Ex.mut (by walk_at "ex") (by first | assumption | exact Ex.none (by walk_at "ex") (by assumption)))
local macro_rules | `(tactic| walk_at "sq") => `(tactic| first | assumption | exact Ex.l (by walk_at "ex") (by assumption) | exact Ex.t (by walk_at "ex") (by assumption) | exact SqL.of (by walk_at "hp") | exact SqT.of (by walk_at "hp") | exact Ex.l (by walk_at "ex") (LstA.sq (by assumption)) | exact Ex.t (by walk_at "ex") (TupA.sq (by assumption)))
local macro_rules | `(tactic| walk_at "hp") => `(tactic| first | assumption | exact upd_same | (refine (by walk_at "ex" : Ex _ _) _ _ ?_; assumption) | (refine (by walk_at "ex" : Ex _ _) _ _ ?_; exact upd_same))
local macro_rules | `(tactic| walk_at "x1") => `(tactic| first
  | (with_reducible refine x_seq ?_) | (with_reducible refine x_asg ?_) | ((with_reducible refine x_name ?_); dsimp only [List.set_cons_succ, List.set_cons_zero])
  | (with_reducible refine x_ret ?_) | (with_reducible refine x_if ?_) | (with_reducible refine x_drop ?_) | (with_reducible refine x_next ?_)
  | ((with_reducible refine' x_var ?h ?_); (case h => rfl)) | (with_reducible refine x_c ?_) | (with_reducible refine x_op ?_) | (with_reducible refine x_un ?_)
  | (with_reducible refine x_I0 ?_) | ((with_reducible refine x_I ?h ?_); (case h => first | exact Or.inl (by omega) | exact Or.inr (by omega) | omega | (constructor <;> omega))) | (with_reducible refine x_U ?_)
  | ((with_reducible refine' x_eq ?h ?_); (case h => rfl)) | ((with_reducible refine' x_ne ?h ?_); (case h => rfl))
  | (with_reducible refine x_cb ?_) | (with_reducible refine x_call ?_) | (with_reducible refine x_nil ?_) | (with_reducible refine x_cons ?_)
  | (with_reducible refine x_test ?_) | (with_reducible refine x_tB ?_) | (with_reducible refine x_bl ?_) | (with_reducible refine x_or ?_) | (with_reducible refine x_and ?_) | (with_reducible refine x_not ?_)
  | (with_reducible refine x_ifE ?_) | (with_reducible refine x_lst ?_) | (with_reducible refine x_tup ?_)
  | (with_reducible refine x_bm ?_) | (with_reducible refine x_bmG ?_) | (with_reducible refine x_chain ?_) | (with_reducible refine x_orV ?_) | (with_reducible refine x_andV ?_) | (with_reducible refine x_notV ?_) | (with_reducible refine x_sub ?_) | (with_reducible refine x_star ?_) | (with_reducible refine x_sl ?_) | (with_reducible refine x_po ?_) | (with_reducible refine x_pn ?_))
local macro_rules | `(tactic| walk_at "y1") => `(tactic| first
  | (with_reducible refine x_seq ?_) | (with_reducible refine x_asg ?_) | ((with_reducible refine x_name ?_); dsimp only [List.set_cons_succ, List.set_cons_zero])
  | (with_reducible refine x_drop ?_) | (with_reducible refine x_next ?_)
  | ((with_reducible refine' x_var ?h ?_); (case h => rfl)) | (with_reducible refine x_c ?_) | (with_reducible refine x_op ?_) | (with_reducible refine x_un ?_)
  | (with_reducible refine x_I0 ?_) | ((with_reducible refine x_I ?h ?_); (case h => first | exact Or.inl (by omega) | exact Or.inr (by omega) | omega | (constructor <;> omega))) | (with_reducible refine x_U ?_)
  | ((with_reducible refine' x_eq ?h ?_); (case h => rfl)) | ((with_reducible refine' x_ne ?h ?_); (case h => rfl))
  | (with_reducible refine x_cb ?_) | (with_reducible refine x_call ?_) | (with_reducible refine x_nil ?_) | (with_reducible refine x_cons ?_)
  | (with_reducible refine x_test ?_) | (with_reducible refine x_tB ?_) | (with_reducible refine x_bl ?_) | (with_reducible refine x_or ?_) | (with_reducible refine x_and ?_) | (with_reducible refine x_not ?_)
  | (with_reducible refine x_ifE ?_) | (with_reducible refine x_lst ?_) | (with_reducible refine x_tup ?_)
  | (with_reducible refine x_bm ?_) | (with_reducible refine x_bmG ?_) | (with_reducible refine x_chain ?_) | (with_reducible refine x_orV ?_) | (with_reducible refine x_andV ?_) | (with_reducible refine x_notV ?_) | (with_reducible refine x_sub ?_) | (with_reducible refine x_star ?_) | (with_reducible refine x_sl ?_) | (with_reducible refine x_po ?_) | (with_reducible refine x_pn ?_))
local macro_rules | `(tactic| walk_at "xi") => `(tactic| first | (with_reducible refine iteT ?_) | (with_reducible refine iteF ?_) | (with_reducible refine x_notT ?_) | (with_reducible refine x_notF ?_))
local macro_rules | `(tactic| walk_at "x") => `(tactic| ((try dsimp only); repeat ((first | walk_at "x1" | walk_at "xi"); (try dsimp only))))
local macro_rules | `(tactic| walk_at "y") => `(tactic| ((try dsimp only); repeat ((first | walk_at "y1" | walk_at "xi"); (try dsimp only))))

def powN (n : Nat) : Nat := (List.range n).foldl (fun m _ => m * n) 1
theorem pow_all : ((List.range 5).all fun n => decide (powN n = n ^ n ∧ n ^ n ≤ 256)) = true := by decide +kernel
theorem code_all : ((List.range 5).all fun n => (List.range (n ^ n)).all fun c => decide ((codeImage n c).length = n) && (codeImage n c).all fun x => decide (x < n)) = true := by decide +kernel
def codeStep (n : Nat) (s : List Nat × Nat) (_ : Nat) : List Nat × Nat := (s.1 ++ [s.2 % n], s.2 / n)
theorem code_eq (n c : Nat) : codeImage n c = ((List.range n).foldl (codeStep n) ([], c)).1 := rfl
theorem code_of {n : Nat} (hn : n ≤ 4) {c : Nat} (hc : c < n ^ n) : (codeImage n c).length = n ∧ Img (codeImage n c) ∧ repairable (codeImage n c) = (look (metN n) (codeImage n c)).isSome := by
  have f := List.all_eq_true.mp (List.all_eq_true.mp code_all n (List.mem_range.mpr (by omega))) c (List.mem_range.mpr hc)
  rw [Bool.and_eq_true, decide_eq_true_iff, List.all_eq_true] at f
  exact ⟨f.1, fun x hx => by rw [f.1]; exact of_decide_eq_true (f.2 x hx), of_decide_eq_true (List.all_eq_true.mp (List.all_eq_true.mp mf_codes n (List.mem_range.mpr (by omega))) c (List.mem_range.mpr hc))⟩
theorem x_din {σ : L2.St} {H : Hp} {Q : VK} {ty td : TE} (q : ty σ H fun y H1 => td σ H1 fun x H2 => ∃ a o, x = .ref a ∧ DGet H2 a y o ∧ Q (.bl o.isSome) H2) : tDIn ty td σ H Q := q
section
variable {P : Program} {w : World} {K : PySem.W.Frag} {mg : Str → Option Value} {base : Heap}
/-! _law_all: slots _law_size 0, _law_met_here 1, _law_many 2, _law_k 3, _law_code 4, _law_image 5, _law_rest 6; calls ['_law_truth', 'is_repairable']; built-ins ['range', 'int', 'list', 'tuple'] -/
abbrev s_law_all : Stmt := top 51
abbrev N_law_all : List Str := ["_law_size", "_law_met_here", "_law_many", "_law_k", "_law_code", "_law_image", "_law_rest"]
theorem sc_law_all : FnScope N_law_all ["_law_size", "_law_met_here"] (defScope s_law_all) := ⟨rfl, rfl, rfl, by decide +kernel, rfl, by decide +kernel, by decide +kernel⟩

def spAll (K : PySem.W.Frag) : Sp := fun vs H Q _ => ∃ (p : Addr) (n : Nat), vs = [vn n, .ref p] ∧ n ≤ 4 ∧ H p = some (.dT (metD (metN n))) ∧ ∀ H', Ex H H' → Q (.bl true) H'
set_option linter.unusedVariables false in
theorem ok_law_all {f : Addr} {fd : FuncData} (F : Fun K "_law_all" "_law_all" s_law_all f fd) (T : Txt mg) (D_is_repairable : Df P w K mg base "is_repairable" 4 ["image"] (spRep K)) (D_law_truth : Df P w K mg base "_law_truth" 1 ["_law_told", "_law_due"] (spTruth K)) : FnOk P w K mg base CX0 5 f fd ["_law_size", "_law_met_here"] (spAll K) := by
  refine F.ok sc_law_all (fun vs H Q E h => ?_) (fun cdv A outer s H vs Q E hr h => ?_)
  · obtain ⟨_, _, rfl, _⟩ := h
    rfl
  · obtain ⟨p, n, rfl, hn, hp, q⟩ := h
    obtain ⟨pw, pw2⟩ := of_decide_eq_true (List.all_eq_true.mp pow_all n (List.mem_range.mpr (by omega)))
    refine ⟨_, (pss_cons (ps_set (i := 2) sc_law_all.nd rfl (by first | exact Or.inl rfl | exact Or.inr rfl) pe_int)
  (pss_cons (ps_for PassesOwn.never rfl (pi_range1 (by rfl) T.b_range (pa_cons (pv 0) pa_nil)) (pg_name (i := 3) sc_law_all.nd rfl (by first | exact Or.inl rfl | exact Or.inr rfl)) (pss_one (ps_set (i := 2) sc_law_all.nd rfl (by first | exact Or.inl rfl | exact Or.inr rfl) (pe_op op_mul (pv 2) (pv 0)))))
  (pss_cons (ps_for PassesOwn.never rfl (pi_range1 (by rfl) T.b_range (pa_cons (pv 2) pa_nil)) (pg_name (i := 4) sc_law_all.nd rfl (by first | exact Or.inl rfl | exact Or.inr rfl)) (pss_cons (ps_set (i := 5) sc_law_all.nd rfl (by first | exact Or.inl rfl | exact Or.inr rfl) (pe_lst pa_nil))
  (pss_cons (ps_set (i := 6) sc_law_all.nd rfl (by first | exact Or.inl rfl | exact Or.inr rfl) (pv 4))
  (pss_cons (ps_for PassesOwn.never rfl (pi_range1 (by rfl) T.b_range (pa_cons (pv 0) pa_nil)) (pg_name (i := 3) sc_law_all.nd rfl (by first | exact Or.inl rfl | exact Or.inr rfl)) (pss_cons (ps_expr (pe_bm PySem.F.plainAttrs_list PySem.F.slot_list_append PySem.F.type_list_append mt_append (pv 5) (pa_cons (pe_op op_modN (pe_callTy call_int1 (by rfl) T.b_int (by decide +kernel) (pa_cons (pv 6) pa_nil)) (pv 0)) pa_nil)))
  (pss_one (ps_set (i := 6) sc_law_all.nd rfl (by first | exact Or.inl rfl | exact Or.inr rfl) (pe_op op_fdivN (pv 6) (pv 0))))))
  (pss_one (ps_if (pt_not (pt_val (pe_callD D_law_truth (hr.mono (by decide)) (by rfl) (pa_cons (pe_callD D_is_repairable (hr.mono (by decide)) (by rfl) (pa_cons (pe_callTy call_list_of (by rfl) T.b_list (by decide +kernel) (pa_cons (pv 5) pa_nil)) pa_nil)) (pa_cons (pe_cmp (pc_din (hu_of hr) (pe_callTy call_tuple_of (by rfl) T.b_tuple (by decide +kernel) (pa_cons (pv 5) pa_nil)) (pv 1))) pa_nil))))) (pss_one (ps_ret pe_bl)) pss_nil))))))
  (pss_one (ps_ret pe_bl))))), ?_⟩
    refine x_start (σ := [some _, some _, none, none, none, none, none]) rfl ?_
    walk_at "x"
    refine x_forR1 ?_
    walk_at "x"
    refine ⟨_, rfl, by omega, by omega, ?_⟩
    rw [Int.toNat_natCast]
    refine loopR_foldi (fun m _ => m * n) (fun i m σ' H' => H' = H ∧ ∃ y3 y4 y5 y6, σ' = [some (vn n), some (.ref p), some (vn m), y3, y4, y5, y6])
      1 ⟨rfl, _, _, _, _, rfl⟩ ?_ ?_
    · rintro m i σ' H' hi ⟨rfl, y3, y4, y5, y6, rfl⟩
      walk_at "x"
      exact ⟨rfl, _, _, _, _, rfl⟩
    · rintro σ' H' ⟨rfl, y3, y4, y5, y6, rfl⟩
      rw [show (List.range n).foldl (fun m _ => m * n) 1 = n ^ n from pw]
      walk_at "x"
      refine x_forR1 ?_
      walk_at "x"
      refine ⟨((n ^ n : Nat) : Int), rfl, by omega, by omega, ?_⟩
      rw [Int.toNat_natCast]
      refine loopR_foldi (fun (_ : Unit) _ => ()) (fun i _ σ' H1 => Ex H' H1 ∧ ∃ y3 y4 y5 y6, σ' = [some (vn n), some (.ref p), some (vn (n ^ n)), y3, y4, y5, y6])
        () ⟨Ex.refl _, _, _, _, _, rfl⟩ ?_ ?_
      · rintro _ c σ' H1 hc ⟨e1, y3, y4, y5, y6, rfl⟩
        obtain ⟨cl, ci, cr⟩ := code_of hn hc
        rw [Int.zero_add]
        walk_at "x"
        refine ⟨by decide, fun li nli => ?_⟩
        have x2 := Ex.new (o := .lst []) nli
        walk_at "x"
        refine x_forR1 ?_
        walk_at "x"
        refine ⟨_, rfl, by omega, by omega, ?_⟩
        rw [Int.toNat_natCast]
        refine loopR_foldi (codeStep n) (fun i s σ' H2 => Ex H1 H2 ∧ H2 li = some (.lst (s.1.map vn)) ∧ s.1.length = i ∧ ∃ y3, σ' = [some (vn n), some (.ref p), some (vn (n ^ n)), y3, some (vn c), some (.ref li), some (vn s.2)])
          ([], c) ⟨x2, upd_same, rfl, _, rfl⟩ ?_ ?_
        · rintro ⟨im, rest⟩ i σ' H2 hi ⟨e2, hl, il, y3, rfl⟩
          dsimp only at hl il ⊢
          walk_at "x"
          refine ⟨.inl ⟨rfl, _, SqL.of hl⟩, ?_⟩
          walk_at "x"
          refine .inl ⟨_, rfl, ?_⟩
          walk_at "x"
          have em : (rest : Int).fmod (n : Int) = ((rest % n : Nat) : Int) := by
            rw [Int.fmod_eq_emod_of_nonneg _ (by omega)]
            exact (Int.natCast_emod rest n).symm
          have ed : (rest : Int).fdiv (n : Int) = ((rest / n : Nat) : Int) := by
            rw [Int.fdiv_eq_ediv_of_nonneg _ (by omega)]
            exact (Int.natCast_ediv rest n).symm
          rw [em]
          refine x_append hl (by rw [List.length_map, sizeLine_eq]; omega) ?_
          refine x_asg (x_op ?_)
          walk_at "x"
          rw [ed]
          refine ⟨Ex.mut e2 nli, ?_, ?_, _, rfl⟩
          · show upd H2 li _ li = some (.lst ((im ++ [rest % n]).map vn))
            rw [List.map_append]
            exact upd_same
          · show (im ++ [rest % n]).length = _
            rw [List.length_append, il]
            rfl
        · rintro σ' H2 ⟨e2, hl, il, y3, rfl⟩
          rw [← code_eq] at hl
          walk_at "x"
          refine ⟨li, _, rfl, .inl (SqL.of hl), fun lj nlj => ?_⟩
          walk_at "x"
          have x3 := Ex.new (o := .lst ((codeImage n c).map vn)) nlj
          refine ⟨lj, codeImage n c, rfl, SqL.of upd_same, ci, by omega, fun H4 e4 => ?_⟩
          rw [cr]
          walk_at "x"
          refine x_din ?_
          walk_at "x"
          have e34 := Ex.trans x3 e4
          refine ⟨li, _, rfl, .inl ⟨SqL.of (e34 _ _ hl), fun lt nlt => ?_⟩⟩
          have x5 := Ex.new (o := .tup ((codeImage n c).map vn)) nlt
          have e15 := Ex.trans e2 (Ex.trans e34 x5)
          walk_at "x"
          refine ⟨p, valV (metD (metN n)) (kd (codeImage n c)), rfl, DGet.t ((Ex.trans e1 e15) _ _ hp) (by rw [kd_kV]; exact upd_same), ?_⟩
          rw [metD_look, Option.isSome_map]
          walk_at "x"
          refine ⟨_, _, rfl, ?_⟩
          rw [decide_eq_true rfl]
          walk_at "x"
          exact ⟨Ex.trans e1 e15, _, _, _, _, rfl⟩
      · rintro σ' H1 ⟨e1, y3, y4, y5, y6, rfl⟩
        walk_at "x"
        exact q _ e1
end
end Pm
end
section
set_option Elab.async false
set_option maxRecDepth 100000
set_option maxHeartbeats 4000000
set_option linter.all false
namespace Pm
open PySem L2
local macro_rules | `(tactic| walk_at "ex") => `(tactic| first | exact Ex.refl _ | assumption | exact Ex.new (by assumption) | exact Ex.trans (by walk_at "ex") (by assumption) | exact Ex.trans (by walk_at "ex") (Ex.new (by assumption)) | exact Ex.mut (by walk_at "ex") (by first | assumption | exact Ex.none (by walk_at "ex") (by assumption)))
local macro_rules | `(tactic| walk_at "sq") => `(tactic| first | assumption | exact Ex.l (by walk_at "ex") (by assumption) | exact Ex.t (by walk_at "ex") (by assumption) | exact SqL.of (by walk_at "hp") | exact SqT.of (by walk_at "hp") | exact Ex.l (by walk_at "ex") (LstA.sq (by assumption)) | exact Ex.t (by walk_at "ex") (TupA.sq (by assumption)))
local macro_rules | `(tactic| walk_at "hp") => `(tactic| first | assumption | exact upd_same | (refine (by walk_at "ex" : Ex _ _) _ _ ?_; assumption) | (refine (by walk_at "ex" : Ex _ _) _ _ ?_; exact upd_same))
local macro_rules | `(tactic| walk_at "x1") => `(tactic| first
  | (with_reducible refine x_seq ?_) | (with_reducible refine x_asg ?_) | ((with_reducible refine x_name ?_); dsimp only [List.set_cons_succ, List.set_cons_zero])
  | (with_reducible refine x_ret ?_) | (with_reducible refine x_if ?_) | (with_reducible refine x_drop ?_) | (with_reducible refine x_next ?_)
  | ((with_reducible refine' x_var ?h ?_); (case h => rfl)) | (with_reducible refine x_c ?_) | (with_reducible refine x_op ?_) | (with_reducible refine x_un ?_)
  | (with_reducible refine x_I0 ?_) | ((with_reducible refine x_I ?h ?_); (case h => first | exact Or.inl (by omega) | exact Or.inr (by omega) | omega | (constructor <;> omega))) | (with_reducible refine x_U ?_)
  | ((with_reducible refine' x_eq ?h ?_); (case h => rfl)) | ((with_reducible refine' x_ne ?h ?_); (case h => rfl))
  | (with_reducible refine x_cb ?_) | (with_reducible refine x_call ?_) | (with_reducible refine x_nil ?_) | (with_reducible refine x_cons ?_)
  | (with_reducible refine x_test ?_) | (with_reducible refine x_tB ?_) | (with_reducible refine x_bl ?_) | (with_reducible refine x_or ?_) | (with_reducible refine x_and ?_) | (with_reducible refine x_not ?_)
  | (with_reducible refine x_ifE ?_) | (with_reducible refine x_lst ?_) | (with_reducible refine x_tup ?_)
  | (with_reducible refine x_bm ?_) | (with_reducible refine x_bmG ?_) | (with_reducible refine x_chain ?_) | (with_reducible refine x_orV ?_) | (with_reducible refine x_andV ?_) | (with_reducible refine x_notV ?_) | (with_reducible refine x_sub ?_) | (with_reducible refine x_star ?_) | (with_reducible refine x_sl ?_) | (with_reducible refine x_po ?_) | (with_reducible refine x_pn ?_))
local macro_rules | `(tactic| walk_at "y1") => `(tactic| first
  | (with_reducible refine x_seq ?_) | (with_reducible refine x_asg ?_) | ((with_reducible refine x_name ?_); dsimp only [List.set_cons_succ, List.set_cons_zero])
  | (with_reducible refine x_drop ?_) | (with_reducible refine x_next ?_)
  | ((with_reducible refine' x_var ?h ?_); (case h => rfl)) | (with_reducible refine x_c ?_) | (with_reducible refine x_op ?_) | (with_reducible refine x_un ?_)
  | (with_reducible refine x_I0 ?_) | ((with_reducible refine x_I ?h ?_); (case h => first | exact Or.inl (by omega) | exact Or.inr (by omega) | omega | (constructor <;> omega))) | (with_reducible refine x_U ?_)
  | ((with_reducible refine' x_eq ?h ?_); (case h => rfl)) | ((with_reducible refine' x_ne ?h ?_); (case h => rfl))
  | (with_reducible refine x_cb ?_) | (with_reducible refine x_call ?_) | (with_reducible refine x_nil ?_) | (with_reducible refine x_cons ?_)
  | (with_reducible refine x_test ?_) | (with_reducible refine x_tB ?_) | (with_reducible refine x_bl ?_) | (with_reducible refine x_or ?_) | (with_reducible refine x_and ?_) | (with_reducible refine x_not ?_)
  | (with_reducible refine x_ifE ?_) | (with_reducible refine x_lst ?_) | (with_reducible refine x_tup ?_)
  | (with_reducible refine x_bm ?_) | (with_reducible refine x_bmG ?_) | (with_reducible refine x_chain ?_) | (with_reducible refine x_orV ?_) | (with_reducible refine x_andV ?_) | (with_reducible refine x_notV ?_) | (with_reducible refine x_sub ?_) | (with_reducible refine x_star ?_) | (with_reducible refine x_sl ?_) | (with_reducible refine x_po ?_) | (with_reducible refine x_pn ?_))
local macro_rules | `(tactic| walk_at "xi") => `(tactic| first | (with_reducible refine iteT ?_) | (with_reducible refine iteF ?_) | (with_reducible refine x_notT ?_) | (with_reducible refine x_notF ?_))
local macro_rules | `(tactic| walk_at "x") => `(tactic| ((try dsimp only); repeat ((first | walk_at "x1" | walk_at "xi"); (try dsimp only))))
local macro_rules | `(tactic| walk_at "y") => `(tactic| ((try dsimp only); repeat ((first | walk_at "y1" | walk_at "xi"); (try dsimp only))))

def rBelow {K : PySem.W.Frag} (m : Nat) : Rp K Unit := ⟨fun _ _ v _ => ∃ k : Nat, k < m ∧ v = vn k, fun _ h => h, fun _ h => h⟩
theorem pair_below {K : PySem.W.Frag} {M : Av} {H : Hp} {m : Nat} : ∀ {us : List V} {xs : List Unit}, Paired ((rBelow (K := K) m).rel M H) us xs → ∃ ks : List Nat, us = ks.map vn ∧ (∀ k ∈ ks, k < m) ∧ ks.length = xs.length
  | _, _, .nil => ⟨[], rfl, fun _ h => (by cases h), rfl⟩
  | _, _, .cons ⟨k, hk, e⟩ t => by
    obtain ⟨ks, e2, h2, h3⟩ := pair_below t
    refine ⟨k :: ks, by rw [e, e2]; rfl, fun x hx => ?_, by rw [List.length_cons, List.length_cons, h3]⟩
    rcases List.mem_cons.mp hx with z | z
    · rw [z]
      exact hk
    · exact h2 x z
theorem x_dnotin {σ : L2.St} {H : Hp} {Q : VK} {ty td : TE} (q : ty σ H fun y H1 => td σ H1 fun x H2 => ∃ a o, x = .ref a ∧ DGet H2 a y o ∧ Q (.bl (!o.isSome)) H2) : tDNotIn ty td σ H Q := q
theorem at_facts {n : Nat} (hn : n ≤ 4) {k : Nat} (hk : k < (metN n).length) : ∃ im, imageAt n k = some im ∧ imageNumber im = some k ∧ look (metN n) im = some (tornOf im).length ∧ repairable im = true ∧ im.length = n ∧ Img im ∧ k < gt (totalsN n) n := by
  have f := List.all_eq_true.mp (List.all_eq_true.mp mf_at n (List.mem_range.mpr (by omega))) k (List.mem_range.mpr hk)
  have g := of_decide_eq_true (List.all_eq_true.mp mf_tot4 n (List.mem_range.mpr (by omega)))
  revert f
  cases imageAt n k with
  | none => exact fun f => by cases f
  | some im =>
    intro f
    dsimp only at f
    rw [Bool.and_eq_true, Bool.and_eq_true, Bool.and_eq_true, Bool.and_eq_true, decide_eq_true_iff, decide_eq_true_iff, decide_eq_true_iff, decide_eq_true_iff, List.all_eq_true] at f
    obtain ⟨f1, f2, f3, f4, f5⟩ := f
    exact ⟨im, rfl, f1, f2, f3, f4, fun x hx => by rw [f4]; exact of_decide_eq_true (f5 x hx), by rw [← g]; exact hk⟩
theorem met_len {n : Nat} (hn : n ≤ 4) : (metN n).length ≤ 136 := of_decide_eq_true (List.all_eq_true.mp mf_len n (List.mem_range.mpr (by omega)))
theorem met_pos {n : Nat} (hn : n ≤ 4) : 1 ≤ (metN n).length := of_decide_eq_true (List.all_eq_true.mp (by decide : ((List.range 5).all fun n => decide (1 ≤ (metN n).length)) = true) n (List.mem_range.mpr (by omega)))
theorem seen_len (n : Nat) : ∀ (ks : List Nat) (s : List (List Nat × Nat)), (ks.foldl (seenAt n) s).length ≤ s.length + ks.length
  | [], _ => Nat.le_refl _
  | k :: ks, s => by
    have h := seen_len n ks (seenAt n s k)
    have h2 := put_len s ((imageAt n k).getD []) k
    rw [List.foldl_cons, List.length_cons]
    have e : (seenAt n s k).length ≤ s.length + 1 := h2
    omega
section
variable {P : Program} {w : World} {K : PySem.W.Frag} {mg : Str → Option Value} {base : Heap}
/-! _law_numbered: slots _law_bag_here 0, _law_size 1, _law_met_here 2, _law_numbers 3, _law_k 4, _law_seen 5, _law_number 6, _law_image 7, _law_told 8; calls ['_law_take', 'image_at', '_law_same', 'image_number', 'torn_pieces']; built-ins ['len', 'list', 'range', 'tuple', 'isinstance'] -/
abbrev s_law_numbered : Stmt := top 52
abbrev N_law_numbered : List Str := ["_law_bag_here", "_law_size", "_law_met_here", "_law_numbers", "_law_k", "_law_seen", "_law_number", "_law_image", "_law_told"]
theorem sc_law_numbered : FnScope N_law_numbered ["_law_bag_here", "_law_size", "_law_met_here"] (defScope s_law_numbered) := ⟨rfl, rfl, rfl, by decide +kernel, rfl, by decide +kernel, by decide +kernel⟩

def spNumbered (K : PySem.W.Frag) : Sp := fun vs H Q _ => ∃ (b p : Addr) (n : Nat), vs = [.ref b, vn n, .ref p] ∧ n ≤ 4 ∧ BagAt K H b ∧ H p = some (.dT (metD (metN n))) ∧ ∀ H', Ex H H' → Q (.bl true) H'
set_option linter.unusedVariables false in
theorem ok_law_numbered {f : Addr} {fd : FuncData} (F : Fun K "_law_numbered" "_law_numbered" s_law_numbered f fd) (T : Txt mg) (D_law_take : Df P w K mg base "_law_take" 1 ["_law_bag_here", "_law_many"] (spTake K)) (D_image_at : Df P w K mg base "image_at" 5 ["size", "number"] (spAt K))
    (D_law_same : Df P w K mg base "_law_same" 1 ["_law_told", "_law_due"] (spSame K)) (D_image_number : Df P w K mg base "image_number" 4 ["image"] (spNumber K)) (D_torn_pieces : Df P w K mg base "torn_pieces" 4 ["image"] (spTorn K)) : FnOk P w K mg base CX0 6 f fd ["_law_bag_here", "_law_size", "_law_met_here"] (spNumbered K) := by
  refine F.ok sc_law_numbered (fun vs H Q E h => ?_) (fun cdv A outer s H vs Q E hr h => ?_)
  · obtain ⟨_, _, _, rfl, _⟩ := h
    rfl
  · obtain ⟨b, p, n, rfl, hn, hb, hp, q⟩ := h
    have ml := met_len hn
    have mp := met_pos hn
    refine ⟨_, (pss_cons (ps_set (i := 3) sc_law_numbered.nd rfl (by first | exact Or.inl rfl | exact Or.inr rfl) (pe_listRg rfl (by rfl) T.b_list (prg_1 (by rfl) T.b_range (pe_callB call_len_dT (by rfl) T.b_len (by decide +kernel) (pa_cons (pv 2) pa_nil)))))
  (pss_cons (ps_if (pt_cmpR op_gt (pv 1) pe_int (nomark _)) (pss_one (ps_setLc (i := 3) (own := [("_law_k", 4)]) (g := gName 4) rfl sc_law_numbered.nd rfl rfl (sw_true rfl rfl rfl (by decide +kernel)) (pi_range1 (by rfl) T.b_range (pa_cons pe_int pa_nil)) (blkOk_by (N := N_law_numbered) (sc := defScope s_law_numbered) (by decide +kernel)) (fun _ _ _ _ _ => pg_name (i := 4) sc_law_numbered.nd rfl (Or.inl rfl)) (fun _ _ _ _ _ => pts_nil) (fun _ _ _ _ _ => (pe_callD D_law_take (hr.mono (by decide)) (by rfl) (pa_cons (pv 0) (pa_cons (pe_callB call_len_dT (by rfl) T.b_len (by decide +kernel) (pa_cons (pv 2) pa_nil)) pa_nil)))))) pss_nil)
  (pss_cons (ps_set (i := 5) sc_law_numbered.nd rfl (by first | exact Or.inl rfl | exact Or.inr rfl) pe_dnewT)
  (pss_cons (ps_for PassesOwn.never rfl (pi_list (pv 3)) (pg_name (i := 6) sc_law_numbered.nd rfl (by first | exact Or.inl rfl | exact Or.inr rfl)) (pss_cons (ps_set (i := 7) sc_law_numbered.nd rfl (by first | exact Or.inl rfl | exact Or.inr rfl) (pe_callD D_image_at (hr.mono (by decide)) (by rfl) (pa_cons (pv 1) (pa_cons (pv 6) pa_nil))))
  (pss_cons (ps_if (PW.pt (pw_or (pt_not (pt_val (pe_callD D_law_same (hr.mono (by decide)) (by rfl) (pa_cons (pv 7) (pa_cons (pe_callTy call_list_of (by rfl) T.b_list (by decide +kernel) (pa_cons (pv 7) pa_nil)) pa_nil))))) (pw_or1 (pt_cmp (pc_dnotin (hu_of hr) (pe_callTy call_tuple_of (by rfl) T.b_tuple (by decide +kernel) (pa_cons (pv 7) pa_nil)) (pv 2)))))) (pss_one (ps_ret pe_bl)) pss_nil)
  (pss_cons (ps_if (pt_not (pt_val (pe_callD D_law_same (hr.mono (by decide)) (by rfl) (pa_cons (pe_lst (pa_cons (pe_callD D_image_number (hr.mono (by decide)) (by rfl) (pa_cons (pe_callTy call_list_of (by rfl) T.b_list (by decide +kernel) (pa_cons (pv 7) pa_nil)) pa_nil)) pa_nil)) (pa_cons (pe_lst (pa_cons (pv 6) pa_nil)) pa_nil))))) (pss_one (ps_ret pe_bl)) pss_nil)
  (pss_cons (ps_set (i := 8) sc_law_numbered.nd rfl (by first | exact Or.inl rfl | exact Or.inr rfl) (pe_callD D_torn_pieces (hr.mono (by decide)) (by rfl) (pa_cons (pe_callTy call_list_of (by rfl) T.b_list (by decide +kernel) (pa_cons (pv 7) pa_nil)) pa_nil)))
  (pss_cons (ps_if (PW.pt (pw_or (pt_not (pt_val (pe_callB call_isi (by rfl) T.b_isinstance (by decide +kernel) (pa_cons (pv 8) (pa_cons (pe_tyN (n := "list") (by rfl) T.b_list (by decide +kernel)) pa_nil))))) (pw_or1 (pt_cmpR op_ne (pe_callB call_len_seq (by rfl) T.b_len (by decide +kernel) (pa_cons (pv 8) pa_nil)) (pe_dget (hu_of hr) (pv 2) (pe_callTy call_tuple_of (by rfl) T.b_tuple (by decide +kernel) (pa_cons (pv 7) pa_nil)) (fun _ _ => rfl)) (nomark _))))) (pss_one (ps_ret pe_bl)) pss_nil)
  (pss_one (ps_dput (hu_of hr) (pv 5) (pe_callTy call_tuple_of (by rfl) T.b_tuple (by decide +kernel) (pa_cons (pv 7) pa_nil)) (pv 6) rfl))))))))
  (pss_one (ps_ret (pe_or (pe_cmpR op_gt (pv 1) pe_int (nomark _)) (pe_one (pe_cmpR op_eq (pe_callB call_len_dT (by rfl) T.b_len (by decide +kernel) (pa_cons (pv 5) pa_nil)) (pe_callB call_len_dT (by rfl) T.b_len (by decide +kernel) (pa_cons (pv 2) pa_nil)) (nomark _)))))))))), ?_⟩
    refine x_start (σ := [some _, some _, some _, none, none, none, none, none, none]) rfl ?_
    walk_at "x"
    refine x_lstRg1 ?_
    walk_at "x"
    refine ⟨p, _, rfl, hp, ?_⟩
    rw [metD_len]
    refine ⟨_, rfl, RgOk.of_le (by omega) (by omega) (by omega) (by omega), fun ll nl => ?_⟩
    rw [rgV_nat]
    have x1 := Ex.new (o := .lst ((List.range (metN n).length).map vn)) nl
    have hl1 : upd H ll (.lst ((List.range (metN n).length).map vn)) ll = some (.lst ((List.range (metN n).length).map vn)) := upd_same
    generalize upd H ll (.lst ((List.range (metN n).length).map vn)) = H1 at x1 hl1 ⊢
    refine x_name ?_
    dsimp only [List.set_cons_succ, List.set_cons_zero]
    refine x_seqI (fun σ' H' => ∃ (ln : Addr) (ks : List Nat) (y4 y5 y6 y7 y8 : Option V), Ex H H' ∧ H' ln = some (.lst (ks.map vn)) ∧ (∀ k ∈ ks, k < (metN n).length) ∧ (¬ 3 < n → ks = List.range (metN n).length) ∧ ks.length ≤ 1000 ∧ σ' = [some (.ref b), some (vn n), some (.ref p), some (.ref ln), y4, y5, y6, y7, y8]) (fun N hN => ?_) ?_
    · refine x_if ?_
      walk_at "x"
      refine x_dec (fun h3 => ?_) fun h3 => ?_
      · walk_at "x"
        refine x_lcR1 ?_
        walk_at "x"
        refine ⟨_, rfl, by decide, by decide, ?_⟩
        refine compR_ret (n := 6) (by decide) (rBelow (K := K) (metN n).length) (fun _ => ()) (fun _ => rfl) (fun i H2 hi e2 Qe qe => ?_) (fun lk us H2 n2 e2 h2 hp2 => ?_)
        · walk_at "x"
          refine ⟨p, _, rfl, (Ex.trans x1 e2) _ _ hp, ?_⟩
          rw [metD_len]
          walk_at "x"
          refine ⟨b, (metN n).length, rfl, by omega, by omega, bag_ex (Ex.trans x1 e2) hb, fun k hk => ?_⟩
          exact qe _ _ (Ex.refl _) ⟨k, hk, rfl⟩
        · obtain ⟨ks, rfl, hk, hl⟩ := pair_below hp2
          walk_at "x"
          exact hN _ _ ⟨lk, ks, _, _, _, _, _, Ex.trans x1 e2, h2, hk, fun z => absurd (by omega) z, by rw [hl, List.length_map, List.length_range]; decide, rfl⟩
      · walk_at "x"
        exact hN _ _ ⟨ll, _, _, _, _, _, _, x1, hl1, fun k hk => List.mem_range.mp hk, fun _ => rfl, by rw [List.length_range]; omega, rfl⟩
    · rintro σ' H2 ⟨ln, ks, y4, y5, y6, y7, y8, e2, hln, hks, hk3, kl, rfl⟩
      walk_at "x"
      intro ds nds
      walk_at "x"
      have x3 := Ex.new (o := .dT []) nds
      refine x_forL ?_
      walk_at "x"
      refine ⟨ln, rfl, ⟨_, SqL.of (x3 _ _ hln)⟩, ?_⟩
      refine loopL_foldi (xs := ks) (List.length_map _) (seenAt n) (fun i seen σ' H' => Ex H2 H' ∧ H' ds = some (.dT (metD seen)) ∧ seen.length ≤ i ∧ ∃ y4 y6 y7 y8, σ' = [some (.ref b), some (vn n), some (.ref p), some (.ref ln), y4, some (.ref ds), y6, y7, y8])
        [] ⟨x3, upd_same, Nat.le_refl _, _, _, _, _, rfl⟩ (fun i s σ' H' h => SqL.of (h.1 _ _ hln)) ?_ ?_
      · rintro seen i k u σ' H4 hk hu ⟨e4, hds, sl, y4, y6, y7, y8, rfl⟩
        cases vn_of hk hu
        have il : i < ks.length := (List.getElem?_eq_some_iff.mp hk).1
        obtain ⟨im, a1, a2, a3, a4, a5, a6, a7⟩ := at_facts hn (hks k (List.mem_of_getElem? hk))
        have hp4 := (Ex.trans e2 e4) _ _ hp
        walk_at "x"
        refine ⟨n, k, im, rfl, by omega, a7, a1, fun la H5 e5 nla hla => ?_⟩
        walk_at "x"
        refine ⟨la, _, rfl, .inl (SqL.of hla), fun lb nlb => ?_⟩
        have x6 := Ex.new (o := .lst (im.map vn)) nlb
        walk_at "x"
        refine ⟨la, lb, im, im, rfl, x6 _ _ hla, SqL.of upd_same, fun H7 e7 => ?_⟩
        rw [decide_eq_true rfl]
        walk_at "x"
        have e57 := Ex.trans x6 e7
        have e47 := Ex.trans e5 e57
        have hla7 := e57 _ _ hla
        refine x_dnotin ?_
        walk_at "x"
        refine ⟨la, _, rfl, .inl ⟨SqL.of hla7, fun lt nlt => ?_⟩⟩
        have x8 := Ex.new (o := .tup (im.map vn)) nlt
        walk_at "x"
        refine ⟨p, valV (metD (metN n)) (kd im), rfl, DGet.t (x8 _ _ (e47 _ _ hp4)) (by rw [kd_kV]; exact upd_same), ?_⟩
        rw [metD_look, Option.isSome_map, a3, Option.isSome_some]
        walk_at "x"
        have e48 := Ex.trans e47 x8
        have hla8 := x8 _ _ hla7
        generalize upd H7 lt (.tup (im.map vn)) = H8 at e48 hla8 ⊢
        refine ⟨la, _, rfl, .inl (SqL.of hla8), fun lc nlc => ?_⟩
        have x9 := Ex.new (o := .lst (im.map vn)) nlc
        walk_at "x"
        refine ⟨lc, im, k, rfl, SqL.of upd_same, a6, by omega, a2, fun H10 e10 => ?_⟩
        walk_at "x"
        refine ⟨by show 1 ≤ sizeLine; decide, fun ld nld => ?_⟩
        have x11 := Ex.new (o := .lst [vn k]) nld
        have hd11 : upd H10 ld (.lst [vn k]) ld = some (.lst ([k].map vn)) := upd_same
        have e11 := Ex.trans x9 (Ex.trans e10 x11)
        generalize upd H10 ld (.lst [vn k]) = H11 at e11 hd11 ⊢
        walk_at "x"
        refine ⟨by show 1 ≤ sizeLine; decide, fun le nle => ?_⟩
        have x12 := Ex.new (o := .lst [vn k]) nle
        walk_at "x"
        refine ⟨ld, le, [k], [k], rfl, x12 _ _ hd11, SqL.of upd_same, fun H13 e13 => ?_⟩
        rw [decide_eq_true rfl]
        walk_at "x"
        have e813 := Ex.trans e11 (Ex.trans x12 e13)
        have e413 := Ex.trans e48 e813
        have hla13 := e813 _ _ hla8
        refine ⟨la, _, rfl, .inl (SqL.of hla13), fun lf nlf => ?_⟩
        have x14 := Ex.new (o := .lst (im.map vn)) nlf
        walk_at "x"
        refine ⟨lf, im, rfl, SqL.of upd_same, a6, by omega, a4, fun lg H15 us e15 nlg hlg hus => ?_⟩
        have e1315 := Ex.trans x14 e15
        have e415 := Ex.trans e413 e1315
        have hla15 := e1315 _ _ hla13
        walk_at "x"
        refine x_isi (.base (.lst hlg)) (r := true) (by decide) ?_
        walk_at "x"
        refine ⟨lg, _, rfl, .inl (SqL.of hlg), ?_⟩
        rw [hus]
        walk_at "x"
        refine x_dget ?_
        walk_at "x"
        refine ⟨la, _, rfl, .inl ⟨SqL.of hla15, fun lh nlh => ?_⟩⟩
        have x16 := Ex.new (o := .tup (im.map vn)) nlh
        refine ⟨p, _, rfl, .inr ⟨_, kd im, lh, .inl (x16 _ _ (e415 _ _ hp4)), rfl, by rw [kd_kV]; exact upd_same, by rw [metD_look, a3]; rfl⟩, ?_⟩
        walk_at "x"
        rw [decide_eq_true rfl]
        walk_at "x"
        have e416 := Ex.trans e415 x16
        have hla16 := x16 _ _ hla15
        generalize upd H15 lh (.tup (im.map vn)) = H16 at e416 hla16 ⊢
        refine x_dput ?_
        walk_at "x"
        refine ⟨la, _, rfl, .inl ⟨SqL.of hla16, fun li nli => ?_⟩⟩
        have x17 := Ex.new (o := .tup (im.map vn)) nli
        refine ⟨ds, _, rfl, DPut.t (k := kd im) (x17 _ _ (e416 _ _ hds)) (by rw [kd_kV]; exact upd_same) (by rw [metD_len, sizeLine_eq]; omega), ?_⟩
        rw [metD_put]
        have es : seenAt n seen k = put seen im k := by
          unfold seenAt
          rw [a1]
          rfl
        rw [es]
        exact ⟨Ex.mut (Ex.trans e4 (Ex.trans e416 x17)) nds, upd_same, Nat.le_trans (put_len _ _ _) (by omega), _, _, _, _, rfl⟩
      · rintro σ' H4 ⟨e4, hds, sl, y4, y6, y7, y8, rfl⟩
        walk_at "x"
        refine x_dec (fun h3 => ?_) fun h3 => ?_
        · exact q _ (Ex.trans e2 e4)
        · walk_at "x"
          refine ⟨ds, _, rfl, hds, ?_⟩
          walk_at "x"
          refine ⟨p, _, rfl, (Ex.trans e2 e4) _ _ hp, ?_⟩
          rw [metD_len, metD_len]
          walk_at "x"
          have e : (ks.foldl (seenAt n) []).length = (metN n).length := by
            rw [hk3 (by omega)]
            exact of_decide_eq_true (List.all_eq_true.mp mf_seen n (List.mem_range.mpr (by omega)))
          rw [e, decide_eq_true rfl]
          exact q _ (Ex.trans e2 e4)
end
end Pm
end
section
set_option Elab.async false
set_option maxRecDepth 100000
set_option maxHeartbeats 4000000
set_option linter.all false
namespace Pm
open PySem L2
local macro_rules | `(tactic| walk_at "ex") => `(tactic| first | exact Ex.refl _ | assumption | exact Ex.new (by assumption) | exact Ex.trans (by walk_at "ex") (by assumption) | exact Ex.trans (by walk_at "ex") (Ex.new (by assumption)) | exact Ex.mut (by walk_at "ex") (by first | assumption | exact Ex.none (by walk_at "ex") (by assumption)))
local macro_rules | `(tactic| walk_at "sq") => `(tactic| first | assumption | exact Ex.l (by walk_at "ex") (by assumption) | exact Ex.t (by walk_at "ex") (by assumption) | exact SqL.of (by walk_at "hp") | exact SqT.of (by walk_at "hp") | exact Ex.l (by walk_at "ex") (LstA.sq (by assumption)) | exact Ex.t (by walk_at "ex") (TupA.sq (by assumption)))
local macro_rules | `(tactic| walk_at "hp") => `(tactic| first | assumption | exact upd_same | (refine (by walk_at "ex" : Ex _ _) _ _ ?_; assumption) | (refine (by walk_at "ex" : Ex _ _) _ _ ?_; exact upd_same))
local macro_rules | `(tactic| walk_at "x1") => `(tactic| first
  | (with_reducible refine x_seq ?_) | (with_reducible refine x_asg ?_) | ((with_reducible refine x_name ?_); dsimp only [List.set_cons_succ, List.set_cons_zero])
  | (with_reducible refine x_ret ?_) | (with_reducible refine x_if ?_) | (with_reducible refine x_drop ?_) | (with_reducible refine x_next ?_)
  | ((with_reducible refine' x_var ?h ?_); (case h => rfl)) | (with_reducible refine x_c ?_) | (with_reducible refine x_op ?_) | (with_reducible refine x_un ?_)
  | (with_reducible refine x_I0 ?_) | ((with_reducible refine x_I ?h ?_); (case h => first | exact Or.inl (by omega) | exact Or.inr (by omega) | omega | (constructor <;> omega))) | (with_reducible refine x_U ?_)
  | ((with_reducible refine' x_eq ?h ?_); (case h => rfl)) | ((with_reducible refine' x_ne ?h ?_); (case h => rfl))
  | (with_reducible refine x_cb ?_) | (with_reducible refine x_call ?_) | (with_reducible refine x_nil ?_) | (with_reducible refine x_cons ?_)
  | (with_reducible refine x_test ?_) | (with_reducible refine x_tB ?_) | (with_reducible refine x_bl ?_) | (with_reducible refine x_or ?_) | (with_reducible refine x_and ?_) | (with_reducible refine x_not ?_)
  | (with_reducible refine x_ifE ?_) | (with_reducible refine x_lst ?_) | (with_reducible refine x_tup ?_)
  | (with_reducible refine x_bm ?_) | (with_reducible refine x_bmG ?_) | (with_reducible refine x_chain ?_) | (with_reducible refine x_orV ?_) | (with_reducible refine x_andV ?_) | (with_reducible refine x_notV ?_) | (with_reducible refine x_sub ?_) | (with_reducible refine x_star ?_) | (with_reducible refine x_sl ?_) | (with_reducible refine x_po ?_) | (with_reducible refine x_pn ?_))
local macro_rules | `(tactic| walk_at "y1") => `(tactic| first
  | (with_reducible refine x_seq ?_) | (with_reducible refine x_asg ?_) | ((with_reducible refine x_name ?_); dsimp only [List.set_cons_succ, List.set_cons_zero])
  | (with_reducible refine x_drop ?_) | (with_reducible refine x_next ?_)
  | ((with_reducible refine' x_var ?h ?_); (case h => rfl)) | (with_reducible refine x_c ?_) | (with_reducible refine x_op ?_) | (with_reducible refine x_un ?_)
  | (with_reducible refine x_I0 ?_) | ((with_reducible refine x_I ?h ?_); (case h => first | exact Or.inl (by omega) | exact Or.inr (by omega) | omega | (constructor <;> omega))) | (with_reducible refine x_U ?_)
  | ((with_reducible refine' x_eq ?h ?_); (case h => rfl)) | ((with_reducible refine' x_ne ?h ?_); (case h => rfl))
  | (with_reducible refine x_cb ?_) | (with_reducible refine x_call ?_) | (with_reducible refine x_nil ?_) | (with_reducible refine x_cons ?_)
  | (with_reducible refine x_test ?_) | (with_reducible refine x_tB ?_) | (with_reducible refine x_bl ?_) | (with_reducible refine x_or ?_) | (with_reducible refine x_and ?_) | (with_reducible refine x_not ?_)
  | (with_reducible refine x_ifE ?_) | (with_reducible refine x_lst ?_) | (with_reducible refine x_tup ?_)
  | (with_reducible refine x_bm ?_) | (with_reducible refine x_bmG ?_) | (with_reducible refine x_chain ?_) | (with_reducible refine x_orV ?_) | (with_reducible refine x_andV ?_) | (with_reducible refine x_notV ?_) | (with_reducible refine x_sub ?_) | (with_reducible refine x_star ?_) | (with_reducible refine x_sl ?_) | (with_reducible refine x_po ?_) | (with_reducible refine x_pn ?_))
local macro_rules | `(tactic| walk_at "xi") => `(tactic| first | (with_reducible refine iteT ?_) | (with_reducible refine iteF ?_) | (with_reducible refine x_notT ?_) | (with_reducible refine x_notF ?_))
local macro_rules | `(tactic| walk_at "x") => `(tactic| ((try dsimp only); repeat ((first | walk_at "x1" | walk_at "xi"); (try dsimp only))))
local macro_rules | `(tactic| walk_at "y") => `(tactic| ((try dsimp only); repeat ((first | walk_at "y1" | walk_at "xi"); (try dsimp only))))

/-- what the plain law has to tell of a built image -/
def LargeOk : Prop := ∀ (n : Nat) (st busy im : List Nat) (h : Nat), 5 ≤ n → n ≤ 9 → StOk n st → Built n st busy im h →
  im.length = n ∧ Img im ∧ repairable im = true ∧ (tornOf im).length = h ∧ ∃ N, imageNumber im = some N ∧ N < lawTotal n ∧ imageAt n N = some im
theorem total_eq {n : Nat} (hn : n ≤ 9) : lawTotal n = gt (totalsN n) n := of_decide_eq_true (List.all_eq_true.mp mf_total n (List.mem_range.mpr (by omega)))
section
variable {P : Program} {w : World} {K : PySem.W.Frag} {mg : Str → Option Value} {base : Heap}
/-! _law_larger: slots _law_bag_here 0, _law_size 1, _law_built_here 2, _law_image 3, _law_told 4, _law_number 5; calls ['_law_take', '_law_built', '_law_truth', 'is_repairable', 'torn_pieces', 'image_number', '_law_same', '_law_total', 'count_images', 'image_at']; built-ins ['list', 'isinstance', 'len'] -/
abbrev s_law_larger : Stmt := top 53
abbrev N_law_larger : List Str := ["_law_bag_here", "_law_size", "_law_built_here", "_law_image", "_law_told", "_law_number"]
theorem sc_law_larger : FnScope N_law_larger ["_law_bag_here"] (defScope s_law_larger) := ⟨rfl, rfl, rfl, by decide +kernel, rfl, by decide +kernel, by decide +kernel⟩

def spLarger (K : PySem.W.Frag) : Sp := fun vs H Q _ => ∃ (b : Addr), vs = [.ref b] ∧ BagAt K H b ∧ ∀ H', Ex H H' → Q (.bl true) H'
set_option linter.unusedVariables false in
theorem ok_law_larger (LO : LargeOk) {f : Addr} {fd : FuncData} (F : Fun K "_law_larger" "_law_larger" s_law_larger f fd) (T : Txt mg) (D_law_take : Df P w K mg base "_law_take" 1 ["_law_bag_here", "_law_many"] (spTake K)) (D_law_built : Df P w K mg base "_law_built" 4 ["_law_bag_here", "_law_size", "_law_most"] (spBuilt K))
    (D_is_repairable : Df P w K mg base "is_repairable" 4 ["image"] (spRep K)) (D_law_truth : Df P w K mg base "_law_truth" 1 ["_law_told", "_law_due"] (spTruth K)) (D_torn_pieces : Df P w K mg base "torn_pieces" 4 ["image"] (spTorn K)) (D_image_number : Df P w K mg base "image_number" 4 ["image"] (spNumber K))
    (D_law_same : Df P w K mg base "_law_same" 1 ["_law_told", "_law_due"] (spSame K)) (D_law_total : Df P w K mg base "_law_total" 1 ["_law_size"] (spTotal K)) (D_count_images_kw : DfK P w K mg base "count_images" 4 ["size", "torn"] "torn" .non (spCount K)) (D_image_at : Df P w K mg base "image_at" 5 ["size", "number"] (spAt K)) :
    FnOk P w K mg base CX0 6 f fd ["_law_bag_here"] (spLarger K) := by
  refine F.ok sc_law_larger (fun vs H Q E h => ?_) (fun cdv A outer s H vs Q E hr h => ?_)
  · obtain ⟨_, rfl, _⟩ := h
    rfl
  · obtain ⟨b, rfl, hb, q⟩ := h
    refine ⟨_, (pss_cons (ps_set (i := 1) sc_law_larger.nd rfl (by first | exact Or.inl rfl | exact Or.inr rfl) (pe_op op_add pe_int (pe_callD D_law_take (hr.mono (by decide)) (by rfl) (pa_cons (pv 0) (pa_cons pe_int pa_nil)))))
  (pss_cons (ps_set (i := 2) sc_law_larger.nd rfl (by first | exact Or.inl rfl | exact Or.inr rfl) (pe_callD D_law_built (hr.mono (by decide)) (by rfl) (pa_cons (pv 0) (pa_cons (pv 1) (pa_cons pe_int pa_nil)))))
  (pss_cons (ps_set (i := 3) sc_law_larger.nd rfl (by first | exact Or.inl rfl | exact Or.inr rfl) (pe_ix ix_list (pv 2) pe_int (fun _ _ => rfl)))
  (pss_cons (ps_if (pt_not (pt_val (pe_callD D_law_truth (hr.mono (by decide)) (by rfl) (pa_cons (pe_callD D_is_repairable (hr.mono (by decide)) (by rfl) (pa_cons (pe_callTy call_list_of (by rfl) T.b_list (by decide +kernel) (pa_cons (pv 3) pa_nil)) pa_nil)) (pa_cons pe_bl pa_nil))))) (pss_one (ps_ret pe_bl)) pss_nil)
  (pss_cons (ps_set (i := 4) sc_law_larger.nd rfl (by first | exact Or.inl rfl | exact Or.inr rfl) (pe_callD D_torn_pieces (hr.mono (by decide)) (by rfl) (pa_cons (pe_callTy call_list_of (by rfl) T.b_list (by decide +kernel) (pa_cons (pv 3) pa_nil)) pa_nil)))
  (pss_cons (ps_if (PW.pt (pw_or (pt_not (pt_val (pe_callB call_isi (by rfl) T.b_isinstance (by decide +kernel) (pa_cons (pv 4) (pa_cons (pe_tyN (n := "list") (by rfl) T.b_list (by decide +kernel)) pa_nil))))) (pw_or1 (pt_cmpR op_ne (pe_callB call_len_seq (by rfl) T.b_len (by decide +kernel) (pa_cons (pv 4) pa_nil)) (pe_callB call_len_seq (by rfl) T.b_len (by decide +kernel) (pa_cons (pe_ix ix_list (pv 2) pe_int (fun _ _ => rfl)) pa_nil)) (nomark _))))) (pss_one (ps_ret pe_bl)) pss_nil)
  (pss_cons (ps_set (i := 5) sc_law_larger.nd rfl (by first | exact Or.inl rfl | exact Or.inr rfl) (pe_callD D_image_number (hr.mono (by decide)) (by rfl) (pa_cons (pe_callTy call_list_of (by rfl) T.b_list (by decide +kernel) (pa_cons (pv 3) pa_nil)) pa_nil)))
  (pss_cons (ps_if (PW.pt (pw_or (pt_not (pt_val (pe_callD D_law_same (hr.mono (by decide)) (by rfl) (pa_cons (pe_lst (pa_cons (pv 5) pa_nil)) (pa_cons (pe_lst (pa_cons (pv 5) pa_nil)) pa_nil))))) (pw_or (pt_cmpR op_lt (pv 5) pe_int (nomark _)) (pw_or1 (pt_cmpR op_ge (pv 5) (pe_callD D_law_total (hr.mono (by decide)) (by rfl) (pa_cons (pv 1) pa_nil)) (nomark _)))))) (pss_one (ps_ret pe_bl)) pss_nil)
  (pss_one (ps_ret (pe_and (pe_callD D_law_same (hr.mono (by decide)) (by rfl) (pa_cons (pe_lst (pa_cons (pe_callD0 D_count_images_kw (hr.mono (by decide)) (by rfl) (pa_cons (pv 1) pa_nil)) pa_nil)) (pa_cons (pe_lst (pa_cons (pe_callD D_law_total (hr.mono (by decide)) (by rfl) (pa_cons (pv 1) pa_nil)) pa_nil)) pa_nil))) (pe_one (pe_callD D_law_same (hr.mono (by decide)) (by rfl) (pa_cons (pe_callD D_image_at (hr.mono (by decide)) (by rfl) (pa_cons (pv 1) (pa_cons (pv 5) pa_nil))) (pa_cons (pv 3) pa_nil))))))))))))))), ?_⟩
    refine x_start (σ := [some _, none, none, none, none, none]) rfl ?_
    walk_at "x"
    refine ⟨b, 5, rfl, by decide, by decide, hb, fun k hk => ?_⟩
    walk_at "x"
    rw [show (5 : Int) + (k : Int) = ((5 + k : Nat) : Int) by omega]
    have h5 : 5 ≤ 5 + k := by omega
    have h9 : 5 + k ≤ 9 := by omega
    generalize 5 + k = n at h5 h9 ⊢
    refine ⟨b, n, rfl, h9, hb, fun l la lh us st busy im H1 so bu e1 na hl hla hlh usz => ?_⟩
    obtain ⟨i1, i2, i3, i4, N, i5, i6, i7⟩ := LO n st busy im _ h5 h9 so bu
    walk_at "x"
    refine x_ixL (SqL.of hl) (at_n (n := 0) rfl rfl) ?_
    walk_at "x"
    refine ⟨la, _, rfl, .inl (SqL.of hla), fun lb nlb => ?_⟩
    have x2 := Ex.new (o := .lst (im.map vn)) nlb
    walk_at "x"
    refine ⟨lb, im, rfl, SqL.of upd_same, i2, by omega, fun H3 e3 => ?_⟩
    rw [i3]
    walk_at "x"
    refine ⟨_, _, rfl, ?_⟩
    rw [decide_eq_true rfl]
    walk_at "x"
    have e13 := Ex.trans x2 e3
    refine ⟨la, _, rfl, .inl (SqL.of (e13 _ _ hla)), fun lc nlc => ?_⟩
    have x4 := Ex.new (o := .lst (im.map vn)) nlc
    walk_at "x"
    refine ⟨lc, im, rfl, SqL.of upd_same, i2, by omega, i3, fun lg H5 ts e5 nlg hlg hts => ?_⟩
    have e15 := Ex.trans e13 (Ex.trans x4 e5)
    walk_at "x"
    refine x_isi (.base (.lst hlg)) (r := true) (by decide) ?_
    walk_at "x"
    refine ⟨lg, _, rfl, .inl (SqL.of hlg), ?_⟩
    rw [hts, i4]
    walk_at "x"
    refine x_ixL (SqL.of (e15 _ _ hl)) (at_n (n := 1) rfl rfl) ?_
    walk_at "x"
    refine ⟨lh, _, rfl, .inl (SqL.of (e15 _ _ hlh)), ?_⟩
    walk_at "x"
    rw [decide_eq_true rfl]
    walk_at "x"
    refine ⟨la, _, rfl, .inl (SqL.of (e15 _ _ hla)), fun ld nld => ?_⟩
    have x6 := Ex.new (o := .lst (im.map vn)) nld
    walk_at "x"
    refine ⟨ld, im, N, rfl, SqL.of upd_same, i2, by omega, i5, fun H7 e7 => ?_⟩
    have e17 := Ex.trans e15 (Ex.trans x6 e7)
    walk_at "x"
    refine ⟨by show 1 ≤ sizeLine; decide, fun p1 np1 => ?_⟩
    have x8 := Ex.new (o := .lst [vn N]) np1
    have h8 : upd H7 p1 (.lst [vn N]) p1 = some (.lst ([N].map vn)) := upd_same
    have e18 := Ex.trans e17 x8
    generalize upd H7 p1 (.lst [vn N]) = H8 at e18 h8 ⊢
    walk_at "x"
    refine ⟨by show 1 ≤ sizeLine; decide, fun p2 np2 => ?_⟩
    have x9 := Ex.new (o := .lst [vn N]) np2
    walk_at "x"
    refine ⟨p1, p2, [N], [N], rfl, x9 _ _ h8, SqL.of upd_same, fun H10 e10 => ?_⟩
    rw [decide_eq_true rfl]
    have e1a := Ex.trans e18 (Ex.trans x9 e10)
    walk_at "x"
    refine x_dec (fun z => absurd z (by omega)) fun _ => ?_
    walk_at "x"
    refine ⟨n, rfl, h9, fun H11 e11 => ?_⟩
    walk_at "x"
    refine x_dec (fun z => absurd z (by omega)) fun _ => ?_
    walk_at "x"
    refine x_callV ?_
    walk_at "x"
    refine ⟨n, none, rfl, .inr ⟨rfl, h9⟩, fun _ z => (by cases z), fun H12 e12 => ?_⟩
    walk_at "x"
    have e1c := Ex.trans e1a (Ex.trans e11 e12)
    rw [show countImages n none = lawTotal n from (total_eq h9).symm]
    refine ⟨by show 1 ≤ sizeLine; decide, fun p3 np3 => ?_⟩
    have x13 := Ex.new (o := .lst [vn (lawTotal n)]) np3
    have h13 : upd H12 p3 (.lst [vn (lawTotal n)]) p3 = some (.lst ([lawTotal n].map vn)) := upd_same
    have e113 := Ex.trans e1c x13
    generalize upd H12 p3 (.lst [vn (lawTotal n)]) = H13 at e113 h13 ⊢
    walk_at "x"
    refine ⟨n, rfl, h9, fun H14 e14 => ?_⟩
    walk_at "x"
    refine ⟨by show 1 ≤ sizeLine; decide, fun p4 np4 => ?_⟩
    have x15 := Ex.new (o := .lst [vn (lawTotal n)]) np4
    walk_at "x"
    refine ⟨p3, p4, [lawTotal n], [lawTotal n], rfl, (Ex.trans e14 x15) _ _ h13, SqL.of upd_same, fun H16 e16 => ?_⟩
    rw [decide_eq_true rfl]
    have e116 := Ex.trans e113 (Ex.trans e14 (Ex.trans x15 e16))
    walk_at "x"
    refine ⟨n, N, im, rfl, h9, by rw [← total_eq h9]; exact i6, i7, fun p5 H17 e17 np5 h17 => ?_⟩
    walk_at "x"
    have e1f := Ex.trans e116 e17
    refine ⟨p5, la, im, im, rfl, h17, SqL.of (e1f _ _ hla), fun H18 e18 => ?_⟩
    rw [decide_eq_true rfl]
    exact q _ (Ex.trans e1 (Ex.trans e1f e18))
end
end Pm
end
section
set_option Elab.async false
set_option maxRecDepth 100000
set_option maxHeartbeats 4000000
set_option linter.all false
namespace Pm
open PySem L2
local macro_rules | `(tactic| walk_at "ex") => `(tactic| first | exact Ex.refl _ | assumption | exact Ex.new (by assumption) | exact Ex.trans (by walk_at "ex") (by assumption) | exact Ex.trans (by walk_at "ex") (Ex.new (by assumption)) | exact Ex.mut (by walk_at "ex") (by first | assumption | exact Ex.none (by walk_at "ex") (by assumption)))
local macro_rules | `(tactic| walk_at "sq") => `(tactic| first | assumption | exact Ex.l (by walk_at "ex") (by assumption) | exact Ex.t (by walk_at "ex") (by assumption) | exact SqL.of (by walk_at "hp") | exact SqT.of (by walk_at "hp") | exact Ex.l (by walk_at "ex") (LstA.sq (by assumption)) | exact Ex.t (by walk_at "ex") (TupA.sq (by assumption)))
local macro_rules | `(tactic| walk_at "hp") => `(tactic| first | assumption | exact upd_same | (refine (by walk_at "ex" : Ex _ _) _ _ ?_; assumption) | (refine (by walk_at "ex" : Ex _ _) _ _ ?_; exact upd_same))
local macro_rules | `(tactic| walk_at "x1") => `(tactic| first
  | (with_reducible refine x_seq ?_) | (with_reducible refine x_asg ?_) | ((with_reducible refine x_name ?_); dsimp only [List.set_cons_succ, List.set_cons_zero])
  | (with_reducible refine x_ret ?_) | (with_reducible refine x_if ?_) | (with_reducible refine x_drop ?_) | (with_reducible refine x_next ?_)
  | ((with_reducible refine' x_var ?h ?_); (case h => rfl)) | (with_reducible refine x_c ?_) | (with_reducible refine x_op ?_) | (with_reducible refine x_un ?_)
  | (with_reducible refine x_I0 ?_) | ((with_reducible refine x_I ?h ?_); (case h => first | exact Or.inl (by omega) | exact Or.inr (by omega) | omega | (constructor <;> omega))) | (with_reducible refine x_U ?_)
  | ((with_reducible refine' x_eq ?h ?_); (case h => rfl)) | ((with_reducible refine' x_ne ?h ?_); (case h => rfl))
  | (with_reducible refine x_cb ?_) | (with_reducible refine x_call ?_) | (with_reducible refine x_nil ?_) | (with_reducible refine x_cons ?_)
  | (with_reducible refine x_test ?_) | (with_reducible refine x_tB ?_) | (with_reducible refine x_bl ?_) | (with_reducible refine x_or ?_) | (with_reducible refine x_and ?_) | (with_reducible refine x_not ?_)
  | (with_reducible refine x_ifE ?_) | (with_reducible refine x_lst ?_) | (with_reducible refine x_tup ?_)
  | (with_reducible refine x_bm ?_) | (with_reducible refine x_bmG ?_) | (with_reducible refine x_chain ?_) | (with_reducible refine x_orV ?_) | (with_reducible refine x_andV ?_) | (with_reducible refine x_notV ?_) | (with_reducible refine x_sub ?_) | (with_reducible refine x_star ?_) | (with_reducible refine x_sl ?_) | (with_reducible refine x_po ?_) | (with_reducible refine x_pn ?_))
local macro_rules | `(tactic| walk_at "y1") => `(tactic| first
  | (with_reducible refine x_seq ?_) | (with_reducible refine x_asg ?_) | ((with_reducible refine x_name ?_); dsimp only [List.set_cons_succ, List.set_cons_zero])
  | (with_reducible refine x_drop ?_) | (with_reducible refine x_next ?_)
  | ((with_reducible refine' x_var ?h ?_); (case h => rfl)) | (with_reducible refine x_c ?_) | (with_reducible refine x_op ?_) | (with_reducible refine x_un ?_)
  | (with_reducible refine x_I0 ?_) | ((with_reducible refine x_I ?h ?_); (case h => first | exact Or.inl (by omega) | exact Or.inr (by omega) | omega | (constructor <;> omega))) | (with_reducible refine x_U ?_)
  | ((with_reducible refine' x_eq ?h ?_); (case h => rfl)) | ((with_reducible refine' x_ne ?h ?_); (case h => rfl))
  | (with_reducible refine x_cb ?_) | (with_reducible refine x_call ?_) | (with_reducible refine x_nil ?_) | (with_reducible refine x_cons ?_)
  | (with_reducible refine x_test ?_) | (with_reducible refine x_tB ?_) | (with_reducible refine x_bl ?_) | (with_reducible refine x_or ?_) | (with_reducible refine x_and ?_) | (with_reducible refine x_not ?_)
  | (with_reducible refine x_ifE ?_) | (with_reducible refine x_lst ?_) | (with_reducible refine x_tup ?_)
  | (with_reducible refine x_bm ?_) | (with_reducible refine x_bmG ?_) | (with_reducible refine x_chain ?_) | (with_reducible refine x_orV ?_) | (with_reducible refine x_andV ?_) | (with_reducible refine x_notV ?_) | (with_reducible refine x_sub ?_) | (with_reducible refine x_star ?_) | (with_reducible refine x_sl ?_) | (with_reducible refine x_po ?_) | (with_reducible refine x_pn ?_))
local macro_rules | `(tactic| walk_at "xi") => `(tactic| first | (with_reducible refine iteT ?_) | (with_reducible refine iteF ?_) | (with_reducible refine x_notT ?_) | (with_reducible refine x_notF ?_))
local macro_rules | `(tactic| walk_at "x") => `(tactic| ((try dsimp only); repeat ((first | walk_at "x1" | walk_at "xi"); (try dsimp only))))
local macro_rules | `(tactic| walk_at "y") => `(tactic| ((try dsimp only); repeat ((first | walk_at "y1" | walk_at "xi"); (try dsimp only))))

theorem size_of : ∀ k, k < 8 → gt [0, 1, 2, 2, 3, 3, 3, 4] k ≤ 4 := by decide
section
variable {P : Program} {w : World} {K : PySem.W.Frag} {mg : Str → Option Value} {base : Heap}
/-! law: slots _law_script 0, _law_bag_here 1, _law_size 2, _law_met_here 3; calls ['_law_bag', '_law_take', '_law_met', '_law_counts', '_law_all', '_law_numbered', '_law_larger']; built-ins [] -/
abbrev s_law : Stmt := top 54
abbrev N_law : List Str := ["_law_script", "_law_bag_here", "_law_size", "_law_met_here"]
theorem sc_law : FnScope N_law ["_law_script"] (defScope s_law) := ⟨rfl, rfl, rfl, by decide +kernel, rfl, by decide +kernel, by decide +kernel⟩

def spLaw (K : PySem.W.Frag) : Sp := fun vs H Q _ => ∃ (a : Addr) (cells : List Int), vs = [.ref a] ∧ SqL K H a (cells.map V.int) ∧ ∀ H', Ex H H' → Q (.bl true) H'
set_option linter.unusedVariables false in
theorem ok_law {f : Addr} {fd : FuncData} (F : Fun K "law" "law" s_law f fd) (T : Txt mg) (D_law_bag : Df P w K mg base "_law_bag" 1 ["_law_script"] (spBag K)) (D_law_take : Df P w K mg base "_law_take" 1 ["_law_bag_here", "_law_many"] (spTake K)) (D_law_met : Df P w K mg base "_law_met" 3 ["_law_size"] (spMet K))
    (D_law_counts : Df P w K mg base "_law_counts" 6 ["_law_bag_here", "_law_size", "_law_met_here"] (spCounts K)) (D_law_all : Df P w K mg base "_law_all" 5 ["_law_size", "_law_met_here"] (spAll K))
    (D_law_numbered : Df P w K mg base "_law_numbered" 6 ["_law_bag_here", "_law_size", "_law_met_here"] (spNumbered K)) (D_law_larger : Df P w K mg base "_law_larger" 6 ["_law_bag_here"] (spLarger K)) : FnOk P w K mg base CX0 7 f fd ["_law_script"] (spLaw K) := by
  refine F.ok sc_law (fun vs H Q E h => ?_) (fun cdv A outer s H vs Q E hr h => ?_)
  · obtain ⟨_, _, rfl, _⟩ := h
    rfl
  · obtain ⟨a, cells, rfl, ha, q⟩ := h
    refine ⟨_, (pss_cons (ps_set (i := 1) sc_law.nd rfl (by first | exact Or.inl rfl | exact Or.inr rfl) (pe_callD D_law_bag (hr.mono (by decide)) (by rfl) (pa_cons (pv 0) pa_nil)))
  (pss_cons (ps_set (i := 2) sc_law.nd rfl (by first | exact Or.inl rfl | exact Or.inr rfl) (pe_ix ix_list (pe_lst (pa_cons pe_int (pa_cons pe_int (pa_cons pe_int (pa_cons pe_int (pa_cons pe_int (pa_cons pe_int (pa_cons pe_int (pa_cons pe_int pa_nil))))))))) (pe_callD D_law_take (hr.mono (by decide)) (by rfl) (pa_cons (pv 1) (pa_cons pe_int pa_nil))) (fun _ _ => rfl)))
  (pss_cons (ps_set (i := 3) sc_law.nd rfl (by first | exact Or.inl rfl | exact Or.inr rfl) (pe_callD D_law_met (hr.mono (by decide)) (by rfl) (pa_cons (pv 2) pa_nil)))
  (pss_cons (ps_if (PW.pt (pw_or (pt_not (pt_val (pe_callD D_law_counts (hr.mono (by decide)) (by rfl) (pa_cons (pv 1) (pa_cons (pv 2) (pa_cons (pv 3) pa_nil)))))) (pw_or1 (pt_not (pt_val (pe_callD D_law_all (hr.mono (by decide)) (by rfl) (pa_cons (pv 2) (pa_cons (pv 3) pa_nil)))))))) (pss_one (ps_ret pe_bl)) pss_nil)
  (pss_one (ps_ret (pe_and (pe_callD D_law_numbered (hr.mono (by decide)) (by rfl) (pa_cons (pv 1) (pa_cons (pv 2) (pa_cons (pv 3) pa_nil)))) (pe_one (pe_callD D_law_larger (hr.mono (by decide)) (by rfl) (pa_cons (pv 1) pa_nil)))))))))), ?_⟩
    refine x_start (σ := [some _, none, none, none]) rfl ?_
    walk_at "x"
    refine ⟨a, cells, rfl, ha, fun b H1 e1 hb => ?_⟩
    walk_at "x"
    refine ⟨by show 8 ≤ sizeLine; decide, fun l nl => ?_⟩
    have x2 := Ex.new (o := .lst [V.int 0, V.int 1, V.int 2, V.int 2, V.int 3, V.int 3, V.int 3, V.int 4]) nl
    have h2 : upd H1 l (.lst [V.int 0, V.int 1, V.int 2, V.int 2, V.int 3, V.int 3, V.int 3, V.int 4]) l = some (.lst ([0, 1, 2, 2, 3, 3, 3, 4].map vn)) := upd_same
    have e2 := Ex.trans e1 x2
    have hb2 := bag_ex x2 hb
    generalize upd H1 l (.lst [V.int 0, V.int 1, V.int 2, V.int 2, V.int 3, V.int 3, V.int 3, V.int 4]) = H2 at e2 hb2 h2 ⊢
    walk_at "x"
    refine ⟨b, 8, rfl, by decide, by decide, hb2, fun k hk => ?_⟩
    refine x_ixN (n := k) (SqL.of h2) rfl hk ?_
    walk_at "x"
    have hn := size_of k hk
    generalize gt [0, 1, 2, 2, 3, 3, 3, 4] k = n at hn ⊢
    refine ⟨n, rfl, hn, fun p H3 e3 np hp => ?_⟩
    rw [met_eq hn] at hp
    walk_at "x"
    refine ⟨b, p, n, rfl, hn, bag_ex e3 hb2, hp, fun H4 e4 => ?_⟩
    walk_at "x"
    refine ⟨p, n, rfl, hn, e4 _ _ hp, fun H5 e5 => ?_⟩
    walk_at "x"
    have e45 := Ex.trans e4 e5
    refine ⟨b, p, n, rfl, hn, bag_ex (Ex.trans e3 e45) hb2, e45 _ _ hp, fun H6 e6 => ?_⟩
    walk_at "x"
    have e46 := Ex.trans e45 e6
    refine ⟨b, rfl, bag_ex (Ex.trans e3 e46) hb2, fun H7 e7 => ?_⟩
    exact q _ (Ex.trans e2 (Ex.trans e3 (Ex.trans e46 e7)))
end
end Pm
end
section
set_option Elab.async false
set_option maxRecDepth 100000
set_option maxHeartbeats 0
set_option linter.all false
namespace Pm
open PySem L2
/-! ### the table of shapes, as it stands behind the top -/
/-- what the head tells besides the defs and names -/
def exB (K : PySem.W.Frag) : Bool :=
  He.eqO (PySem.W.nsIn K mainGlobals "comb") (some (some (.builtin "math.comb"))) && (He.eqO (PySem.W.nsIn K mainGlobals "permutations") (some (some (.type "itertools.permutations"))) &&
    (He.tupB K "FORM_COUNTS" [.int 0, .int 1, .int 3, .int 12, .int 42] && (He.tupB K "WHOLE_WORDS" [.str "free", .str "pair"] && shapesB K)))
/-! ### the hook -/
def keyRefs (o : Obj) : List Addr := match o.data with
  | .dict es _ => es.toList.flatMap fun e => He.refV e.key
  | _ => []
def addrsP (g : Addr → Option Obj) (n : Nat) : List Addr := He.asD g n ++ (He.asD g n).flatMap fun a => match g a with
  | some o => keyRefs o
  | none => []
abbrev AlP : Type := He.AlD × Bool
def obsP (n : Nat) (fa : List He.Fa) (fn : List He.DefD) (g : Addr → Option Obj) : AlP := (He.obsD fa fn (He.frG g (addrsP g n)), exB (He.frG g (addrsP g n)))
def hookP (n : Nat) (fa : List He.Fa) (fn : List He.DefD) : PySem.W.Hook where
  α := AlP
  obs := fun s => obsP n fa fn s.heap.get?
  val := fun _ => (He.valD fn, true)
  says := fun _ h => ∃ K : PySem.W.Frag, K.In h ∧ He.SaysD fa fn K ∧ exB K = true
  of := fun _ _ e => ⟨_, He.frG_in, congrArg (fun z : AlP => z.1) e, congrArg (fun z : AlP => z.2) e⟩
  keeps := fun _ _ _ ⟨K, hK, c⟩ k => ⟨K, PySem.W.Frag.In.keeps hK k, c⟩
theorem obsP_eq {n : Nat} {fa : List He.Fa} {fn : List He.DefD} {g : Addr → Option Obj} {s : Shared} (h : ∀ a, g a = s.heap.get? a) : obsP n fa fn g = (hookP n fa fn).obs s := by
  have e : g = s.heap.get? := funext h
  rw [e]
  rfl

def d_check_image : He.DefD := ⟨("check_image", none), "check_image", "check_image", defArgs (top 8), defBody (top 8), defScope (top 8), [], []⟩
def d_groups : He.DefD := ⟨("groups", none), "groups", "groups", defArgs (top 9), defBody (top 9), defScope (top 9), [], []⟩
def d_walk : He.DefD := ⟨("_walk", none), "_walk", "_walk", defArgs (top 14), defBody (top 14), defScope (top 14), [], []⟩
def d_form_of : He.DefD := ⟨("form_of", none), "form_of", "form_of", defArgs (top 15), defBody (top 15), defScope (top 15), [], []⟩
def d_first_bad : He.DefD := ⟨("first_bad", none), "first_bad", "first_bad", defArgs (top 16), defBody (top 16), defScope (top 16), [], []⟩
def d_pieces : He.DefD := ⟨("pieces", none), "pieces", "pieces", defArgs (top 17), defBody (top 17), defScope (top 17), [], []⟩
def d_is_repairable : He.DefD := ⟨("is_repairable", none), "is_repairable", "is_repairable", defArgs (top 18), defBody (top 18), defScope (top 18), [], []⟩
def d_torn_pieces : He.DefD := ⟨("torn_pieces", none), "torn_pieces", "torn_pieces", defArgs (top 19), defBody (top 19), defScope (top 19), [], []⟩
def d_choose : He.DefD := ⟨("choose", none), "choose", "choose", defArgs (top 22), defBody (top 22), defScope (top 22), [], []⟩
def d_key_of : He.DefD := ⟨("key_of", none), "key_of", "key_of", defArgs (top 23), defBody (top 23), defScope (top 23), [], []⟩
def d_count_images : He.DefD := ⟨("count_images", none), "count_images", "count_images", defArgs (top 24), defBody (top 24), defScope (top 24), [], [("torn", .non)]⟩
def d_count_states : He.DefD := ⟨("count_states", none), "count_states", "count_states", defArgs (top 25), defBody (top 25), defScope (top 25), [], []⟩
def d_torn_counts : He.DefD := ⟨("torn_counts", none), "torn_counts", "torn_counts", defArgs (top 26), defBody (top 26), defScope (top 26), [], []⟩
def d_totals : He.DefD := ⟨("totals", none), "totals", "totals", defArgs (top 27), defBody (top 27), defScope (top 27), [], []⟩
def d_block : He.DefD := ⟨("_block", none), "_block", "_block", defArgs (top 28), defBody (top 28), defScope (top 28), [], []⟩
def d_names : He.DefD := ⟨("_names", none), "_names", "_names", defArgs (top 29), defBody (top 29), defScope (top 29), [], []⟩
def d_patterns : He.DefD := ⟨("_patterns", none), "_patterns", "_patterns", defArgs (top 30), defBody (top 30), defScope (top 30), [], []⟩
def d_set_number : He.DefD := ⟨("_set_number", none), "_set_number", "_set_number", defArgs (top 31), defBody (top 31), defScope (top 31), [], []⟩
def d_set_at : He.DefD := ⟨("_set_at", none), "_set_at", "_set_at", defArgs (top 32), defBody (top 32), defScope (top 32), [], []⟩
def d_image_number : He.DefD := ⟨("image_number", none), "image_number", "image_number", defArgs (top 33), defBody (top 33), defScope (top 33), [], []⟩
def d_image_at : He.DefD := ⟨("image_at", none), "image_at", "image_at", defArgs (top 34), defBody (top 34), defScope (top 34), [], []⟩
def d_law_bag : He.DefD := ⟨("_law_bag", none), "_law_bag", "_law_bag", defArgs (top 36), defBody (top 36), defScope (top 36), [], []⟩
def d_law_take : He.DefD := ⟨("_law_take", none), "_law_take", "_law_take", defArgs (top 37), defBody (top 37), defScope (top 37), [], []⟩
def d_law_shuffled : He.DefD := ⟨("_law_shuffled", none), "_law_shuffled", "_law_shuffled", defArgs (top 38), defBody (top 38), defScope (top 38), [], []⟩
def d_law_state : He.DefD := ⟨("_law_state", none), "_law_state", "_law_state", defArgs (top 39), defBody (top 39), defScope (top 39), [], []⟩
def d_law_flip : He.DefD := ⟨("_law_flip", none), "_law_flip", "_law_flip", defArgs (top 40), defBody (top 40), defScope (top 40), [], []⟩
def d_law_built : He.DefD := ⟨("_law_built", none), "_law_built", "_law_built", defArgs (top 41), defBody (top 41), defScope (top 41), [], []⟩
def d_law_same : He.DefD := ⟨("_law_same", none), "_law_same", "_law_same", defArgs (top 42), defBody (top 42), defScope (top 42), [], []⟩
def d_law_truth : He.DefD := ⟨("_law_truth", none), "_law_truth", "_law_truth", defArgs (top 43), defBody (top 43), defScope (top 43), [], []⟩
def d_law_states : He.DefD := ⟨("_law_states", none), "_law_states", "_law_states", defArgs (top 44), defBody (top 44), defScope (top 44), [], []⟩
def d_law_flips : He.DefD := ⟨("_law_flips", none), "_law_flips", "_law_flips", defArgs (top 45), defBody (top 45), defScope (top 45), [], []⟩
def d_law_total : He.DefD := ⟨("_law_total", none), "_law_total", "_law_total", defArgs (top 46), defBody (top 46), defScope (top 46), [], []⟩
def d_law_sets : He.DefD := ⟨("_law_sets", none), "_law_sets", "_law_sets", defArgs (top 47), defBody (top 47), defScope (top 47), [], []⟩
def d_law_parts : He.DefD := ⟨("_law_parts", none), "_law_parts", "_law_parts", defArgs (top 48), defBody (top 48), defScope (top 48), [], []⟩
def d_law_met : He.DefD := ⟨("_law_met", none), "_law_met", "_law_met", defArgs (top 49), defBody (top 49), defScope (top 49), [], []⟩
def d_law_counts : He.DefD := ⟨("_law_counts", none), "_law_counts", "_law_counts", defArgs (top 50), defBody (top 50), defScope (top 50), [], []⟩
def d_law_all : He.DefD := ⟨("_law_all", none), "_law_all", "_law_all", defArgs (top 51), defBody (top 51), defScope (top 51), [], []⟩
def d_law_numbered : He.DefD := ⟨("_law_numbered", none), "_law_numbered", "_law_numbered", defArgs (top 52), defBody (top 52), defScope (top 52), [], []⟩
def d_law_larger : He.DefD := ⟨("_law_larger", none), "_law_larger", "_law_larger", defArgs (top 53), defBody (top 53), defScope (top 53), [], []⟩
def d_law : He.DefD := ⟨("law", none), "law", "law", defArgs (top 54), defBody (top 54), defScope (top 54), [], []⟩
def fnP : List He.DefD := [d_check_image, d_groups, d_walk, d_form_of, d_first_bad, d_pieces, d_is_repairable, d_torn_pieces, d_choose, d_key_of, d_count_images, d_count_states, d_torn_counts, d_totals, d_block, d_names, d_patterns, d_set_number, d_set_at, d_image_number, d_image_at, d_law_bag, d_law_take, d_law_shuffled, d_law_state, d_law_flip, d_law_built, d_law_same, d_law_truth, d_law_states, d_law_flips, d_law_total, d_law_sets, d_law_parts, d_law_met, d_law_counts, d_law_all, d_law_numbered, d_law_larger, d_law]
def faP1 : List He.Fa := [.glo "check_image", .glo "groups", .glo "_walk", .glo "form_of", .glo "first_bad", .glo "pieces", .glo "is_repairable", .glo "torn_pieces", .glo "choose", .glo "key_of", .glo "count_images", .glo "count_states", .glo "torn_counts", .glo "totals", .glo "_block", .glo "_names", .glo "_patterns", .glo "_set_number", .glo "_set_at", .glo "image_number", .glo "image_at", .glo "_law_bag", .glo "_law_take", .glo "_law_shuffled", .glo "_law_state", .glo "_law_flip", .glo "_law_built", .glo "_law_same", .glo "_law_truth", .glo "_law_states"]
def faP2 : List He.Fa := [.glo "_law_flips", .glo "_law_total", .glo "_law_sets", .glo "_law_parts", .glo "_law_met", .glo "_law_counts", .glo "_law_all", .glo "_law_numbered", .glo "_law_larger", .glo "law", .glo "FORM_COUNTS", .glo "WHOLE_WORDS", .glo "SHAPES", .int "LARGEST" 4, .free "len", .free "min", .free "max", .free "range", .free "enumerate", .free "sum", .free "zip", .free "sorted", .free "tuple", .free "list", .free "divmod", .free "int", .free "isinstance", .free "bool"]
def faP : List He.Fa := faP1 ++ faP2
def namesP1 : List Str := ["permutations", "comb", "MendError", "InvalidImage", "Unrepairable", "InvalidNumber", "check_image", "groups", "WHOLE_WORDS", "SHAPES", "LARGEST", "_walk", "form_of", "first_bad", "pieces", "is_repairable", "torn_pieces", "FORM_COUNTS", "choose", "key_of", "count_images", "count_states", "torn_counts", "totals", "_block", "_names", "_patterns", "_set_number", "_set_at", "image_number"]
def namesP2 : List Str := ["image_at", "_law_bag", "_law_take", "_law_shuffled", "_law_state", "_law_flip", "_law_built", "_law_same", "_law_truth", "_law_states", "_law_flips", "_law_total", "_law_sets", "_law_parts", "_law_met", "_law_counts", "_law_all", "_law_numbered", "_law_larger"]
def namesP : List Str := namesP1 ++ namesP2
abbrev rowP : PySem.W.OpenRow := PySem.W.OpenLaw.row PySem.Challenge.rw_peermend_k59_whole_images_counted_by_wri
abbrev hkP : PySem.W.Hook := hookP 4 faP fnP
def obP (s : PySem.W.SharedT) : AlP := obsP 4 faP fnP (HandSHeadRun.getT s)
theorem obP_eq (s : PySem.W.SharedT) : obP s = hkP.obs s.abs := obsP_eq (HandSHeadRun.getT_eq s)
theorem fun_of {K : PySem.W.Frag} {x qual : Str} {st : Stmt} {kws : List (Str × V)} {f : Addr} {fd : FuncData} (F : FunD K x qual (defArgs st) (defBody st) (defScope st) [] kws f fd) : Fun K x qual st f fd := by
  obtain ⟨oc, od, dV, kV, doc, pm, an, cdv, ct, osl, e, lk, hcd, hD, hK⟩ := F.ex
  rcases hD with ⟨_, rfl⟩ | ⟨z, _⟩
  · exact ⟨⟨oc, od, kV, doc, pm, an, cdv, ct, osl, e, lk, hcd⟩, F.kp⟩
  · exact absurd rfl z
section
variable {P : Program} {w : World} {K : PySem.W.Frag} {mg : Str → Option Value} {base : Heap} {f : Addr} {fd : FuncData}
theorem df_mk {x : Str} {k : Nat} {ps : List Str} {sp : Sp} {qual : Str} {st : Stmt} (F : Fun K x qual st f fd) (ok : FnOk P w K mg base CX0 k f fd ps sp) (hm : mg x = some (.ref f))
    (h : ∀ (kV doc pm : Value) (an : Option Addr) (cdv ct : Value) (us : List Value), us.length = ps.length → bindArgs (PySem.W.fnOf x qual (defArgs st) (defBody st) (defScope st) .none kV doc pm an cdv ct) ⟨us, []⟩ = pure (ps.zip us)) : Df P w K mg base x k ps sp :=
  ⟨f, fd, ok, hm, F.kp, F.binds h⟩
theorem dfk_mk {k : Nat} {sp : Sp} (F : FunD K "count_images" "count_images" (defArgs (top 24)) (defBody (top 24)) (defScope (top 24)) [] [("torn", .non)] f fd) (ok : FnOk P w K mg base CX0 k f fd ["size", "torn"] sp) (hm : mg "count_images" = some (.ref f)) : DfK P w K mg base "count_images" k ["size", "torn"] "torn" .non sp := by
  obtain ⟨ds, hv, hb⟩ := F.binds0 (ps := ["size", "torn"]) 1 (by decide) rfl fun D doc pm an cdv ct us ks h1 h2 => match us, h1, ks, h2 with
    | [_], _, [_], _ => ⟨_, _, _, _, _, _, rfl, rfl, rfl⟩
  obtain ⟨oc, od, dV, kV, doc, pm, an, cdv, ct, osl, rfl, lk, hcd, hD, hK⟩ := F.ex
  refine ⟨f, _, ds, ok, hm, F.kp, hv, hb, fun s u v => ?_⟩
  rcases hD with ⟨_, rfl⟩ | ⟨z, _⟩
  · exact .of_eq rfl
  · exact absurd rfl z
end
theorem facts (LO : LargeOk) {P : Program} {w : World} {K : PySem.W.Frag} {h : Heap} {mg : Str → Option Value} {f : Addr} (X : K.In h) (G : h.Ns mainGlobals mg) (hfa : mg ("law" : Str) = some (.ref f)) (c : He.SaysD faP fnP K) (ce : exB K = true) :
    ∃ fd : FuncData, (∀ (s : Shared) (v : Value), BindsTo s fd ⟨[v], []⟩ [("_law_script", v)]) ∧ ∀ base : Heap, K.In base → base.Ns mainGlobals mg → FnOk P w K mg base CX0 7 f fd ["_law_script"] (spLaw K) := by
  obtain ⟨ce1, ce2⟩ := He.ba ce
  obtain ⟨ce3, ce4⟩ := He.ba ce2
  obtain ⟨ce5, ce6⟩ := He.ba ce4
  obtain ⟨ce7, ce8⟩ := He.ba ce6
  have gc : mg "comb" = some (.builtin "math.comb") := PySem.W.mg_of X G (He.eqO_ok ce1)
  have gP : mg "permutations" = some (.type "itertools.permutations") := PySem.W.mg_of X G (He.eqO_ok ce3)
  have hF : ∀ H, SqT K H (He.ga K "FORM_COUNTS") ([0, 1, 3, 12, 42].map vn) := He.tupB_ok ce5
  have hW : ∀ H, SqT K H (He.ga K "WHOLE_WORDS") [.str "free", .str "pair"] := He.tupB_ok ce7
  have hSh := shapes_ok ce8
  have gF := (He.glo_ok X G (c.fact 40 (f := .glo "FORM_COUNTS") rfl))
  have gW := (He.glo_ok X G (c.fact 41 (f := .glo "WHOLE_WORDS") rfl))
  have gS := (He.glo_ok X G (c.fact 42 (f := .glo "SHAPES") rfl))
  have gL : GInt mg "LARGEST" 4 := ⟨He.int_ok X G (c.fact 43 (f := .int "LARGEST" 4) rfl)⟩
  have T : Txt mg := ⟨He.free_ok X G (c.fact 44 (f := .free "len") rfl), He.free_ok X G (c.fact 45 (f := .free "min") rfl), He.free_ok X G (c.fact 46 (f := .free "max") rfl), He.free_ok X G (c.fact 47 (f := .free "range") rfl), He.free_ok X G (c.fact 48 (f := .free "enumerate") rfl), He.free_ok X G (c.fact 49 (f := .free "sum") rfl), He.free_ok X G (c.fact 50 (f := .free "zip") rfl), He.free_ok X G (c.fact 51 (f := .free "sorted") rfl), He.free_ok X G (c.fact 52 (f := .free "tuple") rfl), He.free_ok X G (c.fact 53 (f := .free "list") rfl), He.free_ok X G (c.fact 54 (f := .free "divmod") rfl), He.free_ok X G (c.fact 55 (f := .free "int") rfl), He.free_ok X G (c.fact 56 (f := .free "isinstance") rfl), He.free_ok X G (c.fact 57 (f := .free "bool") rfl)⟩
  obtain ⟨fd_choose, FD_choose⟩ := c.def_ 8 (d := d_choose) rfl
  have F_choose : Fun K "choose" "choose" s_choose (He.ga K "choose") fd_choose := fun_of FD_choose
  obtain ⟨fd__block, FD__block⟩ := c.def_ 14 (d := d_block) rfl
  have F__block : Fun K "_block" "_block" s_block (He.ga K "_block") fd__block := fun_of FD__block
  obtain ⟨fd__set_number, FD__set_number⟩ := c.def_ 17 (d := d_set_number) rfl
  have F__set_number : Fun K "_set_number" "_set_number" s_set_number (He.ga K "_set_number") fd__set_number := fun_of FD__set_number
  obtain ⟨fd_check_image, FD_check_image⟩ := c.def_ 0 (d := d_check_image) rfl
  have F_check_image : Fun K "check_image" "check_image" s_check_image (He.ga K "check_image") fd_check_image := fun_of FD_check_image
  obtain ⟨fd_groups, FD_groups⟩ := c.def_ 1 (d := d_groups) rfl
  have F_groups : Fun K "groups" "groups" s_groups (He.ga K "groups") fd_groups := fun_of FD_groups
  obtain ⟨fd__walk, FD__walk⟩ := c.def_ 2 (d := d_walk) rfl
  have F__walk : Fun K "_walk" "_walk" s_walk (He.ga K "_walk") fd__walk := fun_of FD__walk
  obtain ⟨fd_form_of, FD_form_of⟩ := c.def_ 3 (d := d_form_of) rfl
  have F_form_of : Fun K "form_of" "form_of" s_form_of (He.ga K "form_of") fd_form_of := fun_of FD_form_of
  obtain ⟨fd_first_bad, FD_first_bad⟩ := c.def_ 4 (d := d_first_bad) rfl
  have F_first_bad : Fun K "first_bad" "first_bad" s_first_bad (He.ga K "first_bad") fd_first_bad := fun_of FD_first_bad
  obtain ⟨fd_is_repairable, FD_is_repairable⟩ := c.def_ 6 (d := d_is_repairable) rfl
  have F_is_repairable : Fun K "is_repairable" "is_repairable" s_is_repairable (He.ga K "is_repairable") fd_is_repairable := fun_of FD_is_repairable
  obtain ⟨fd_pieces, FD_pieces⟩ := c.def_ 5 (d := d_pieces) rfl
  have F_pieces : Fun K "pieces" "pieces" s_pieces (He.ga K "pieces") fd_pieces := fun_of FD_pieces
  obtain ⟨fd_torn_pieces, FD_torn_pieces⟩ := c.def_ 7 (d := d_torn_pieces) rfl
  have F_torn_pieces : Fun K "torn_pieces" "torn_pieces" s_torn_pieces (He.ga K "torn_pieces") fd_torn_pieces := fun_of FD_torn_pieces
  obtain ⟨fd_key_of, FD_key_of⟩ := c.def_ 9 (d := d_key_of) rfl
  have F_key_of : Fun K "key_of" "key_of" s_key_of (He.ga K "key_of") fd_key_of := fun_of FD_key_of
  obtain ⟨fd__names, FD__names⟩ := c.def_ 15 (d := d_names) rfl
  have F__names : Fun K "_names" "_names" s_names (He.ga K "_names") fd__names := fun_of FD__names
  obtain ⟨fd__patterns, FD__patterns⟩ := c.def_ 16 (d := d_patterns) rfl
  have F__patterns : Fun K "_patterns" "_patterns" s_patterns (He.ga K "_patterns") fd__patterns := fun_of FD__patterns
  obtain ⟨fd__set_at, FD__set_at⟩ := c.def_ 18 (d := d_set_at) rfl
  have F__set_at : Fun K "_set_at" "_set_at" s_set_at (He.ga K "_set_at") fd__set_at := fun_of FD__set_at
  obtain ⟨fd_totals, FD_totals⟩ := c.def_ 13 (d := d_totals) rfl
  have F_totals : Fun K "totals" "totals" s_totals (He.ga K "totals") fd_totals := fun_of FD_totals
  obtain ⟨fd_torn_counts, FD_torn_counts⟩ := c.def_ 12 (d := d_torn_counts) rfl
  have F_torn_counts : Fun K "torn_counts" "torn_counts" s_torn_counts (He.ga K "torn_counts") fd_torn_counts := fun_of FD_torn_counts
  obtain ⟨fd_count_images, FD_count_images⟩ := c.def_ 10 (d := d_count_images) rfl
  have F_count_images : Fun K "count_images" "count_images" s_count_images (He.ga K "count_images") fd_count_images := fun_of FD_count_images
  obtain ⟨fd_count_states, FD_count_states⟩ := c.def_ 11 (d := d_count_states) rfl
  have F_count_states : Fun K "count_states" "count_states" s_count_states (He.ga K "count_states") fd_count_states := fun_of FD_count_states
  obtain ⟨fd_image_number, FD_image_number⟩ := c.def_ 19 (d := d_image_number) rfl
  have F_image_number : Fun K "image_number" "image_number" s_image_number (He.ga K "image_number") fd_image_number := fun_of FD_image_number
  obtain ⟨fd_image_at, FD_image_at⟩ := c.def_ 20 (d := d_image_at) rfl
  have F_image_at : Fun K "image_at" "image_at" s_image_at (He.ga K "image_at") fd_image_at := fun_of FD_image_at
  obtain ⟨fd__law_bag, FD__law_bag⟩ := c.def_ 21 (d := d_law_bag) rfl
  have F__law_bag : Fun K "_law_bag" "_law_bag" s_law_bag (He.ga K "_law_bag") fd__law_bag := fun_of FD__law_bag
  obtain ⟨fd__law_take, FD__law_take⟩ := c.def_ 22 (d := d_law_take) rfl
  have F__law_take : Fun K "_law_take" "_law_take" s_law_take (He.ga K "_law_take") fd__law_take := fun_of FD__law_take
  obtain ⟨fd__law_shuffled, FD__law_shuffled⟩ := c.def_ 23 (d := d_law_shuffled) rfl
  have F__law_shuffled : Fun K "_law_shuffled" "_law_shuffled" s_law_shuffled (He.ga K "_law_shuffled") fd__law_shuffled := fun_of FD__law_shuffled
  obtain ⟨fd__law_state, FD__law_state⟩ := c.def_ 24 (d := d_law_state) rfl
  have F__law_state : Fun K "_law_state" "_law_state" s_law_state (He.ga K "_law_state") fd__law_state := fun_of FD__law_state
  obtain ⟨fd__law_flip, FD__law_flip⟩ := c.def_ 25 (d := d_law_flip) rfl
  have F__law_flip : Fun K "_law_flip" "_law_flip" s_law_flip (He.ga K "_law_flip") fd__law_flip := fun_of FD__law_flip
  obtain ⟨fd__law_built, FD__law_built⟩ := c.def_ 26 (d := d_law_built) rfl
  have F__law_built : Fun K "_law_built" "_law_built" s_law_built (He.ga K "_law_built") fd__law_built := fun_of FD__law_built
  obtain ⟨fd__law_same, FD__law_same⟩ := c.def_ 27 (d := d_law_same) rfl
  have F__law_same : Fun K "_law_same" "_law_same" s_law_same (He.ga K "_law_same") fd__law_same := fun_of FD__law_same
  obtain ⟨fd__law_truth, FD__law_truth⟩ := c.def_ 28 (d := d_law_truth) rfl
  have F__law_truth : Fun K "_law_truth" "_law_truth" s_law_truth (He.ga K "_law_truth") fd__law_truth := fun_of FD__law_truth
  obtain ⟨fd__law_total, FD__law_total⟩ := c.def_ 31 (d := d_law_total) rfl
  have F__law_total : Fun K "_law_total" "_law_total" s_law_total (He.ga K "_law_total") fd__law_total := fun_of FD__law_total
  obtain ⟨fd__law_states, FD__law_states⟩ := c.def_ 29 (d := d_law_states) rfl
  have F__law_states : Fun K "_law_states" "_law_states" s_law_states (He.ga K "_law_states") fd__law_states := fun_of FD__law_states
  obtain ⟨fd__law_flips, FD__law_flips⟩ := c.def_ 30 (d := d_law_flips) rfl
  have F__law_flips : Fun K "_law_flips" "_law_flips" s_law_flips (He.ga K "_law_flips") fd__law_flips := fun_of FD__law_flips
  obtain ⟨fd__law_sets, FD__law_sets⟩ := c.def_ 32 (d := d_law_sets) rfl
  have F__law_sets : Fun K "_law_sets" "_law_sets" s_law_sets (He.ga K "_law_sets") fd__law_sets := fun_of FD__law_sets
  obtain ⟨fd__law_parts, FD__law_parts⟩ := c.def_ 33 (d := d_law_parts) rfl
  have F__law_parts : Fun K "_law_parts" "_law_parts" s_law_parts (He.ga K "_law_parts") fd__law_parts := fun_of FD__law_parts
  obtain ⟨fd__law_met, FD__law_met⟩ := c.def_ 34 (d := d_law_met) rfl
  have F__law_met : Fun K "_law_met" "_law_met" s_law_met (He.ga K "_law_met") fd__law_met := fun_of FD__law_met
  obtain ⟨fd__law_counts, FD__law_counts⟩ := c.def_ 35 (d := d_law_counts) rfl
  have F__law_counts : Fun K "_law_counts" "_law_counts" s_law_counts (He.ga K "_law_counts") fd__law_counts := fun_of FD__law_counts
  obtain ⟨fd__law_all, FD__law_all⟩ := c.def_ 36 (d := d_law_all) rfl
  have F__law_all : Fun K "_law_all" "_law_all" s_law_all (He.ga K "_law_all") fd__law_all := fun_of FD__law_all
  obtain ⟨fd__law_numbered, FD__law_numbered⟩ := c.def_ 37 (d := d_law_numbered) rfl
  have F__law_numbered : Fun K "_law_numbered" "_law_numbered" s_law_numbered (He.ga K "_law_numbered") fd__law_numbered := fun_of FD__law_numbered
  obtain ⟨fd__law_larger, FD__law_larger⟩ := c.def_ 38 (d := d_law_larger) rfl
  have F__law_larger : Fun K "_law_larger" "_law_larger" s_law_larger (He.ga K "_law_larger") fd__law_larger := fun_of FD__law_larger
  obtain ⟨fd_law, FD_law⟩ := c.def_ 39 (d := d_law) rfl
  have F_law : Fun K "law" "law" s_law (He.ga K "law") fd_law := fun_of FD_law
  have e := hfa.symm.trans (He.glo_ok X G (c.fact 39 (f := .glo "law") rfl))
  cases e
  have b := FunD.bindsA (ps := ["_law_script"]) FD_law fun _ _ _ _ _ _ us hl => match us, hl with | [_], _ => rfl
  refine ⟨fd_law, fun s v => b s [v] rfl, fun base _ _ => ?_⟩
  have D_choose : Df P w K mg base "choose" 1 ["m", "k"] spChoose := df_mk F_choose (ok_choose F_choose gc) (He.glo_ok X G (c.fact 8 (f := .glo "choose") rfl)) (fun _ _ _ _ _ _ us hl => match us, hl with | [_, _], _ => rfl)
  have D__block : Df P w K mg base "_block" 2 ["counts", "n", "many"] (spBlock K) := df_mk F__block (ok_block F__block gF hF D_choose) (He.glo_ok X G (c.fact 14 (f := .glo "_block") rfl)) (fun _ _ _ _ _ _ us hl => match us, hl with | [_, _, _], _ => rfl)
  have D__set_number : Df P w K mg base "_set_number" 2 ["places", "n"] (spSetNumber K) := df_mk F__set_number (ok_set_number F__set_number T D_choose) (He.glo_ok X G (c.fact 17 (f := .glo "_set_number") rfl)) (fun _ _ _ _ _ _ us hl => match us, hl with | [_, _], _ => rfl)
  have D_check_image : Df P w K mg base "check_image" 1 ["image"] (spCheck K) := df_mk F_check_image (ok_check_image F_check_image T) (He.glo_ok X G (c.fact 0 (f := .glo "check_image") rfl)) (fun _ _ _ _ _ _ us hl => match us, hl with | [_], _ => rfl)
  have D_groups : Df P w K mg base "groups" 2 ["image"] (spGroups K) := df_mk F_groups (ok_groups F_groups T D_check_image) (He.glo_ok X G (c.fact 1 (f := .glo "groups") rfl)) (fun _ _ _ _ _ _ us hl => match us, hl with | [_], _ => rfl)
  have D__walk : Df P w K mg base "_walk" 1 ["image", "start"] (spWalk K) := df_mk F__walk (ok_walk F__walk) (He.glo_ok X G (c.fact 2 (f := .glo "_walk") rfl)) (fun _ _ _ _ _ _ us hl => match us, hl with | [_, _], _ => rfl)
  have D_form_of : Df P w K mg base "form_of" 2 ["image", "group"] (spForm K) := df_mk F_form_of (ok_form_of F_form_of T gL gS hSh D__walk) (He.glo_ok X G (c.fact 3 (f := .glo "form_of") rfl)) (fun _ _ _ _ _ _ us hl => match us, hl with | [_, _], _ => rfl)
  have D_first_bad : Df P w K mg base "first_bad" 3 ["image"] (spFB K) := df_mk F_first_bad (ok_first_bad F_first_bad D_groups D_form_of) (He.glo_ok X G (c.fact 4 (f := .glo "first_bad") rfl)) (fun _ _ _ _ _ _ us hl => match us, hl with | [_], _ => rfl)
  have D_is_repairable : Df P w K mg base "is_repairable" 4 ["image"] (spRep K) := df_mk F_is_repairable (ok_is_repairable F_is_repairable D_first_bad) (He.glo_ok X G (c.fact 6 (f := .glo "is_repairable") rfl)) (fun _ _ _ _ _ _ us hl => match us, hl with | [_], _ => rfl)
  have D_pieces : Df P w K mg base "pieces" 3 ["image"] (spPieces K) := df_mk F_pieces (ok_pieces F_pieces D_groups D_form_of) (He.glo_ok X G (c.fact 5 (f := .glo "pieces") rfl)) (fun _ _ _ _ _ _ us hl => match us, hl with | [_], _ => rfl)
  have D_torn_pieces : Df P w K mg base "torn_pieces" 4 ["image"] (spTorn K) := df_mk F_torn_pieces (ok_torn_pieces F_torn_pieces gW hW D_pieces) (He.glo_ok X G (c.fact 7 (f := .glo "torn_pieces") rfl)) (fun _ _ _ _ _ _ us hl => match us, hl with | [_], _ => rfl)
  have D_key_of : Df P w K mg base "key_of" 1 ["image", "records"] (spKey K) := df_mk F_key_of (ok_key_of F_key_of T) (He.glo_ok X G (c.fact 9 (f := .glo "key_of") rfl)) (fun _ _ _ _ _ _ us hl => match us, hl with | [_, _], _ => rfl)
  have D__names : Df P w K mg base "_names" 1 ["shape", "records"] (spNames K) := df_mk F__names (ok_names F__names T) (He.glo_ok X G (c.fact 15 (f := .glo "_names") rfl)) (fun _ _ _ _ _ _ us hl => match us, hl with | [_, _], _ => rfl)
  have D__patterns : Df P w K mg base "_patterns" 2 ["many"] (spPat K) := df_mk F__patterns (ok_patterns F__patterns T gS hSh gP D__names) (He.glo_ok X G (c.fact 16 (f := .glo "_patterns") rfl)) (fun _ _ _ _ _ _ us hl => match us, hl with | [_], _ => rfl)
  have D__set_at : Df P w K mg base "_set_at" 2 ["number", "n", "many"] (spSetAt K) := df_mk F__set_at (ok_set_at F__set_at T D_choose) (He.glo_ok X G (c.fact 18 (f := .glo "_set_at") rfl)) (fun _ _ _ _ _ _ us hl => match us, hl with | [_, _, _], _ => rfl)
  have D_totals : Df P w K mg base "totals" 3 ["size"] (spTotals K) := df_mk F_totals (ok_totals F_totals T gL D__block) (He.glo_ok X G (c.fact 13 (f := .glo "totals") rfl)) (fun _ _ _ _ _ _ us hl => match us, hl with | [_], _ => rfl)
  have D_torn_counts : Df P w K mg base "torn_counts" 2 ["size", "most"] (spTC K) := df_mk F_torn_counts (ok_torn_counts F_torn_counts T gF hF D_choose) (He.glo_ok X G (c.fact 12 (f := .glo "torn_counts") rfl)) (fun _ _ _ _ _ _ us hl => match us, hl with | [_, _], _ => rfl)
  have DK_count_images : DfK P w K mg base "count_images" 4 ["size", "torn"] "torn" .non (spCount K) := dfk_mk FD_count_images (ok_count_images F_count_images D_totals D_torn_counts) (He.glo_ok X G (c.fact 10 (f := .glo "count_images") rfl))
  have D_count_states : Df P w K mg base "count_states" 5 ["size"] (spStates K) := df_mk F_count_states (ok_count_states F_count_states DK_count_images) (He.glo_ok X G (c.fact 11 (f := .glo "count_states") rfl)) (fun _ _ _ _ _ _ us hl => match us, hl with | [_], _ => rfl)
  have D_image_number : Df P w K mg base "image_number" 4 ["image"] (spNumber K) := df_mk F_image_number (ok_image_number F_image_number T gL gF hF D_pieces D_totals D__patterns D_key_of D__block D__set_number) (He.glo_ok X G (c.fact 19 (f := .glo "image_number") rfl)) (fun _ _ _ _ _ _ us hl => match us, hl with | [_], _ => rfl)
  have D_image_at : Df P w K mg base "image_at" 5 ["size", "number"] (spAt K) := df_mk F_image_at (ok_image_at F_image_at T gL gF hF DK_count_images D_totals D__patterns D__block D__set_at) (He.glo_ok X G (c.fact 20 (f := .glo "image_at") rfl)) (fun _ _ _ _ _ _ us hl => match us, hl with | [_, _], _ => rfl)
  have D__law_bag : Df P w K mg base "_law_bag" 1 ["_law_script"] (spBag K) := df_mk F__law_bag (ok_law_bag F__law_bag T) (He.glo_ok X G (c.fact 21 (f := .glo "_law_bag") rfl)) (fun _ _ _ _ _ _ us hl => match us, hl with | [_], _ => rfl)
  have D__law_take : Df P w K mg base "_law_take" 1 ["_law_bag_here", "_law_many"] (spTake K) := df_mk F__law_take (ok_law_take F__law_take T) (He.glo_ok X G (c.fact 22 (f := .glo "_law_take") rfl)) (fun _ _ _ _ _ _ us hl => match us, hl with | [_, _], _ => rfl)
  have D__law_shuffled : Df P w K mg base "_law_shuffled" 2 ["_law_bag_here", "_law_size"] (spShuf K) := df_mk F__law_shuffled (ok_law_shuffled F__law_shuffled T D__law_take) (He.glo_ok X G (c.fact 23 (f := .glo "_law_shuffled") rfl)) (fun _ _ _ _ _ _ us hl => match us, hl with | [_, _], _ => rfl)
  have D__law_state : Df P w K mg base "_law_state" 3 ["_law_bag_here", "_law_size"] (spState K) := df_mk F__law_state (ok_law_state F__law_state T D__law_take D__law_shuffled) (He.glo_ok X G (c.fact 24 (f := .glo "_law_state") rfl)) (fun _ _ _ _ _ _ us hl => match us, hl with | [_, _], _ => rfl)
  have D__law_flip : Df P w K mg base "_law_flip" 2 ["_law_bag_here", "_law_base", "_law_busy"] (spFlip K) := df_mk F__law_flip (ok_law_flip F__law_flip T D__law_take) (He.glo_ok X G (c.fact 25 (f := .glo "_law_flip") rfl)) (fun _ _ _ _ _ _ us hl => match us, hl with | [_, _, _], _ => rfl)
  have D__law_built : Df P w K mg base "_law_built" 4 ["_law_bag_here", "_law_size", "_law_most"] (spBuilt K) := df_mk F__law_built (ok_law_built F__law_built T D__law_take D__law_state D__law_flip) (He.glo_ok X G (c.fact 26 (f := .glo "_law_built") rfl)) (fun _ _ _ _ _ _ us hl => match us, hl with | [_, _, _], _ => rfl)
  have D__law_same : Df P w K mg base "_law_same" 1 ["_law_told", "_law_due"] (spSame K) := df_mk F__law_same (ok_law_same F__law_same T) (He.glo_ok X G (c.fact 27 (f := .glo "_law_same") rfl)) (fun _ _ _ _ _ _ us hl => match us, hl with | [_, _], _ => rfl)
  have D__law_truth : Df P w K mg base "_law_truth" 1 ["_law_told", "_law_due"] (spTruth K) := df_mk F__law_truth (ok_law_truth F__law_truth T) (He.glo_ok X G (c.fact 28 (f := .glo "_law_truth") rfl)) (fun _ _ _ _ _ _ us hl => match us, hl with | [_, _], _ => rfl)
  have D__law_total : Df P w K mg base "_law_total" 1 ["_law_size"] (spTotal K) := df_mk F__law_total (ok_law_total F__law_total T) (He.glo_ok X G (c.fact 31 (f := .glo "_law_total") rfl)) (fun _ _ _ _ _ _ us hl => match us, hl with | [_], _ => rfl)
  have D__law_states : Df P w K mg base "_law_states" 1 ["_law_size"] (spLStates K) := df_mk F__law_states (ok_law_states F__law_states T) (He.glo_ok X G (c.fact 29 (f := .glo "_law_states") rfl)) (fun _ _ _ _ _ _ us hl => match us, hl with | [_], _ => rfl)
  have D__law_flips : Df P w K mg base "_law_flips" 1 ["_law_state_here"] (spLFlips K) := df_mk F__law_flips (ok_law_flips F__law_flips T) (He.glo_ok X G (c.fact 30 (f := .glo "_law_flips") rfl)) (fun _ _ _ _ _ _ us hl => match us, hl with | [_], _ => rfl)
  have D__law_sets : Df P w K mg base "_law_sets" 2 ["_law_state_here"] (spLSets K) := df_mk F__law_sets (ok_law_sets F__law_sets T D__law_flips) (He.glo_ok X G (c.fact 32 (f := .glo "_law_sets") rfl)) (fun _ _ _ _ _ _ us hl => match us, hl with | [_], _ => rfl)
  have D__law_parts : Df P w K mg base "_law_parts" 1 ["_law_state_here", "_law_flips_here"] (spParts K) := df_mk F__law_parts (ok_law_parts F__law_parts T) (He.glo_ok X G (c.fact 33 (f := .glo "_law_parts") rfl)) (fun _ _ _ _ _ _ us hl => match us, hl with | [_, _], _ => rfl)
  have D__law_met : Df P w K mg base "_law_met" 3 ["_law_size"] (spMet K) := df_mk F__law_met (ok_law_met F__law_met T D__law_states D__law_sets D__law_parts) (He.glo_ok X G (c.fact 34 (f := .glo "_law_met") rfl)) (fun _ _ _ _ _ _ us hl => match us, hl with | [_], _ => rfl)
  have D__law_counts : Df P w K mg base "_law_counts" 6 ["_law_bag_here", "_law_size", "_law_met_here"] (spCounts K) := df_mk F__law_counts (ok_law_counts F__law_counts T DK_count_images D_count_states D__law_same D__law_take) (He.glo_ok X G (c.fact 35 (f := .glo "_law_counts") rfl)) (fun _ _ _ _ _ _ us hl => match us, hl with | [_, _, _], _ => rfl)
  have D__law_all : Df P w K mg base "_law_all" 5 ["_law_size", "_law_met_here"] (spAll K) := df_mk F__law_all (ok_law_all F__law_all T D_is_repairable D__law_truth) (He.glo_ok X G (c.fact 36 (f := .glo "_law_all") rfl)) (fun _ _ _ _ _ _ us hl => match us, hl with | [_, _], _ => rfl)
  have D__law_numbered : Df P w K mg base "_law_numbered" 6 ["_law_bag_here", "_law_size", "_law_met_here"] (spNumbered K) := df_mk F__law_numbered (ok_law_numbered F__law_numbered T D__law_take D_image_at D__law_same D_image_number D_torn_pieces) (He.glo_ok X G (c.fact 37 (f := .glo "_law_numbered") rfl)) (fun _ _ _ _ _ _ us hl => match us, hl with | [_, _, _], _ => rfl)
  have D__law_larger : Df P w K mg base "_law_larger" 6 ["_law_bag_here"] (spLarger K) := df_mk F__law_larger (ok_law_larger LO F__law_larger T D__law_take D__law_built D_is_repairable D__law_truth D_torn_pieces D_image_number D__law_same D__law_total DK_count_images D_image_at) (He.glo_ok X G (c.fact 38 (f := .glo "_law_larger") rfl)) (fun _ _ _ _ _ _ us hl => match us, hl with | [_], _ => rfl)
  exact ok_law F_law T D__law_bag D__law_take D__law_met D__law_counts D__law_all D__law_numbered D__law_larger
end Pm
end
section
set_option Elab.async false
set_option linter.all false
namespace Pm.Q
/-! ### groups are the least sets that the image and its way back keep -/
theorem asc_ext : ∀ {a b : List Nat}, a.Pairwise (· < ·) → b.Pairwise (· < ·) → (∀ x, x ∈ a ↔ x ∈ b) → a = b
  | [], [], _, _, _ => rfl
  | [], y :: b, _, _, h => absurd ((h y).mpr (List.mem_cons_self ..)) (by simp)
  | x :: a, [], _, _, h => absurd ((h x).mp (List.mem_cons_self ..)) (by simp)
  | x :: a, y :: b, ha, hb, h => by
    rw [List.pairwise_cons] at ha hb
    have e : x = y := by
      rcases List.mem_cons.mp ((h x).mp (List.mem_cons_self ..)) with z | z
      · exact z
      · rcases List.mem_cons.mp ((h y).mpr (List.mem_cons_self ..)) with u | u
        · exact u.symm
        · have := hb.1 x z
          have := ha.1 y u
          omega
    subst e
    congr 1
    refine asc_ext ha.2 hb.2 fun z => ⟨fun q => ?_, fun q => ?_⟩
    · rcases List.mem_cons.mp ((h z).mp (List.mem_cons_of_mem _ q)) with u | u
      · have := ha.1 z q
        omega
      · exact u
    · rcases List.mem_cons.mp ((h z).mpr (List.mem_cons_of_mem _ q)) with u | u
      · have := hb.1 z q
        omega
      · exact u
def SatP (im : List Nat) (S : Nat → Prop) : Prop := ∀ r, r < im.length → (S (gt im r) ↔ S r)
structure IsGroup (im g : List Nat) : Prop where
  ne : g ≠ []
  asc : g.Pairwise (· < ·)
  lt : ∀ r ∈ g, r < im.length
  sat : SatP im (· ∈ g)
  least : ∀ S : Nat → Prop, SatP im S → ∀ a ∈ g, ∀ b ∈ g, S a → S b
theorem merge_least {im ls : List Nat} {S : Nat → Prop} (hI : Img im) (hS : SatP im S) (hl : ls.length = im.length) {k : Nat} (hk : k < im.length)
    (h : ∀ i j, i < im.length → j < im.length → gt ls i = gt ls j → (S i ↔ S j)) : ∀ i j, i < im.length → j < im.length → gt (mergeStep im ls k) i = gt (mergeStep im ls k) j → (S i ↔ S j) := by
  intro i j hi hj e
  have hn : gt im k < im.length := hI _ (gt_memN hk)
  unfold mergeStep at e
  rw [gt_map (by omega), gt_map (by omega)] at e
  have kk := hS k hk
  have ab : ∀ x, x < im.length → gt ls x = max (gt ls k) (gt ls (gt im k)) ∨ gt ls x = min (gt ls k) (gt ls (gt im k)) → (S x ↔ S k) := by
    intro x hx z
    have : gt ls x = gt ls k ∨ gt ls x = gt ls (gt im k) := by omega
    rcases this with u | u
    · exact h x k hx hk u
    · exact (h x _ hx hn u).trans kk
  by_cases h1 : gt ls i = max (gt ls k) (gt ls (gt im k))
  · by_cases h2 : gt ls j = max (gt ls k) (gt ls (gt im k))
    · exact h i j hi hj (h1.trans h2.symm)
    · rw [if_pos h1, if_neg h2] at e
      exact (ab i hi (.inl h1)).trans (ab j hj (.inr e.symm)).symm
  · by_cases h2 : gt ls j = max (gt ls k) (gt ls (gt im k))
    · rw [if_neg h1, if_pos h2] at e
      exact (ab i hi (.inr e)).trans (ab j hj (.inl h2)).symm
    · rw [if_neg h1, if_neg h2] at e
      exact h i j hi hj e
theorem gt_range {n i : Nat} (h : i < n) : gt (List.range n) i = i := by
  show (List.range n).getD i 0 = i
  rw [List.getD_eq_getElem?_getD, List.getElem?_range h]
  rfl
theorem labels_least0 {im : List Nat} {S : Nat → Prop} (hI : Img im) (hS : SatP im S) : ∀ k, k ≤ im.length → ∀ i j, i < im.length → j < im.length →
    gt ((List.range k).foldl (mergeStep im) (List.range im.length)) i = gt ((List.range k).foldl (mergeStep im) (List.range im.length)) j → (S i ↔ S j)
  | 0, _ => fun i j hi hj e => by
    have e' : gt (List.range im.length) i = gt (List.range im.length) j := e
    rw [gt_range hi, gt_range hj] at e'
    rw [e']
  | k + 1, hk => by
    rw [List.range_succ, List.foldl_append]
    exact merge_least hI hS (labels_ok hI k (by omega)).1 (by omega) (labels_least0 hI hS k (by omega))
theorem labels_least {im : List Nat} {S : Nat → Prop} (hI : Img im) (hS : SatP im S) {i j : Nat} (hi : i < im.length) (hj : j < im.length) (e : gt (labelsOf im) i = gt (labelsOf im) j) : S i ↔ S j := labels_least0 hI hS _ (Nat.le_refl _) i j hi hj e
theorem groups_is {im g : List Nat} (hI : Img im) (hg : g ∈ groupsOf im) : IsGroup im g := by
  obtain ⟨l, h1, h2, h3⟩ := groups_row hI hg
  refine ⟨h1, h2, fun r hr => ((h3 r).mp hr).1, fun r hr => ?_, fun S hS a ha b hb sa => ?_⟩
  · show gt im r ∈ g ↔ r ∈ g
    rw [h3, h3, labels_eq hI hr]
    exact ⟨fun z => ⟨hr, z.2⟩, fun z => ⟨hI _ (gt_memN hr), z.2⟩⟩
  · obtain ⟨a1, a2⟩ := (h3 a).mp ha
    obtain ⟨b1, b2⟩ := (h3 b).mp hb
    exact (labels_least hI hS a1 b1 (a2.trans b2.symm)).mp sa
theorem found_eq {im : List Nat} (hI : Img im) : foundOf (labelsOf im) = (List.range im.length).foldl (fun f r => putIn f (gt (labelsOf im) r) r) [] := by
  unfold foundOf
  rw [labels_len hI]
theorem groups_cover {im : List Nat} (hI : Img im) {r : Nat} (hr : r < im.length) : ∃ g ∈ groupsOf im, r ∈ g := by
  have F := found_ok (labelsOf im) im.length
  obtain ⟨p, hp, e⟩ := F.all r hr
  refine ⟨p.2, List.mem_map.mpr ⟨p, by rw [found_eq hI]; exact hp, rfl⟩, ((F.row p hp).2.2 r).mpr ⟨hr, e.symm⟩⟩
theorem groups_ord {im : List Nat} (hI : Img im) : (groupsOf im).Pairwise fun g h => gt g 0 < gt h 0 := by
  unfold groupsOf
  rw [found_eq hI]
  exact List.pairwise_map.mpr (found_ok (labelsOf im) im.length).ord
theorem IsGroup.eq {im g h : List Nat} (G : IsGroup im g) (H : IsGroup im h) {r : Nat} (hg : r ∈ g) (hh : r ∈ h) : g = h :=
  asc_ext G.asc H.asc fun x => ⟨fun hx => G.least (· ∈ h) H.sat r hg x hx hh, fun hx => H.least (· ∈ g) G.sat r hh x hx hg⟩
theorem groups_iff {im g : List Nat} (hI : Img im) : g ∈ groupsOf im ↔ IsGroup im g := by
  refine ⟨groups_is hI, fun G => ?_⟩
  obtain ⟨r, hr⟩ := List.exists_mem_of_ne_nil g G.ne
  obtain ⟨h, h1, h2⟩ := groups_cover hI (G.lt r hr)
  rw [G.eq (groups_is hI h1) hr h2]
  exact h1
theorem groups_nodup {im : List Nat} (hI : Img im) : (groupsOf im).Nodup := (groups_ord hI).imp fun h z => by
  rw [z] at h
  exact Nat.lt_irrefl _ h
end Pm.Q
end
section
set_option Elab.async false
set_option linter.all false
namespace Pm.Q
/-! ### the form of a group tells itself from the group's pattern -/
def pat (im g : List Nat) : List Nat := g.map fun a => g.idxOf (gt im a)
def pathF (im g : List Nat) (F : Nat) : List Nat := walkN im F [if unshownOf im g = [] then gt g 0 else gt (unshownOf im g) 0]
def recsF (im g : List Nat) (F : Nat) : List Nat := pathF im g F ++ g.filter fun r => decide (r ∉ pathF im g F)
def shapeF (im g : List Nat) (F : Nat) : List Nat := (recsF im g F).map fun r => (recsF im g F).idxOf (gt im r)
theorem recs_F (im g : List Nat) : recsOf im g = recsF im g im.length := rfl
theorem shape_F (im g : List Nat) : shapeOf im g = shapeF im g im.length := rfl
theorem gt_idx {g : List Nat} {a : Nat} (h : a ∈ g) : g.idxOf a < g.length ∧ gt g (g.idxOf a) = a := by
  have hl : g.idxOf a < g.length := List.idxOf_lt_length_iff.mpr h
  refine ⟨hl, ?_⟩
  show g.getD (g.idxOf a) 0 = a
  rw [List.getD_eq_getElem?_getD, List.getElem?_eq_getElem hl]
  exact List.getElem_idxOf hl
/-- told apart below m -/
def InjN (φ : Nat → Nat) (m : Nat) : Prop := ∀ i j, i < m → j < m → φ i = φ j → i = j
theorem asc_inj : ∀ {g : List Nat}, g.Pairwise (· < ·) → ∀ i j, i < j → j < g.length → gt g i < gt g j := by
  intro g h i j hij hj
  have := List.pairwise_iff_getElem.mp h i j (by omega) hj hij
  show g.getD i 0 < g.getD j 0
  rw [List.getD_eq_getElem?_getD, List.getD_eq_getElem?_getD, List.getElem?_eq_getElem hj, List.getElem?_eq_getElem (by omega)]
  exact this
theorem asc_injN {g : List Nat} (h : g.Pairwise (· < ·)) : InjN (gt g) g.length := by
  intro i j hi hj e
  rcases Nat.lt_trichotomy i j with z | z | z
  · have := asc_inj h i j z hj
    omega
  · exact z
  · have := asc_inj h j i z hi
    omega
section
variable {φ : Nat → Nat} {m : Nat} (I : InjN φ m)
include I
theorem mem_mapN {L : List Nat} (hL : ∀ x ∈ L, x < m) {j : Nat} (hj : j < m) : φ j ∈ L.map φ ↔ j ∈ L := by
  rw [List.mem_map]
  constructor
  · rintro ⟨x, hx, e⟩
    rw [← I x j (hL x hx) hj e]
    exact hx
  · exact fun h => ⟨j, h, rfl⟩
theorem idx_mapN : ∀ {L : List Nat}, (∀ x ∈ L, x < m) → ∀ {j : Nat}, j < m → (L.map φ).idxOf (φ j) = L.idxOf j
  | [], _, _, _ => rfl
  | x :: L, hL, j, hj => by
    rw [List.map_cons, List.idxOf_cons, List.idxOf_cons, idx_mapN (fun y hy => hL y (List.mem_cons_of_mem _ hy)) hj]
    by_cases e : x = j
    · subst e
      rw [BEq.rfl, BEq.rfl]
    · have e2 : ¬ φ x = φ j := fun z => e (I x j (hL x (List.mem_cons_self ..)) hj z)
      rw [beq_false_of_ne e2, beq_false_of_ne e]
theorem filter_mapN {L M : List Nat} (hL : ∀ x ∈ L, x < m) (hM : ∀ x ∈ M, x < m) : (L.map φ).filter (fun r => decide (r ∉ M.map φ)) = (L.filter fun r => decide (r ∉ M)).map φ := by
  rw [List.filter_map]
  congr 1
  refine List.filter_congr fun x hx => ?_
  exact decide_eq_decide.mpr (not_congr (mem_mapN I hM (hL x hx)))
variable {im nm : List Nat} (hs : ∀ j, j < m → gt nm j < m ∧ gt im (φ j) = φ (gt nm j))
include hs
theorem walk_mapN : ∀ (F : Nat) (p : List Nat), p ≠ [] → (∀ x ∈ p, x < m) → walkN im F (p.map φ) = (walkN nm F p).map φ ∧ ∀ x ∈ walkN nm F p, x < m
  | 0, p, _, hp => ⟨rfl, hp⟩
  | F + 1, p, h0, hp => by
    have hl : p.getLastD 0 < m := by
      cases p with
      | nil => exact absurd rfl h0
      | cons x p =>
        rw [List.getLastD_cons]
        exact hp _ (List.getLastD_mem_cons ..)
    have el : (p.map φ).getLastD 0 = φ (p.getLastD 0) := by
      cases p with
      | nil => exact absurd rfl h0
      | cons x p =>
        rw [List.getLastD_eq_getLast?, List.getLastD_eq_getLast?, List.getLast?_map]
        cases e : (x :: p).getLast? with
        | none => simp at e
        | some z => rfl
    obtain ⟨s1, s2⟩ := hs _ hl
    unfold walkN
    rw [el, s2]
    by_cases c : gt nm (p.getLastD 0) ∈ p
    · rw [if_pos ((mem_mapN I hp s1).mpr c), if_pos c]
      exact ⟨rfl, hp⟩
    · rw [if_neg fun z => c ((mem_mapN I hp s1).mp z), if_neg c]
      have := walk_mapN F (p ++ [gt nm (p.getLastD 0)]) (by simp) fun x hx => by
        rcases List.mem_append.mp hx with z | z
        · exact hp x z
        · rw [List.mem_singleton.mp z]
          exact s1
      rw [List.map_append] at this
      exact this
theorem unshown_mapN {L : List Nat} (hL : ∀ x ∈ L, x < m) : unshownOf im (L.map φ) = (unshownOf nm L).map φ := by
  have e : (L.map φ).map (gt im) = (L.map (gt nm)).map φ := by
    rw [List.map_map, List.map_map]
    exact List.map_congr_left fun x hx => (hs x (hL x hx)).2
  unfold unshownOf
  rw [e]
  refine filter_mapN I hL fun x hx => ?_
  obtain ⟨y, hy, rfl⟩ := List.mem_map.mp hx
  exact (hs y (hL y hy)).1
theorem form_mapN {L : List Nat} (hL : ∀ x ∈ L, x < m) (h0 : L ≠ []) (F : Nat) : recsF im (L.map φ) F = (recsF nm L F).map φ ∧ shapeF im (L.map φ) F = shapeF nm L F := by
  have hu : ∀ x ∈ unshownOf nm L, x < m := fun x hx => hL x (List.mem_filter.mp hx).1
  have es : (if unshownOf im (L.map φ) = [] then gt (L.map φ) 0 else gt (unshownOf im (L.map φ)) 0) = φ (if unshownOf nm L = [] then gt L 0 else gt (unshownOf nm L) 0) ∧ (if unshownOf nm L = [] then gt L 0 else gt (unshownOf nm L) 0) < m := by
    rw [unshown_mapN I hs hL]
    by_cases c : unshownOf nm L = []
    · rw [if_pos (by rw [c]; rfl), if_pos c]
      have : 0 < L.length := List.length_pos_iff.mpr h0
      exact ⟨gt_map this, hL _ (gt_memN this)⟩
    · rw [if_neg (fun z => c (List.map_eq_nil_iff.mp z)), if_neg c]
      have : 0 < (unshownOf nm L).length := List.length_pos_iff.mpr c
      exact ⟨gt_map this, hu _ (gt_memN this)⟩
  have hp := walk_mapN I hs F [if unshownOf nm L = [] then gt L 0 else gt (unshownOf nm L) 0] (by simp) fun x hx => by
    rw [List.mem_singleton.mp hx]
    exact es.2
  have ep : pathF im (L.map φ) F = (pathF nm L F).map φ := by
    unfold pathF
    rw [es.1]
    exact hp.1
  have hp2 : ∀ x ∈ pathF nm L F, x < m := hp.2
  have er : recsF im (L.map φ) F = (recsF nm L F).map φ := by
    unfold recsF
    rw [ep, filter_mapN I hL hp2, List.map_append]
  have hr : ∀ x ∈ recsF nm L F, x < m := fun x hx => by
    rcases List.mem_append.mp hx with z | z
    · exact hp2 x z
    · exact hL x (List.mem_filter.mp z).1
  refine ⟨er, ?_⟩
  unfold shapeF
  rw [er, List.map_map]
  refine List.map_congr_left fun x hx => ?_
  show ((recsF nm L F).map φ).idxOf (gt im (φ x)) = _
  rw [(hs x (hr x hx)).2]
  exact idx_mapN I hr (hs x (hr x hx)).1
end
theorem map_range_gt (g : List Nat) : (List.range g.length).map (gt g) = g := by
  refine List.ext_getElem (by rw [List.length_map, List.length_range]) fun i h1 h2 => ?_
  rw [List.getElem_map, List.getElem_range]
  show g.getD i 0 = g[i]
  rw [List.getD_eq_getElem?_getD, List.getElem?_eq_getElem h2]
  rfl
theorem pat_step {im g : List Nat} (C : Closed im g) : ∀ j, j < g.length → gt (pat im g) j < g.length ∧ gt im (gt g j) = gt g (gt (pat im g) j) := by
  intro j hj
  have e : gt (pat im g) j = g.idxOf (gt im (gt g j)) := gt_map hj
  have h := gt_idx (C _ (gt_memN hj)).2
  rw [e]
  exact ⟨h.1, h.2.symm⟩
theorem asc_len : ∀ {g : List Nat} (k n : Nat), g.Pairwise (· < ·) → (∀ r ∈ g, k ≤ r ∧ r < n) → k ≤ n → g.length ≤ n - k
  | [], _, _, _, _, _ => Nat.zero_le _
  | x :: g, k, n, h, hb, hk => by
    rw [List.pairwise_cons] at h
    have hx := hb x (List.mem_cons_self ..)
    have := asc_len (g := g) (x + 1) n h.2 (fun r hr => ⟨h.1 r hr, (hb r (List.mem_cons_of_mem _ hr)).2⟩) (by omega)
    rw [List.length_cons]
    omega
def formLoc (nm : List Nat) (m F : Nat) : Bool := match shapesN.findIdx? fun s => decide (s = shapeF nm (List.range m) F) with
  | none => false
  | some w => decide (2 ≤ w ↔ nm ≠ [0] ∧ nm ≠ [1, 0]) && decide (srt (recsF nm (List.range m) F) = List.range m)
theorem form_all : ((List.range 5).all fun m => (patsN m).all fun nm => (List.range 10).all fun F => decide (F < m) || formLoc nm m F) = true := by decide +kernel
theorem form_pat {im g : List Nat} (C : Closed im g) (h0 : g ≠ []) (ha : g.Pairwise (· < ·)) (h4 : g.length ≤ 4) (h9 : im.length ≤ 9) (hp : pat im g ∈ patsN g.length) :
    ∃ w recs, formOf im g = some (w, recs) ∧ srt recs = g ∧ (2 ≤ w ↔ pat im g ≠ [0] ∧ pat im g ≠ [1, 0]) := by
  have hl : g.length ≤ im.length := by
    have := asc_len 0 im.length ha (fun r hr => ⟨Nat.zero_le _, (C r hr).1⟩) (Nat.zero_le _)
    omega
  have f := List.all_eq_true.mp (List.all_eq_true.mp (List.all_eq_true.mp form_all g.length (List.mem_range.mpr (by omega))) _ hp) im.length (List.mem_range.mpr (by omega))
  rw [Bool.or_eq_true, decide_eq_true_iff] at f
  rcases f with f | f
  · omega
  obtain ⟨er, es⟩ := form_mapN (asc_injN ha) (pat_step C) (L := List.range g.length) (fun x hx => List.mem_range.mp hx) (fun z => h0 (List.length_eq_zero_iff.mp (List.range_eq_nil.mp z))) im.length
  rw [map_range_gt] at er es
  unfold formLoc at f
  rw [← es] at f
  unfold formOf
  rw [if_neg (by omega), shape_F, recs_F]
  revert f
  cases shapesN.findIdx? fun s => decide (s = shapeF im g im.length) with
  | none => exact fun f => by cases f
  | some w =>
    intro f
    have f' : (decide (2 ≤ w ↔ pat im g ≠ [0] ∧ pat im g ≠ [1, 0]) && decide (srt (recsF (pat im g) (List.range g.length) im.length) = List.range g.length)) = true := f
    rw [Bool.and_eq_true, decide_eq_true_iff, decide_eq_true_iff] at f'
    refine ⟨w, _, rfl, ?_, f'.1⟩
    have p1 := (perm_srt (recsF (pat im g) (List.range g.length) im.length)).1
    rw [f'.2] at p1
    rw [er]
    have p2 := (p1.map (gt g)).symm.trans (List.Perm.of_eq rfl)
    rw [map_range_gt] at p2
    obtain ⟨q1, q2⟩ := perm_srt ((recsF (pat im g) (List.range g.length) im.length).map (gt g))
    have q3 := q1.trans p2
    refine List.Perm.eq_of_pairwise (fun a b _ _ h1 h2 => Nat.le_antisymm h1 h2) q2 (ha.imp fun h => Nat.le_of_lt h) q3
end Pm.Q
end
section
set_option Elab.async false
set_option linter.all false
namespace Pm.Q
/-! ### a saturated block has the groups of its pattern -/
theorem pat_len {im g : List Nat} : (pat im g).length = g.length := List.length_map _
structure Block (im b : List Nat) : Prop where
  img : Img im
  asc : b.Pairwise (· < ·)
  lt : ∀ r ∈ b, r < im.length
  sat : SatP im (· ∈ b)
section
variable {im b : List Nat} (B : Block im b)
include B
theorem Block.closed : Closed im b := fun r hr => ⟨B.lt r hr, (B.sat r (B.lt r hr)).mpr hr⟩
theorem Block.step : ∀ j, j < b.length → gt (pat im b) j < b.length ∧ gt im (gt b j) = gt b (gt (pat im b) j) := pat_step B.closed
theorem Block.locImg : Img (pat im b) := fun x hx => by
  rw [pat_len]
  obtain ⟨a, ha, rfl⟩ := List.mem_map.mp hx
  exact (gt_idx (B.closed a ha).2).1
theorem Block.lift {g : List Nat} (G : IsGroup (pat im b) g) : IsGroup im (g.map (gt b)) := by
  have hm : ∀ x ∈ g, x < b.length := fun x hx => by
    have := G.lt x hx
    rw [pat_len] at this
    exact this
  have I := asc_injN B.asc
  refine ⟨fun z => G.ne (List.map_eq_nil_iff.mp z), ?_, fun r hr => ?_, fun r hr => ?_, fun S hS a ha c hc sa => ?_⟩
  · rw [List.pairwise_map]
    exact G.asc.imp_of_mem fun {x y} hx hy hxy => asc_inj B.asc x y hxy (hm y hy)
  · obtain ⟨j, hj, rfl⟩ := List.mem_map.mp hr
    exact B.lt _ (gt_memN (hm j hj))
  · show gt im r ∈ g.map (gt b) ↔ r ∈ g.map (gt b)
    constructor
    · intro z
      have zb : gt im r ∈ b := by
        obtain ⟨j, hj, e⟩ := List.mem_map.mp z
        rw [← e]
        exact gt_memN (hm j hj)
      have rb := (B.sat r hr).mp zb
      obtain ⟨h1, h2⟩ := gt_idx rb
      obtain ⟨s1, s2⟩ := B.step _ h1
      rw [h2] at s2
      rw [s2] at z
      have z2 := (mem_mapN I hm s1).mp z
      have z3 := (G.sat (b.idxOf r) (by rw [pat_len]; exact h1)).mp z2
      rw [← h2]
      exact List.mem_map.mpr ⟨_, z3, rfl⟩
    · intro z
      obtain ⟨j, hj, rfl⟩ := List.mem_map.mp z
      rw [(B.step j (hm j hj)).2]
      exact List.mem_map.mpr ⟨_, (G.sat j (G.lt j hj)).mpr hj, rfl⟩
  · obtain ⟨i, hi, rfl⟩ := List.mem_map.mp ha
    obtain ⟨j, hj, rfl⟩ := List.mem_map.mp hc
    refine G.least (fun x => S (gt b x)) (fun x hx => ?_) i hi j hj sa
    rw [pat_len] at hx
    show S (gt b (gt (pat im b) x)) ↔ S (gt b x)
    rw [← (B.step x hx).2]
    exact hS _ (B.lt _ (gt_memN hx))
theorem Block.pat_lift {g : List Nat} (G : IsGroup (pat im b) g) : pat im (g.map (gt b)) = pat (pat im b) g := by
  have hm : ∀ x ∈ g, x < b.length := fun x hx => by
    have := G.lt x hx
    rw [pat_len] at this
    exact this
  have I := asc_injN B.asc
  unfold pat
  rw [List.map_map]
  refine List.map_congr_left fun x hx => ?_
  show (g.map (gt b)).idxOf (gt im (gt b x)) = _
  have s := B.step x (hm x hx)
  rw [s.2, idx_mapN I hm s.1]
  rfl
theorem Block.down {g : List Nat} (G : IsGroup im g) {r : Nat} (hr : r ∈ g) (hb : r ∈ b) : ∃ g' ∈ groupsOf (pat im b), g = g'.map (gt b) := by
  obtain ⟨h1, h2⟩ := gt_idx hb
  obtain ⟨g', hg', hm⟩ := groups_cover B.locImg (r := b.idxOf r) (by rw [pat_len]; exact h1)
  refine ⟨g', hg', ?_⟩
  refine G.eq (B.lift (groups_is B.locImg hg')) hr ?_
  rw [← h2]
  exact List.mem_map.mpr ⟨_, hm, rfl⟩
end
/-! ### writes of a flip -/
theorem gt_setM {xs : List Nat} {i j v : Nat} (h : i < xs.length) : gt (xs.set i v) j = if j = i then v else gt xs j := by
  show (xs.set i v).getD j 0 = _
  rw [List.getD_eq_getElem?_getD, List.getElem?_set]
  by_cases e : j = i
  · rw [if_pos e.symm, if_pos h, if_pos e]
    rfl
  · rw [if_neg (Ne.symm e), if_neg e]
    exact (List.getD_eq_getElem?_getD ..).symm
theorem amask_out {R new : List Nat} {f : Nat → Bool} {im : List Nat} (hR : ∀ r ∈ R, r < im.length) {r : Nat} (hr : r ∉ R) : ∀ i, i ≤ R.length → gt (amask R new f i im) r = gt im r
  | 0, _ => rfl
  | i + 1, hi => by
    show gt (if f i = true then _ else _) r = _
    split
    · rw [gt_setM (by rw [amask_len]; exact hR _ (gt_memN hi)), if_neg fun e => hr (by rw [e]; exact gt_memN hi)]
      exact amask_out hR hr i (by omega)
    · exact amask_out hR hr i (by omega)
theorem nodup_injN {R : List Nat} (nd : R.Nodup) : InjN (gt R) R.length := by
  intro i j hi hj e
  have e' : R[i] = R[j] := by
    have e2 : R.getD i 0 = R.getD j 0 := e
    rw [List.getD_eq_getElem?_getD, List.getD_eq_getElem?_getD, List.getElem?_eq_getElem hi, List.getElem?_eq_getElem hj] at e2
    exact e2
  rcases Nat.lt_trichotomy i j with z | z | z
  · exact absurd e' (List.pairwise_iff_getElem.mp nd i j hi hj z)
  · exact z
  · exact absurd e'.symm (List.pairwise_iff_getElem.mp nd j i hj hi z)
theorem amask_at {R new : List Nat} {f : Nat → Bool} {im : List Nat} (hR : ∀ r ∈ R, r < im.length) (nd : R.Nodup) {j : Nat} (hj : j < R.length) : ∀ i, i ≤ R.length → gt (amask R new f i im) (gt R j) = if j < i ∧ f j = true then gt new j else gt im (gt R j)
  | 0, _ => by
    rw [if_neg fun z => Nat.not_lt_zero _ z.1]
    rfl
  | i + 1, hi => by
    have ih := amask_at (f := f) (new := new) hR nd hj i (by omega)
    show gt (if f i = true then _ else _) (gt R j) = _
    by_cases hf : f i = true
    · rw [if_pos hf, gt_setM (by rw [amask_len]; exact hR _ (gt_memN hi))]
      by_cases e : j = i
      · subst e
        rw [if_pos rfl, if_pos ⟨Nat.lt_succ_self _, hf⟩]
      · rw [if_neg fun z => e (nodup_injN nd j i hj hi z), ih]
        by_cases c : j < i ∧ f j = true
        · rw [if_pos c, if_pos ⟨by omega, c.2⟩]
        · rw [if_neg c, if_neg fun z => c ⟨by omega, z.2⟩]
    · rw [if_neg hf, ih]
      by_cases c : j < i ∧ f j = true
      · rw [if_pos c, if_pos ⟨by omega, c.2⟩]
      · rw [if_neg c, if_neg fun z => ?_]
        by_cases e : j = i
        · rw [e] at z
          exact hf z.2
        · exact c ⟨by omega, z.2⟩
end Pm.Q
end
section
set_option Elab.async false
set_option maxRecDepth 100000
set_option linter.all false
namespace Pm.Q
def tornB (im g : List Nat) : Bool := decide (pat im g ≠ [0]) && decide (pat im g ≠ [1, 0])
def goodB (im g : List Nat) : Bool := decide (g.length ≤ 4) && decide (pat im g ∈ patsN g.length)
def allL (m : Nat) : Nat → (List Nat → Bool) → Bool
  | 0, p => p []
  | k + 1, p => (List.range m).all fun a => allL m k fun l => p (a :: l)
theorem allL_ok {m : Nat} : ∀ {k : Nat} {p : List Nat → Bool}, allL m k p = true → ∀ l : List Nat, l.length = k → (∀ x ∈ l, x < m) → p l = true
  | 0, p, h, l, hl, _ => by
    rw [List.length_eq_zero_iff.mp hl]
    exact h
  | k + 1, p, h, l, hl, hx => by
    cases l with
    | nil => cases hl
    | cons a l => exact allL_ok (List.all_eq_true.mp h a (List.mem_range.mpr (hx a (List.mem_cons_self ..)))) l (Nat.succ.inj hl) fun x q => hx x (List.mem_cons_of_mem _ q)
def formsL : List (List Nat × List Nat) := [([1, 0], [0, 1]), ([0, 1], [1, 0]), ([1, 0, 3, 2], [3, 2, 1, 0]), ([1, 0, 2], [2, 1, 0])]
def curL (o w c : List Nat) : List Nat := (List.range o.length).map fun j => if gt c j = 1 then gt w j else gt o j
def locOf (sig cur : List Nat) : List Nat := (List.range sig.length).map fun i => gt sig (gt cur (sig.idxOf i))
def wL (c : List Nat) : Nat := c.countP fun x => decide (x = 1)
def locB (o w c sig : List Nat) : Bool := (groupsOf (locOf sig (curL o w c))).all (goodB (locOf sig (curL o w c))) && decide ((groupsOf (locOf sig (curL o w c))).countP (tornB (locOf sig (curL o w c))) = if 0 < wL c ∧ wL c < o.length then 1 else 0)
theorem loc_all : (formsL.all fun f => allL 2 f.1.length fun c => allL f.1.length f.1.length fun sig => !decide sig.Nodup || locB f.1 f.2 c sig) = true := by decide +kernel
theorem start_all : groupsOf [0] = [[0]] ∧ groupsOf [1, 0] = [[0, 1]] := by decide +kernel
end Pm.Q
end
section
set_option Elab.async false
set_option maxRecDepth 100000
set_option linter.all false
namespace Pm.Q
theorem img_gt {im : List Nat} : Img im ↔ ∀ r, r < im.length → gt im r < im.length := by
  constructor
  · exact fun h r hr => h _ (gt_memN hr)
  · intro h x hx
    obtain ⟨i, hi, e⟩ := List.mem_iff_getElem.mp hx
    have := h i hi
    have e2 : gt im i = x := by
      show im.getD i 0 = x
      rw [List.getD_eq_getElem?_getD, List.getElem?_eq_getElem hi]
      exact e
    rw [e2] at this
    exact this
theorem srt_asc {R : List Nat} (nd : R.Nodup) : (srt R).Pairwise (· < ·) ∧ (srt R).Perm R := by
  obtain ⟨h1, h2⟩ := perm_srt R
  refine ⟨?_, h1⟩
  have nd2 : (srt R).Nodup := h1.nodup_iff.mpr nd
  exact List.Pairwise.imp₂ (fun a b h z => by omega) h2 nd2
/-- the order of a flip's records, and its pattern -/
def sigOf (R : List Nat) : List Nat := R.map (srt R).idxOf
theorem sig_ok {R : List Nat} (nd : R.Nodup) : (sigOf R).length = R.length ∧ (sigOf R).Nodup ∧ ∀ x ∈ sigOf R, x < R.length := by
  obtain ⟨h1, h2⟩ := srt_asc nd
  have hm : ∀ r ∈ R, r ∈ srt R := fun r hr => h2.mem_iff.mpr hr
  refine ⟨List.length_map _, ?_, fun x hx => ?_⟩
  · refine List.pairwise_map.mpr (nd.imp_of_mem fun {a b} ha hb ne e => ne ?_)
    rw [← (gt_idx (hm a ha)).2, ← (gt_idx (hm b hb)).2, e]
  · obtain ⟨r, hr, rfl⟩ := List.mem_map.mp hx
    rw [← h2.length_eq]
    exact (gt_idx (hm r hr)).1
theorem pat_loc {im R cur : List Nat} (nd : R.Nodup) (hc : ∀ j, j < R.length → gt cur j < R.length ∧ gt im (gt R j) = gt R (gt cur j)) : pat im (srt R) = locOf (sigOf R) cur := by
  obtain ⟨h1, h2⟩ := srt_asc nd
  have hm : ∀ r ∈ R, r ∈ srt R := fun r hr => h2.mem_iff.mpr hr
  have hl := h2.length_eq
  have nb : (srt R).Nodup := h2.nodup_iff.mpr nd
  unfold pat locOf
  rw [(sig_ok nd).1, ← hl]
  rw [show (srt R).map (fun a => (srt R).idxOf (gt im a)) = ((List.range (srt R).length).map (gt (srt R))).map (fun a => (srt R).idxOf (gt im a)) by rw [map_range_gt], List.map_map]
  refine List.map_congr_left fun i hi => ?_
  have hi' := List.mem_range.mp hi
  show (srt R).idxOf (gt im (gt (srt R) i)) = gt (sigOf R) (gt cur ((sigOf R).idxOf i))
  have hb : gt (srt R) i ∈ R := h2.mem_iff.mp (gt_memN hi')
  have e0 : (srt R).idxOf (gt (srt R) i) = i := by
    obtain ⟨a1, a2⟩ := gt_idx (gt_memN hi')
    exact nodup_injN nb _ _ a1 hi' a2
  have hs : i ∈ sigOf R := List.mem_map.mpr ⟨_, hb, e0⟩
  obtain ⟨j1, j2⟩ := gt_idx hs
  rw [(sig_ok nd).1] at j1
  generalize (sigOf R).idxOf i = j at j1 j2 ⊢
  have e1 : gt (sigOf R) j = (srt R).idxOf (gt R j) := gt_map j1
  rw [e1] at j2
  have e2 : gt (srt R) i = gt R j := by
    have := (gt_idx (hm _ (gt_memN j1))).2
    rw [j2] at this
    exact this
  obtain ⟨c1, c2⟩ := hc j j1
  rw [e2, c2]
  exact (gt_map (f := (srt R).idxOf) c1).symm
/-- which forms a flip has -/
theorem flip_form {n : Nat} {st busy R new : List Nat} (F : FlipOk n st busy R new) : ∃ f ∈ formsL, f.1.length = R.length ∧ new.length = R.length ∧ ∀ j, j < R.length → gt f.1 j < R.length ∧ gt f.2 j < R.length ∧ gt st (gt R j) = gt R (gt f.1 j) ∧ gt new j = gt R (gt f.2 j) := by
  rcases F.form with ⟨a, b, rfl, h1, h2, rfl⟩ | ⟨a, c, rfl, h1, h2, rfl⟩ | ⟨a, b, c, d, rfl, h1, h2, h3, h4, rfl⟩ | ⟨a, b, c, rfl, h1, h2, h3, rfl⟩
  · refine ⟨([1, 0], [0, 1]), by simp [formsL], rfl, rfl, fun j hj => ?_⟩
    match j, hj with
    | 0, _ => exact ⟨Nat.le_of_ble_eq_true rfl, Nat.le_of_ble_eq_true rfl, h1, rfl⟩
    | 1, _ => exact ⟨Nat.le_of_ble_eq_true rfl, Nat.le_of_ble_eq_true rfl, h2, rfl⟩
  · refine ⟨([0, 1], [1, 0]), by simp [formsL], rfl, rfl, fun j hj => ?_⟩
    match j, hj with
    | 0, _ => exact ⟨Nat.le_of_ble_eq_true rfl, Nat.le_of_ble_eq_true rfl, h1, rfl⟩
    | 1, _ => exact ⟨Nat.le_of_ble_eq_true rfl, Nat.le_of_ble_eq_true rfl, h2, rfl⟩
  · refine ⟨([1, 0, 3, 2], [3, 2, 1, 0]), by simp [formsL], rfl, rfl, fun j hj => ?_⟩
    match j, hj with
    | 0, _ => exact ⟨Nat.le_of_ble_eq_true rfl, Nat.le_of_ble_eq_true rfl, h1, rfl⟩
    | 1, _ => exact ⟨Nat.le_of_ble_eq_true rfl, Nat.le_of_ble_eq_true rfl, h2, rfl⟩
    | 2, _ => exact ⟨Nat.le_of_ble_eq_true rfl, Nat.le_of_ble_eq_true rfl, h3, rfl⟩
    | 3, _ => exact ⟨Nat.le_of_ble_eq_true rfl, Nat.le_of_ble_eq_true rfl, h4, rfl⟩
  · refine ⟨([1, 0, 2], [2, 1, 0]), by simp [formsL], rfl, rfl, fun j hj => ?_⟩
    match j, hj with
    | 0, _ => exact ⟨Nat.le_of_ble_eq_true rfl, Nat.le_of_ble_eq_true rfl, h1, rfl⟩
    | 1, _ => exact ⟨Nat.le_of_ble_eq_true rfl, Nat.le_of_ble_eq_true rfl, h2, rfl⟩
    | 2, _ => exact ⟨Nat.le_of_ble_eq_true rfl, Nat.le_of_ble_eq_true rfl, h3, rfl⟩
theorem cur_at {o w c : List Nat} {j : Nat} (h : j < o.length) : gt (curL o w c) j = if gt c j = 1 then gt w j else gt o j := by
  unfold curL
  rw [gt_map (by rw [List.length_range]; exact h), gt_range h]
/-- the groups inside the block of a flip -/
theorem inside {im R c : List Nat} {f : List Nat × List Nat} (B : Block im (srt R)) (nd : R.Nodup) (hf : f ∈ formsL) (hl : f.1.length = R.length) (cl : c.length = R.length) (c2 : ∀ x ∈ c, x < 2)
    (hb : ∀ j, j < R.length → gt f.1 j < R.length ∧ gt f.2 j < R.length) (hs : ∀ j, j < R.length → gt im (gt R j) = gt R (gt (curL f.1 f.2 c) j)) :
    (∀ g ∈ groupsOf im, gt g 0 ∈ srt R → goodB im g = true) ∧ ((groupsOf im).filter fun g => decide (gt g 0 ∈ srt R)).countP (tornB im) = if 0 < wL c ∧ wL c < R.length then 1 else 0 := by
  have hc : ∀ j, j < R.length → gt (curL f.1 f.2 c) j < R.length ∧ gt im (gt R j) = gt R (gt (curL f.1 f.2 c) j) := fun j hj => ⟨by
    rw [cur_at (by rw [hl]; exact hj)]
    split
    · exact (hb j hj).2
    · exact (hb j hj).1, hs j hj⟩
  have ep := pat_loc nd hc
  obtain ⟨s1, s2, s3⟩ := sig_ok nd
  have h1 := List.all_eq_true.mp loc_all f hf
  have h2 := allL_ok h1 c (by rw [hl]; exact cl) c2
  have h3 := allL_ok h2 (sigOf R) (by rw [hl]; exact s1) (fun x hx => by rw [hl]; exact s3 x hx)
  rw [decide_eq_true s2, Bool.not_true, Bool.false_or] at h3
  unfold locB at h3
  rw [← ep, Bool.and_eq_true, decide_eq_true_iff, List.all_eq_true, hl] at h3
  obtain ⟨k1, k2⟩ := h3
  refine ⟨fun g hg hm => ?_, ?_⟩
  · have G := groups_is B.img hg
    obtain ⟨g', hg', rfl⟩ := B.down G (gt_memN (List.length_pos_iff.mpr G.ne)) hm
    have := k1 g' hg'
    unfold goodB at this ⊢
    rw [B.pat_lift (groups_is B.locImg hg'), List.length_map]
    exact this
  · rw [← k2]
    have e : ((groupsOf im).filter fun g => decide (gt g 0 ∈ srt R)).Perm ((groupsOf (pat im (srt R))).map fun g => g.map (gt (srt R))) := by
      refine (List.perm_ext_iff_of_nodup ((groups_nodup B.img).filter _) ?_).mpr fun g => ?_
      · refine List.pairwise_map.mpr ((groups_nodup B.locImg).imp_of_mem fun {a b} ha hb ne e => ne ?_)
        have Ga := groups_is B.locImg ha
        have Gb := groups_is B.locImg hb
        refine asc_ext Ga.asc Gb.asc fun x => ?_
        have bd : ∀ {a : List Nat}, IsGroup (pat im (srt R)) a → ∀ x ∈ a, x < (srt R).length := fun G x hx => by
          have := G.lt x hx
          rw [pat_len] at this
          exact this
        constructor
        · intro hx
          have hx' := (mem_mapN (asc_injN B.asc) (bd Ga) (bd Ga x hx)).mpr hx
          rw [e] at hx'
          exact (mem_mapN (asc_injN B.asc) (bd Gb) (bd Ga x hx)).mp hx'
        · intro hx
          have hx' := (mem_mapN (asc_injN B.asc) (bd Gb) (bd Gb x hx)).mpr hx
          rw [← e] at hx'
          exact (mem_mapN (asc_injN B.asc) (bd Ga) (bd Gb x hx)).mp hx'
      · rw [List.mem_filter, decide_eq_true_iff, List.mem_map]
        constructor
        · rintro ⟨hg, hm⟩
          have G := groups_is B.img hg
          obtain ⟨g', hg', e⟩ := B.down G (gt_memN (List.length_pos_iff.mpr G.ne)) hm
          exact ⟨g', hg', e.symm⟩
        · rintro ⟨g', hg', rfl⟩
          have G' := groups_is B.locImg hg'
          refine ⟨(groups_iff B.img).mpr (B.lift G'), ?_⟩
          have h0 : 0 < g'.length := List.length_pos_iff.mpr G'.ne
          rw [gt_map h0]
          have := G'.lt _ (gt_memN h0)
          rw [pat_len] at this
          exact gt_memN this
    rw [e.countP_eq, List.countP_map]
    refine List.countP_congr fun g hg => ?_
    show tornB im (g.map (gt (srt R))) = true ↔ tornB (pat im (srt R)) g = true
    unfold tornB
    rw [B.pat_lift (groups_is B.locImg hg)]
/-- a group beside the block is a group of every image that agrees there -/
theorem outside {im im' b g : List Nat} (B : Block im b) (B' : Block im' b) (hl : im.length = im'.length) (hs : ∀ r, r < im.length → r ∉ b → gt im r = gt im' r) (G : IsGroup im g) (hg : ∀ r ∈ g, r ∉ b) : IsGroup im' g := by
  refine ⟨G.ne, G.asc, fun r hr => by rw [← hl]; exact G.lt r hr, fun r hr => ?_, fun S hS a ha c hc sa => ?_⟩
  · rw [← hl] at hr
    show gt im' r ∈ g ↔ r ∈ g
    by_cases hb : r ∈ b
    · have := (B'.sat r (by rw [← hl]; exact hr)).mpr hb
      exact ⟨fun z => absurd this (hg _ z), fun z => absurd hb (hg _ z)⟩
    · rw [← hs r hr hb]
      exact G.sat r hr
  · have q := G.least (fun r => r ∉ b ∧ S r) (fun r hr => ?_) a ha c hc ⟨hg a ha, sa⟩
    · exact q.2
    · have hb := B.sat r hr
      show (gt im r ∉ b ∧ S (gt im r)) ↔ (r ∉ b ∧ S r)
      by_cases z : r ∈ b
      · exact ⟨fun u => absurd (hb.mpr z) u.1, fun u => absurd z u.1⟩
      · have s := hS r (by rw [← hl]; exact hr)
        rw [← hs r hr z] at s
        exact ⟨fun u => ⟨z, s.mp u.2⟩, fun u => ⟨fun y => z (hb.mp y), s.mpr u.2⟩⟩
/-- a group with its least record beside the block is beside it -/
theorem beside {im b g : List Nat} (B : Block im b) (G : IsGroup im g) (h : gt g 0 ∉ b) : ∀ r ∈ g, r ∉ b := fun r hr hb => h (G.least (· ∈ b) B.sat r hr _ (gt_memN (List.length_pos_iff.mpr G.ne)) hb)
theorem pat_same {im im' b g : List Nat} (hs : ∀ r, r < im.length → r ∉ b → gt im r = gt im' r) (G : IsGroup im g) (hg : ∀ r ∈ g, r ∉ b) : pat im g = pat im' g := by
  unfold pat
  exact List.map_congr_left fun r hr => by rw [hs r (G.lt r hr) (hg r hr)]
theorem outside_count {im im' b : List Nat} (B : Block im b) (B' : Block im' b) (hl : im.length = im'.length) (hs : ∀ r, r < im.length → r ∉ b → gt im r = gt im' r) :
    ((groupsOf im).filter fun g => !decide (gt g 0 ∈ b)).countP (tornB im) = ((groupsOf im').filter fun g => !decide (gt g 0 ∈ b)).countP (tornB im') := by
  have hs' : ∀ r, r < im'.length → r ∉ b → gt im' r = gt im r := fun r hr z => (hs r (by rw [hl]; exact hr) z).symm
  have e : ((groupsOf im).filter fun g => !decide (gt g 0 ∈ b)).Perm ((groupsOf im').filter fun g => !decide (gt g 0 ∈ b)) := by
    refine (List.perm_ext_iff_of_nodup ((groups_nodup B.img).filter _) ((groups_nodup B'.img).filter _)).mpr fun g => ?_
    rw [List.mem_filter, List.mem_filter, Bool.not_eq_true', decide_eq_false_iff_not, groups_iff B.img, groups_iff B'.img]
    exact ⟨fun ⟨G, h⟩ => ⟨outside B B' hl hs G (beside B G h), h⟩, fun ⟨G, h⟩ => ⟨outside B' B hl.symm hs' G (beside B' G h), h⟩⟩
  rw [← e.countP_eq]
  refine List.countP_congr fun g hg => ?_
  obtain ⟨g1, g2⟩ := List.mem_filter.mp hg
  rw [Bool.not_eq_true', decide_eq_false_iff_not] at g2
  have G := groups_is B.img g1
  unfold tornB
  rw [pat_same hs G (beside B G g2)]
end Pm.Q
end
section
set_option Elab.async false
set_option maxRecDepth 100000
set_option linter.all false
namespace Pm.Q
structure Told (n : Nat) (st busy im : List Nat) (h : Nat) : Prop where
  len : im.length = n
  img : Img im
  out : ∀ r, r < n → r ∉ busy → gt im r = gt st r
  clos : ∀ r ∈ busy, gt im r ∈ busy
  good : ∀ g ∈ groupsOf im, goodB im g = true
  count : (groupsOf im).countP (tornB im) = h
theorem start_group {n : Nat} {st g : List Nat} (S : StOk n st) (hI : Img st) (G : IsGroup st g) : goodB st g = true ∧ tornB st g = false := by
  have h0 : 0 < g.length := List.length_pos_iff.mpr G.ne
  have hr := gt_memN h0
  have hr2 := G.lt _ hr
  generalize gt g 0 = r at hr hr2
  have hrn : r < n := by rw [← S.len]; exact hr2
  obtain ⟨q1, q2⟩ := S.inv r hrn
  have key : ∀ b : List Nat, Block st b → r ∈ b → (pat st b = [0] ∨ pat st b = [1, 0]) → goodB st g = true ∧ tornB st g = false := by
    intro b B hb hp
    obtain ⟨g', hg', rfl⟩ := B.down G hr hb
    have e := B.pat_lift (groups_is B.locImg hg')
    unfold goodB tornB
    rw [e, List.length_map]
    rcases hp with hp | hp
    · rw [hp, start_all.1] at hg'
      rw [List.mem_singleton.mp hg', hp]
      decide
    · rw [hp, start_all.2] at hg'
      rw [List.mem_singleton.mp hg', hp]
      decide
  by_cases e : gt st r = r
  · refine key [r] ⟨hI, List.pairwise_singleton .., fun x hx => by rw [List.mem_singleton.mp hx]; exact hr2, fun x hx => ?_⟩ (List.mem_singleton.mpr rfl) (.inl ?_)
    · show gt st x ∈ [r] ↔ x ∈ [r]
      rw [List.mem_singleton, List.mem_singleton]
      rw [S.len] at hx
      have := (S.inv x hx).2
      constructor
      · intro z
        rw [z, e] at this
        exact this.symm
      · intro z
        rw [z]
        exact e
    · show [[r].idxOf (gt st r)] = [0]
      rw [e, List.idxOf_cons_self]
  · have hac : ∃ a c, a < c ∧ gt st a = c ∧ gt st c = a ∧ c < n ∧ (r = a ∨ r = c) := by
      rcases Nat.lt_or_ge r (gt st r) with z | z
      · exact ⟨r, gt st r, z, rfl, q2, q1, .inl rfl⟩
      · exact ⟨gt st r, r, by omega, q2, rfl, hrn, .inr rfl⟩
    obtain ⟨a, c, hlt, h1, h2, hcn, hr3⟩ := hac
    refine key [a, c] ⟨hI, List.pairwise_cons.mpr ⟨fun x hx => by rw [List.mem_singleton.mp hx]; exact hlt, List.pairwise_singleton ..⟩, fun x hx => ?_, fun x hx => ?_⟩ ?_ (.inr ?_)
    · rw [S.len]
      simp only [List.mem_cons, List.not_mem_nil, or_false] at hx
      omega
    · show gt st x ∈ [a, c] ↔ x ∈ [a, c]
      simp only [List.mem_cons, List.not_mem_nil, or_false]
      rw [S.len] at hx
      have := (S.inv x hx).2
      constructor
      · rintro (z | z)
        · rw [z, h1] at this
          exact .inr this.symm
        · rw [z, h2] at this
          exact .inl this.symm
      · rintro (z | z)
        · rw [z]
          exact .inr h1
        · rw [z]
          exact .inl h2
    · simp only [List.mem_cons, List.not_mem_nil, or_false]
      exact hr3
    · show [[a, c].idxOf (gt st a), [a, c].idxOf (gt st c)] = [1, 0]
      rw [h1, h2, List.idxOf_cons_self]
      have : (a == c) = false := beq_false_of_ne (Nat.ne_of_lt hlt)
      rw [List.idxOf_cons, this, cond_false, List.idxOf_cons_self]
theorem wL_mask (f : Nat → Bool) : ∀ k, wL ((List.range k).map fun j => if f j = true then 1 else 0) = wmask f k
  | 0 => rfl
  | k + 1 => by
    unfold wL
    rw [List.range_succ, List.map_append, List.countP_append]
    have ih := wL_mask f k
    unfold wL at ih
    rw [ih]
    show _ = if f k = true then wmask f k + 1 else wmask f k
    by_cases h : f k = true
    · rw [if_pos h]
      simp [h]
    · rw [if_neg h]
      simp [h]
theorem built_told {n : Nat} {st busy im : List Nat} {h : Nat} (S : StOk n st) (b : Built n st busy im h) : Told n st busy im h := by
  induction b with
  | start =>
    have hI : Img st := img_gt.mpr fun r hr => by
      rw [S.len] at hr ⊢
      exact (S.inv r hr).1
    refine ⟨S.len, hI, fun _ _ _ => rfl, fun r hr => (by cases hr), fun g hg => (start_group S hI (groups_is hI hg)).1, List.countP_eq_zero.mpr fun g hg z => ?_⟩
    rw [(start_group S hI (groups_is hI hg)).2] at z
    cases z
  | @flip busy im h R new f b ok ih =>
    obtain ⟨f0, hf, fl, nl, hform⟩ := flip_form ok
    have nd := ok.nd
    obtain ⟨a1, a2⟩ := srt_asc nd
    have hR : ∀ r ∈ R, r < im.length := fun r hr => by rw [ih.len]; exact (ok.free r hr).1
    have mem : ∀ r, r ∈ srt R ↔ r ∈ R := fun r => a2.mem_iff
    have imR : ∀ r ∈ R, gt im r = gt st r := fun r hr => ih.out r (ok.free r hr).1 (ok.free r hr).2
    have satR : ∀ r, r < n → (gt im r ∈ R ↔ r ∈ R) := fun r hr => by
      constructor
      · intro z
        by_cases hb : r ∈ busy
        · exact absurd (ih.clos r hb) (ok.free _ z).2
        · rw [ih.out r hr hb] at z
          have := flip_closed ok _ z
          rw [(S.inv r hr).2] at this
          exact this
      · intro z
        rw [imR r z]
        exact flip_closed ok r z
    have atR : ∀ j, j < R.length → gt (amask R new f R.length im) (gt R j) = if f j = true then gt new j else gt st (gt R j) := fun j hj => by
      rw [amask_at hR nd hj R.length (Nat.le_refl _), imR _ (gt_memN hj)]
      by_cases c : f j = true
      · rw [if_pos ⟨hj, c⟩, if_pos c]
      · rw [if_neg fun z => c z.2, if_neg c]
    have offR : ∀ r, r ∉ R → gt (amask R new f R.length im) r = gt im r := fun r hr => amask_out hR hr R.length (Nat.le_refl _)
    have inR : ∀ r ∈ R, gt (amask R new f R.length im) r ∈ R := fun r hr => by
      obtain ⟨j1, j2⟩ := gt_idx hr
      rw [← j2, atR _ j1]
      split
      · rw [(hform _ j1).2.2.2]
        exact gt_memN (hform _ j1).2.1
      · rw [(hform _ j1).2.2.1]
        exact gt_memN (hform _ j1).1
    have len' : (amask R new f R.length im).length = im.length := amask_len _
    have img' : Img (amask R new f R.length im) := img_gt.mpr fun r hr => by
      rw [len'] at hr ⊢
      by_cases z : r ∈ R
      · exact hR _ (inR r z)
      · rw [offR r z]
        exact ih.img _ (gt_memN hr)
    have B : Block im (srt R) := ⟨ih.img, a1, fun r hr => hR r ((mem r).mp hr), fun r hr => by
      show gt im r ∈ srt R ↔ r ∈ srt R
      rw [mem, mem]
      exact satR r (by rw [← ih.len]; exact hr)⟩
    have B' : Block (amask R new f R.length im) (srt R) := ⟨img', a1, fun r hr => by rw [len']; exact hR r ((mem r).mp hr), fun r hr => by
      show gt (amask R new f R.length im) r ∈ srt R ↔ r ∈ srt R
      rw [mem, mem]
      by_cases z : r ∈ R
      · exact ⟨fun _ => z, fun _ => inR r z⟩
      · rw [offR r z]
        rw [len', ih.len] at hr
        exact satR r hr⟩
    have hb : ∀ j, j < R.length → gt f0.1 j < R.length ∧ gt f0.2 j < R.length := fun j hj => ⟨(hform j hj).1, (hform j hj).2.1⟩
    obtain ⟨_, c0⟩ := inside (c := List.replicate R.length 0) B nd hf fl List.length_replicate (fun x hx => by rw [List.eq_of_mem_replicate hx]; decide) hb fun j hj => by
      rw [cur_at (by rw [fl]; exact hj)]
      have : gt (List.replicate R.length 0) j = 0 := by
        show (List.replicate R.length 0).getD j 0 = 0
        rw [List.getD_eq_getElem?_getD, List.getElem?_replicate]
        split <;> rfl
      rw [this, if_neg (by decide), imR _ (gt_memN hj)]
      exact (hform j hj).2.2.1
    obtain ⟨g1, c1⟩ := inside (c := (List.range R.length).map fun j => if f j = true then 1 else 0) B' nd hf fl (by rw [List.length_map, List.length_range]) (fun x hx => by
        obtain ⟨j, _, rfl⟩ := List.mem_map.mp hx
        split <;> decide) hb fun j hj => by
      rw [cur_at (by rw [fl]; exact hj), atR j hj, gt_map (by rw [List.length_range]; exact hj), gt_range hj]
      by_cases c : f j = true
      · rw [if_pos c, if_pos c, if_pos rfl]
        exact (hform j hj).2.2.2
      · rw [if_neg c, if_neg c, if_neg (by decide)]
        exact (hform j hj).2.2.1
    have w0 : wL (List.replicate R.length 0) = 0 := by
      unfold wL
      refine List.countP_eq_zero.mpr fun x hx => ?_
      rw [List.eq_of_mem_replicate hx]
      decide
    rw [w0, if_neg fun z => Nat.lt_irrefl _ z.1] at c0
    rw [wL_mask] at c1
    have hs : ∀ r, r < im.length → r ∉ srt R → gt im r = gt (amask R new f R.length im) r := fun r _ z => (offR r fun y => z ((mem r).mpr y)).symm
    have oc := outside_count B B' len'.symm hs
    refine ⟨len'.trans ih.len, img', fun r hr z => ?_, fun r hr => ?_, fun g hg => ?_, ?_⟩
    · rw [offR r fun y => z (List.mem_append_right _ y)]
      exact ih.out r hr fun y => z (List.mem_append_left _ y)
    · rcases List.mem_append.mp hr with z | z
      · rw [offR r fun y => (ok.free r y).2 z]
        exact List.mem_append_left _ (ih.clos r z)
      · exact List.mem_append_right _ (inR r z)
    · by_cases z : gt g 0 ∈ srt R
      · exact g1 g hg z
      · have G := groups_is img' hg
        have hg2 := beside B' G z
        have hs2 : ∀ r, r < (amask R new f R.length im).length → r ∉ srt R → gt (amask R new f R.length im) r = gt im r := fun r hr y => (hs r (by rw [← len']; exact hr) y).symm
        have G0 := outside B' B len' hs2 G hg2
        have := ih.good g ((groups_iff ih.img).mpr G0)
        unfold goodB at this ⊢
        rw [← pat_same hs2 G hg2] at this
        exact this
    · have e0 := List.countP_eq_countP_filter_add (groupsOf im) (tornB im) fun g => decide (gt g 0 ∈ srt R)
      have e1 := List.countP_eq_countP_filter_add (groupsOf (amask R new f R.length im)) (tornB (amask R new f R.length im)) fun g => decide (gt g 0 ∈ srt R)
      rw [e1, c1, ← oc]
      rw [ih.count, c0, Nat.zero_add] at e0
      rw [← e0]
      split <;> omega
end Pm.Q
end
section
set_option Elab.async false
set_option maxRecDepth 100000
set_option linter.all false
namespace Pm.Q
theorem forms_list {im : List Nat} : ∀ gs : List (List Nat), (∀ g ∈ gs, ∃ w recs, formOf im g = some (w, recs) ∧ srt recs = g ∧ (2 ≤ w ↔ pat im g ≠ [0] ∧ pat im g ≠ [1, 0])) →
    (gs.all fun g => (formOf im g).isSome) = true ∧ ((gs.filterMap (formOf im)).filter fun p => decide (2 ≤ p.1)).length = gs.countP (tornB im) ∧ (gs.filterMap (formOf im)).map (fun p => srt p.2) = gs
  | [], _ => ⟨rfl, rfl, rfl⟩
  | g :: gs, h => by
    obtain ⟨w, recs, h1, h2, h3⟩ := h g (List.mem_cons_self ..)
    obtain ⟨i1, i2, i3⟩ := forms_list gs fun g hg => h g (List.mem_cons_of_mem _ hg)
    refine ⟨?_, ?_, ?_⟩
    · rw [List.all_cons, i1, h1]
      rfl
    · rw [List.filterMap_cons_some h1, List.filter_cons, List.countP_cons, ← i2]
      by_cases c : 2 ≤ w
      · rw [if_pos (decide_eq_true c), if_pos, List.length_cons]
        unfold tornB
        rw [decide_eq_true (h3.mp c).1, decide_eq_true (h3.mp c).2]
        rfl
      · rw [if_neg (fun z => c (of_decide_eq_true z)), if_neg, Nat.add_zero]
        intro z
        unfold tornB at z
        rw [Bool.and_eq_true, decide_eq_true_iff, decide_eq_true_iff] at z
        exact c (h3.mpr z)
    · rw [List.filterMap_cons_some h1, List.map_cons, i3, h2]
theorem whole_forms {im : List Nat} (hI : Img im) (h9 : im.length ≤ 9) (W : ∀ g ∈ groupsOf im, goodB im g = true) : repairable im = true ∧ (tornOf im).length = (groupsOf im).countP (tornB im) ∧ (piecesOf im).map (fun p => srt p.2) = groupsOf im :=
  forms_list _ fun g hg => by
    have G := groups_is hI hg
    have w := W g hg
    unfold goodB at w
    rw [Bool.and_eq_true, decide_eq_true_iff, decide_eq_true_iff] at w
    exact form_pat (groups_closed hI hg).1 G.ne G.asc w.1 h9 w.2
/-! ### the numbers -/
def termG (T im : List Nat) (g L : List Nat) : Nat :=
  ((List.range (g.length - 1)).map fun i => blockI T L.length (i + 1)).sum + (setNumber (g.map L.idxOf) L.length * fcN g.length + (patsN g.length).idxOf (pat im g)) * gt T (L.length - g.length)
def valG (T im : List Nat) : List (List Nat) → List Nat → Nat
  | [], _ => 0
  | g :: gs, L => termG T im g L + valG T im gs (L.filter fun r => decide (r ∉ g))
/-- the groups that are left, and their records -/
structure Left (im : List Nat) (gs : List (List Nat)) (L : List Nat) : Prop where
  asc : L.Pairwise (· < ·)
  grp : ∀ g ∈ gs, IsGroup im g ∧ goodB im g = true
  ord : gs.Pairwise fun g h => gt g 0 < gt h 0
  mem : ∀ r, r ∈ L ↔ ∃ g ∈ gs, r ∈ g
section
variable {im g L : List Nat} {gs : List (List Nat)}
theorem Left.sub (E : Left im (g :: gs) L) {r : Nat} (h : r ∈ g) : r ∈ L := (E.mem r).mpr ⟨g, List.mem_cons_self .., h⟩
theorem Left.next (E : Left im (g :: gs) L) : Left im gs (L.filter fun r => decide (r ∉ g)) := by
  have o := List.pairwise_cons.mp E.ord
  refine ⟨E.asc.filter _, fun h hh => E.grp h (List.mem_cons_of_mem _ hh), o.2, fun r => ?_⟩
  rw [List.mem_filter, decide_eq_true_iff, E.mem]
  constructor
  · rintro ⟨⟨h, hh, hr⟩, hn⟩
    rcases List.mem_cons.mp hh with e | e
    · rw [e] at hr
      exact absurd hr hn
    · exact ⟨h, e, hr⟩
  · rintro ⟨h, hh, hr⟩
    refine ⟨⟨h, List.mem_cons_of_mem _ hh, hr⟩, fun z => ?_⟩
    have e := (E.grp g (List.mem_cons_self ..)).1.eq (E.grp h (List.mem_cons_of_mem _ hh)).1 z hr
    have := o.1 h hh
    rw [e] at this
    exact Nat.lt_irrefl _ this
theorem Left.take (E : Left im (g :: gs) L) : (L.filter fun r => decide (r ∈ g)) = g := asc_ext (E.asc.filter _) (E.grp g (List.mem_cons_self ..)).1.asc fun x => by
  rw [List.mem_filter, decide_eq_true_iff]
  exact ⟨fun z => z.2, fun z => ⟨E.sub z, z⟩⟩
theorem filter_two (g : List Nat) : ∀ L : List Nat, L.length = (L.filter fun r => decide (r ∈ g)).length + (L.filter fun r => decide (r ∉ g)).length
  | [] => rfl
  | x :: L => by
    have ih := filter_two g L
    by_cases h : x ∈ g
    · rw [List.filter_cons_of_pos (by simp [h]), List.filter_cons_of_neg (by simp [h]), List.length_cons, List.length_cons]
      omega
    · rw [List.filter_cons_of_neg (by simp [h]), List.filter_cons_of_pos (by simp [h]), List.length_cons, List.length_cons]
      omega
theorem Left.len (E : Left im (g :: gs) L) : (L.filter fun r => decide (r ∉ g)).length = L.length - g.length ∧ g.length ≤ L.length ∧ 1 ≤ g.length := by
  have h := filter_two g L
  rw [E.take] at h
  have : 0 < g.length := List.length_pos_iff.mpr (E.grp g (List.mem_cons_self ..)).1.ne
  omega
/-- the places of the first group -/
theorem Left.places (E : Left im (g :: gs) L) : ∃ t, g.map L.idxOf = 0 :: t ∧ t.length = g.length - 1 ∧ (∀ x ∈ t, x < L.length) ∧ (0 :: t).Pairwise (· < ·) ∧ (g.map L.idxOf).map (gt L) = g := by
  have G := (E.grp g (List.mem_cons_self ..)).1
  have o := List.pairwise_cons.mp E.ord
  have hL : ∀ x ∈ g, x ∈ L := fun x hx => E.sub hx
  have pw : (g.map L.idxOf).Pairwise (· < ·) := by
    refine List.pairwise_map.mpr (G.asc.imp_of_mem fun {a b} ha hb lt => ?_)
    obtain ⟨a1, a2⟩ := gt_idx (hL a ha)
    obtain ⟨b1, b2⟩ := gt_idx (hL b hb)
    rcases Nat.lt_trichotomy (L.idxOf a) (L.idxOf b) with z | z | z
    · exact z
    · rw [z, b2] at a2
      omega
    · have := asc_inj E.asc _ _ z a1
      rw [a2, b2] at this
      omega
  have hm : (g.map L.idxOf).map (gt L) = g := by
    rw [List.map_map]
    have : g.map (gt L ∘ L.idxOf) = g.map id := List.map_congr_left fun x hx => (gt_idx (hL x hx)).2
    rw [this, List.map_id]
  cases g with
  | nil => exact absurd rfl G.ne
  | cons x g =>
    have hx : x ∈ L := hL x (List.mem_cons_self ..)
    have hpos : 0 < L.length := List.length_pos_of_mem hx
    have h0 : L.idxOf x = 0 := by
      obtain ⟨a1, a2⟩ := gt_idx hx
      rcases Nat.eq_zero_or_pos (L.idxOf x) with z | z
      · exact z
      · have lt := asc_inj E.asc 0 _ z a1
        rw [a2] at lt
        obtain ⟨h, hh, hr⟩ := (E.mem _).mp (gt_memN hpos)
        have Hh := (E.grp h hh).1
        have ge : gt h 0 ≤ gt L 0 := by
          obtain ⟨i1, i2⟩ := gt_idx hr
          rcases Nat.eq_zero_or_pos (h.idxOf (gt L 0)) with u | u
          · rw [u] at i2
            omega
          · have := asc_inj Hh.asc 0 _ u i1
            omega
        have le : gt (x :: g) 0 ≤ gt h 0 := by
          rcases List.mem_cons.mp hh with e | e
          · rw [e]
            exact Nat.le_refl _
          · exact Nat.le_of_lt (o.1 h e)
        have ex : gt (x :: g) 0 = x := rfl
        omega
    refine ⟨g.map L.idxOf, by rw [List.map_cons, h0], by rw [List.length_map, List.length_cons]; omega, fun y hy => ?_, ?_, hm⟩
    · obtain ⟨z, hz, rfl⟩ := List.mem_map.mp hy
      exact (gt_idx (hL z (List.mem_cons_of_mem _ hz))).1
    · rw [List.map_cons, h0] at pw
      exact pw
end
end Pm.Q
end
section
set_option Elab.async false
set_option maxRecDepth 100000
set_option linter.all false
namespace Pm.Q
def setsB (n many : Nat) : Bool := allL n (many - 1) fun t => !decide ((0 :: t).Pairwise (· < ·)) || (decide (setNumber (0 :: t) n < cN (n - 1) (many - 1)) && decide (setAt (setNumber (0 :: t) n) n many = some (0 :: t)))
theorem sets_round : ((List.range 10).all fun n => (List.range 5).all fun many => decide (many < 1 ∨ n < many) || setsB n many) = true := by decide +kernel
theorem totals_sum : ((List.range 10).all fun N => (List.range (N + 1)).all fun n => decide (1 ≤ gt (totalsN N) n) && (decide (n = 0) || decide (((List.range (min n 4)).map fun i => blockI (totalsN N) n (i + 1)).sum = gt (totalsN N) n))) = true := by decide +kernel
theorem pats_len : ((List.range 5).all fun m => decide ((patsN m).length = fcN m) && (patsN m).all fun p => decide (p.length = m) && p.all fun x => decide (x < m)) = true := by decide +kernel
theorem set_facts {n many : Nat} {t : List Nat} (h9 : n ≤ 9) (h1 : 1 ≤ many) (h4 : many ≤ 4) (hn : many ≤ n) (tl : t.length = many - 1) (tn : ∀ x ∈ t, x < n) (pw : (0 :: t).Pairwise (· < ·)) : setNumber (0 :: t) n < cN (n - 1) (many - 1) ∧ setAt (setNumber (0 :: t) n) n many = some (0 :: t) := by
  have f := List.all_eq_true.mp (List.all_eq_true.mp sets_round n (List.mem_range.mpr (by omega))) many (List.mem_range.mpr (by omega))
  rw [Bool.or_eq_true, decide_eq_true_iff] at f
  rcases f with f | f
  · omega
  · have g := allL_ok f t tl tn
    rw [decide_eq_true pw, Bool.not_true, Bool.false_or, Bool.and_eq_true, decide_eq_true_iff, decide_eq_true_iff] at g
    exact g
theorem tot_facts {N n : Nat} (h9 : N ≤ 9) (hn : n ≤ N) : 1 ≤ gt (totalsN N) n ∧ (n ≠ 0 → ((List.range (min n 4)).map fun i => blockI (totalsN N) n (i + 1)).sum = gt (totalsN N) n) := by
  have f := List.all_eq_true.mp (List.all_eq_true.mp totals_sum N (List.mem_range.mpr (by omega))) n (List.mem_range.mpr (by omega))
  rw [Bool.and_eq_true, Bool.or_eq_true, decide_eq_true_iff, decide_eq_true_iff, decide_eq_true_iff] at f
  exact ⟨f.1, fun h => f.2.resolve_left h⟩
theorem pat_facts {m : Nat} (h4 : m ≤ 4) : (patsN m).length = fcN m ∧ ∀ p ∈ patsN m, p.length = m ∧ ∀ x ∈ p, x < m := by
  have f := List.all_eq_true.mp pats_len m (List.mem_range.mpr (by omega))
  rw [Bool.and_eq_true, decide_eq_true_iff, List.all_eq_true] at f
  refine ⟨f.1, fun p hp => ?_⟩
  have g := f.2 p hp
  rw [Bool.and_eq_true, decide_eq_true_iff, List.all_eq_true] at g
  exact ⟨g.1, fun x hx => of_decide_eq_true (g.2 x hx)⟩
theorem iaIn_ok (T : List Nat) (n : Nat) : ∀ (d f k b : Nat), d < f → k + d ≤ n → b < blockI T n (k + d) → iaIn T n f (((List.range d).map fun i => blockI T n (k + i)).sum + b) k = some (b, k + d)
  | 0, 0, _, _, h, _, _ => absurd h (Nat.lt_irrefl _)
  | 0, f + 1, k, b, _, hk, hb => by
    show (if n < k then none else if blockI T n k ≤ (0 + b) then iaIn T n f (0 + b - blockI T n k) (k + 1) else some (0 + b, k)) = some (b, k + 0)
    rw [Nat.add_zero] at hb hk
    rw [if_neg (by omega), if_neg (by omega), Nat.zero_add]
    rfl
  | d + 1, 0, _, _, h, _, _ => absurd h (Nat.not_lt_zero _)
  | d + 1, f + 1, k, b, h, hk, hb => by
    have e : ((List.range (d + 1)).map fun i => blockI T n (k + i)).sum = blockI T n k + ((List.range d).map fun i => blockI T n (k + 1 + i)).sum := by
      rw [List.range_succ_eq_map, List.map_cons, List.sum_cons, List.map_map]
      congr 2
      refine List.map_congr_left fun i _ => ?_
      show blockI T n (k + (i + 1)) = _
      rw [show k + (i + 1) = k + 1 + i by omega]
    rw [e]
    show (if n < k then none else if blockI T n k ≤ (blockI T n k + ((List.range d).map fun i => blockI T n (k + 1 + i)).sum + b) then iaIn T n f (blockI T n k + ((List.range d).map fun i => blockI T n (k + 1 + i)).sum + b - blockI T n k) (k + 1) else _) = _
    rw [if_neg (by omega), if_pos (by omega), show blockI T n k + ((List.range d).map fun i => blockI T n (k + 1 + i)).sum + b - blockI T n k = ((List.range d).map fun i => blockI T n (k + 1 + i)).sum + b by omega]
    rw [iaIn_ok T n d f (k + 1) b (by omega) (by omega) (by rw [show k + 1 + d = k + (d + 1) by omega]; exact hb)]
    rw [show k + 1 + d = k + (d + 1) by omega]
theorem sum_mono (f : Nat → Nat) : ∀ {a b : Nat}, a ≤ b → ((List.range a).map f).sum ≤ ((List.range b).map f).sum
  | a, 0, h => by
    rw [Nat.le_zero.mp h]
    exact Nat.le_refl _
  | a, b + 1, h => by
    by_cases e : a = b + 1
    · rw [e]
      exact Nat.le_refl _
    · have := sum_mono f (a := a) (b := b) (by omega)
      rw [List.range_succ, List.map_append, List.sum_append]
      omega
theorem sum_succ (f : Nat → Nat) (a : Nat) : ((List.range (a + 1)).map f).sum = ((List.range a).map f).sum + f a := by
  rw [List.range_succ, List.map_append, List.sum_append]
  simp
section
variable {im : List Nat}
/-- one piece's part of the number -/
theorem term_lt {g L : List Nat} {gs : List (List Nat)} (h9 : im.length ≤ 9) (E : Left im (g :: gs) L) (hL : L.length ≤ im.length) {V : Nat} (hV : V < gt (totalsN im.length) (L.length - g.length)) :
    (setNumber (g.map L.idxOf) L.length * fcN g.length + (patsN g.length).idxOf (pat im g)) * gt (totalsN im.length) (L.length - g.length) + V < blockI (totalsN im.length) L.length g.length ∧ termG (totalsN im.length) im g L + V < gt (totalsN im.length) L.length := by
  obtain ⟨l1, l2, l3⟩ := E.len
  obtain ⟨t, e, tl, tn, pw, _⟩ := E.places
  have w := (E.grp g (List.mem_cons_self ..)).2
  unfold goodB at w
  rw [Bool.and_eq_true, decide_eq_true_iff, decide_eq_true_iff] at w
  obtain ⟨w4, wp⟩ := w
  obtain ⟨s1, _⟩ := set_facts (n := L.length) (many := g.length) (by omega) l3 w4 l2 tl tn pw
  have hp : (patsN g.length).idxOf (pat im g) < fcN g.length := by
    rw [← (pat_facts w4).1]
    exact List.idxOf_lt_length_iff.mpr wp
  have key : (setNumber (g.map L.idxOf) L.length * fcN g.length + (patsN g.length).idxOf (pat im g)) * gt (totalsN im.length) (L.length - g.length) + V < blockI (totalsN im.length) L.length g.length := by
    rw [e]
    have eb : blockI (totalsN im.length) L.length g.length = cN (L.length - 1) (g.length - 1) * fcN g.length * gt (totalsN im.length) (L.length - g.length) := rfl
    rw [eb]
    generalize setNumber (0 :: t) L.length = S at s1
    generalize cN (L.length - 1) (g.length - 1) = C at s1
    generalize (patsN g.length).idxOf (pat im g) = p at hp
    generalize fcN g.length = fc at hp
    generalize gt (totalsN im.length) (L.length - g.length) = c at hV
    have a1 : S * fc + p + 1 ≤ C * fc := by
      have : (S + 1) * fc ≤ C * fc := Nat.mul_le_mul_right fc s1
      rw [Nat.add_mul, Nat.one_mul] at this
      omega
    have a2 := Nat.mul_le_mul_right c a1
    rw [Nat.add_mul, Nat.one_mul] at a2
    omega
  refine ⟨key, ?_⟩
  have q := (tot_facts h9 (n := L.length) hL).2 (by omega)
  rw [← q]
  have m := sum_mono (fun i => blockI (totalsN im.length) L.length (i + 1)) (a := g.length) (b := min L.length 4) (by omega)
  have sp := sum_succ (fun i => blockI (totalsN im.length) L.length (i + 1)) (g.length - 1)
  rw [show g.length - 1 + 1 = g.length by omega] at sp
  unfold termG
  omega
theorem val_lt (h9 : im.length ≤ 9) : ∀ (gs : List (List Nat)) (L : List Nat), Left im gs L → L.length ≤ im.length → valG (totalsN im.length) im gs L < gt (totalsN im.length) L.length
  | [], L, E, hL => by
    have : L = [] := by
      cases L with
      | nil => rfl
      | cons x L =>
        obtain ⟨g, hg, _⟩ := (E.mem x).mp (List.mem_cons_self ..)
        cases hg
    rw [this]
    exact (tot_facts h9 (n := 0) (Nat.zero_le _)).1
  | g :: gs, L, E, hL => by
    obtain ⟨l1, l2, l3⟩ := E.len
    have ih := val_lt h9 gs _ E.next (by omega)
    rw [l1] at ih
    exact (term_lt h9 E hL ih).2
theorem number_ok : ∀ (ps : List (List Nat)) (gs : List (List Nat)) (L : List Nat) (s : Nat), ps.map srt = gs → Left im gs L → (ps.foldlM (inStep im (totalsN im.length)) (s, L)).map (·.1) = some (s + valG (totalsN im.length) im gs L)
  | [], _, L, s, rfl, _ => rfl
  | p :: ps, _, L, s, rfl, E => by
    have E' : Left im (srt p :: ps.map srt) L := E
    obtain ⟨l1, l2, l3⟩ := E'.len
    obtain ⟨G, w⟩ := E'.grp _ (List.mem_cons_self ..)
    unfold goodB at w
    rw [Bool.and_eq_true, decide_eq_true_iff, decide_eq_true_iff] at w
    have st : inStep im (totalsN im.length) (s, L) p = some (s + termG (totalsN im.length) im (srt p) L, L.filter fun r => decide (r ∉ srt p)) := by
      have c1 : ((srt p).all fun a => decide (a ∈ L) && decide (gt im a ∈ srt p)) = true := List.all_eq_true.mpr fun a ha => by
        rw [decide_eq_true (E'.sub ha), decide_eq_true ((G.sat a (G.lt a ha)).mpr ha)]
        rfl
      have c2 : decide ((srt p).map (fun a => (srt p).idxOf (gt im a)) ∈ patsN (srt p).length) = true := decide_eq_true w.2
      unfold inStep
      dsimp only
      rw [c1, c2, decide_eq_true l2, decide_eq_true l3, decide_eq_true w.1]
      rw [if_pos (by rfl)]
      unfold termG
      rw [Nat.add_assoc]
      rfl
    rw [List.foldlM_cons, st]
    refine (number_ok ps _ _ (s + termG (totalsN im.length) im (srt p) L) rfl E'.next).trans ?_
    rw [Nat.add_assoc]
    rfl
end
end Pm.Q
end
section
set_option Elab.async false
set_option maxRecDepth 100000
set_option linter.all false
namespace Pm.Q
theorem gt_ext {a b : List Nat} (h : a.length = b.length) (e : ∀ r, r < b.length → gt a r = gt b r) : a = b := by
  refine List.ext_getElem h fun i h1 h2 => ?_
  have := e i h2
  have e2 : a.getD i 0 = b.getD i 0 := this
  rw [List.getD_eq_getElem?_getD, List.getD_eq_getElem?_getD, List.getElem?_eq_getElem h1, List.getElem?_eq_getElem h2] at e2
  exact e2
theorem zip_fold (ψ θ : Nat → Nat) : ∀ (l : List Nat) (im : List Nat), (l.zip (l.map ψ)).foldl (fun im p => im.set p.1 (θ p.2)) im = l.foldl (fun im a => im.set a (θ (ψ a))) im
  | [], _ => rfl
  | x :: l, im => zip_fold ψ θ l (im.set x (θ (ψ x)))
theorem fold_at (φ : Nat → Nat) : ∀ (l : List Nat) (im : List Nat), (∀ x ∈ l, x < im.length) → (l.foldl (fun im a => im.set a (φ a)) im).length = im.length ∧ ∀ r, gt (l.foldl (fun im a => im.set a (φ a)) im) r = if r ∈ l then φ r else gt im r
  | [], im, _ => ⟨rfl, fun r => by rw [if_neg (by simp)]; rfl⟩
  | x :: l, im, h => by
    obtain ⟨h1, h2⟩ := fold_at φ l (im.set x (φ x)) fun y hy => by
      rw [List.length_set]
      exact h y (List.mem_cons_of_mem _ hy)
    rw [List.length_set] at h1
    refine ⟨h1, fun r => ?_⟩
    rw [List.foldl_cons, h2 r]
    by_cases c : r ∈ l
    · rw [if_pos c, if_pos (List.mem_cons_of_mem _ c)]
    · rw [if_neg c, gt_setM (h x (List.mem_cons_self ..))]
      by_cases e : r = x
      · rw [if_pos e, if_pos (by rw [e]; exact List.mem_cons_self ..), e]
      · rw [if_neg e, if_neg fun z => by
          rcases List.mem_cons.mp z with u | u
          · exact e u
          · exact c u]
theorem fold_congr {φ θ : Nat → Nat} : ∀ (l : List Nat) (im : List Nat), (∀ x ∈ l, φ x = θ x) → l.foldl (fun im a => im.set a (φ a)) im = l.foldl (fun im a => im.set a (θ a)) im
  | [], _, _ => rfl
  | x :: l, im, h => by
    rw [List.foldl_cons, List.foldl_cons, h x (List.mem_cons_self ..)]
    exact fold_congr l _ fun y hy => h y (List.mem_cons_of_mem _ hy)
theorem patsN_at {m : Nat} {p : List Nat} (h : p ∈ patsN m) : (patsN m).getD ((patsN m).idxOf p) [] = p := by
  have hl : (patsN m).idxOf p < (patsN m).length := List.idxOf_lt_length_iff.mpr h
  rw [List.getD_eq_getElem?_getD, List.getElem?_eq_getElem hl]
  exact List.getElem_idxOf hl
theorem step_ok {im g L image : List Nat} {gs : List (List Nat)} (h9 : im.length ≤ 9) (E : Left im (g :: gs) L) (hL : L.length ≤ im.length) (hi : image.length = im.length) {V : Nat} (hV : V < gt (totalsN im.length) (L.length - g.length)) :
    iaStep (totalsN im.length) (termG (totalsN im.length) im g L + V, image, L) = some (V, g.foldl (fun im' a => im'.set a (gt im a)) image, L.filter fun r => decide (r ∉ g)) := by
  obtain ⟨l1, l2, l3⟩ := E.len
  obtain ⟨t, e, tl, tn, pw, em⟩ := E.places
  obtain ⟨G, w⟩ := E.grp g (List.mem_cons_self ..)
  unfold goodB at w
  rw [Bool.and_eq_true, decide_eq_true_iff, decide_eq_true_iff] at w
  obtain ⟨w4, wp⟩ := w
  obtain ⟨s1, s2⟩ := set_facts (n := L.length) (many := g.length) (by omega) l3 w4 l2 tl tn pw
  obtain ⟨p1, p2⟩ := pat_facts w4
  obtain ⟨p3, p4⟩ := p2 _ wp
  have hp : (patsN g.length).idxOf (pat im g) < fcN g.length := by
    rw [← p1]
    exact List.idxOf_lt_length_iff.mpr wp
  obtain ⟨k1, _⟩ := term_lt h9 E hL hV
  have hc : 1 ≤ gt (totalsN im.length) (L.length - g.length) := (tot_facts h9 (n := L.length - g.length) (by omega)).1
  have hia : iaIn (totalsN im.length) L.length 4 (termG (totalsN im.length) im g L + V) 1 = some ((setNumber (g.map L.idxOf) L.length * fcN g.length + (patsN g.length).idxOf (pat im g)) * gt (totalsN im.length) (L.length - g.length) + V, g.length) := by
    have q := iaIn_ok (totalsN im.length) L.length (g.length - 1) 4 1 _ (by omega) (by omega) (by rw [show 1 + (g.length - 1) = g.length by omega]; exact k1)
    rw [show 1 + (g.length - 1) = g.length by omega] at q
    rw [← q]
    unfold termG
    congr 1
    rw [Nat.add_assoc]
    congr 2
    exact List.map_congr_left fun i _ => by rw [Nat.add_comm i 1]
  unfold iaStep
  dsimp only
  rw [hia]
  show (if gt (totalsN im.length) (L.length - g.length) = 0 then none else _) = _
  rw [if_neg (by omega)]
  rw [e] at hia ⊢
  rw [← e]
  rw [e]
  generalize hS : setNumber (0 :: t) L.length = S at s1 s2
  generalize hcc : gt (totalsN im.length) (L.length - g.length) = c at hV hc
  have d1 : ((S * fcN g.length + (patsN g.length).idxOf (pat im g)) * c + V) / c = S * fcN g.length + (patsN g.length).idxOf (pat im g) := by
    rw [Nat.mul_comm, Nat.mul_add_div (by omega), Nat.div_eq_of_lt hV, Nat.add_zero]
  have d2 : ((S * fcN g.length + (patsN g.length).idxOf (pat im g)) * c + V) % c = V := by
    rw [Nat.mul_comm, Nat.mul_add_mod, Nat.mod_eq_of_lt hV]
  have d3 : (S * fcN g.length + (patsN g.length).idxOf (pat im g)) / fcN g.length = S := by
    rw [Nat.mul_comm, Nat.mul_add_div (by omega), Nat.div_eq_of_lt hp, Nat.add_zero]
  have d4 : (S * fcN g.length + (patsN g.length).idxOf (pat im g)) % fcN g.length = (patsN g.length).idxOf (pat im g) := by
    rw [Nat.mul_comm, Nat.mul_add_mod, Nat.mod_eq_of_lt hp]
  rw [d1, d2, d3, d4, s2]
  have er : (0 :: t).map (gt L) = g := by rw [← e]; exact em
  have lt0 : ∀ a ∈ (0 :: t), a < L.length := fun a ha => by
    rcases List.mem_cons.mp ha with z | z
    · omega
    · exact tn a z
  show (if (((0 :: t).all fun a => decide (a < L.length)) && decide ((patsN g.length).idxOf (pat im g) < (patsN g.length).length) && (((0 :: t).map (gt L)).all fun r => decide (r < image.length)) && decide ((0 :: t).length = g.length) && decide (((patsN g.length).getD ((patsN g.length).idxOf (pat im g)) []).length = g.length) && (((patsN g.length).getD ((patsN g.length).idxOf (pat im g)) []).all fun p => decide (p < g.length))) = true then some (V, _, _) else none) = _
  rw [er, patsN_at wp]
  have b1 : ((0 :: t).all fun a => decide (a < L.length)) = true := List.all_eq_true.mpr fun a ha => decide_eq_true (lt0 a ha)
  have b3 : (g.all fun r => decide (r < image.length)) = true := List.all_eq_true.mpr fun a ha => decide_eq_true (by rw [hi]; exact G.lt a ha)
  have b6 : ((pat im g).all fun p => decide (p < g.length)) = true := List.all_eq_true.mpr fun a ha => decide_eq_true (p4 a ha)
  have b4 : (0 :: t).length = g.length := by rw [List.length_cons]; omega
  rw [b1, b3, b6, decide_eq_true (by rw [p1]; exact hp), decide_eq_true b4, decide_eq_true p3, if_pos (by rfl)]
  congr 2
  refine Prod.ext ?_ rfl
  show (g.zip (pat im g)).foldl (fun im' p => im'.set p.1 (gt g p.2)) image = _
  unfold pat
  rw [zip_fold]
  exact fold_congr g image fun a ha => (gt_idx ((G.sat a (G.lt a ha)).mpr ha)).2
theorem at_ok {im : List Nat} (h9 : im.length ≤ 9) : ∀ (gs : List (List Nat)) (L : List Nat) (fuel : Nat) (image : List Nat), Left im gs L → L.length ≤ im.length → L.length ≤ fuel → image.length = im.length → (∀ r, r < im.length → r ∉ L → gt image r = gt im r) →
    iaLoop (totalsN im.length) fuel (valG (totalsN im.length) im gs L, image, L) = some im
  | [], L, fuel, image, E, _, _, hi, he => by
    have hl : L = [] := by
      cases L with
      | nil => rfl
      | cons x L =>
        obtain ⟨g, hg, _⟩ := (E.mem x).mp (List.mem_cons_self ..)
        cases hg
    subst hl
    have : image = im := gt_ext hi fun r hr => he r hr (by simp)
    rw [this]
    cases fuel <;> rfl
  | g :: gs, L, fuel, image, E, hL, hf, hi, he => by
    obtain ⟨l1, l2, l3⟩ := E.len
    have G := (E.grp g (List.mem_cons_self ..)).1
    have hV := val_lt h9 gs _ E.next (by omega)
    rw [l1] at hV
    cases fuel with
    | zero => omega
    | succ fuel =>
      have ne : ¬ L = [] := fun z => by
        rw [z] at l2
        have : ([] : List Nat).length = 0 := rfl
        omega
      show (if L = [] then some image else (iaStep (totalsN im.length) (termG (totalsN im.length) im g L + valG (totalsN im.length) im gs (L.filter fun r => decide (r ∉ g)), image, L)).bind (iaLoop (totalsN im.length) fuel)) = some im
      rw [if_neg ne, step_ok h9 E hL hi hV]
      obtain ⟨f1, f2⟩ := fold_at (gt im) g image fun x hx => by
        rw [hi]
        exact G.lt x hx
      refine at_ok h9 gs _ fuel _ E.next (by omega) (by omega) (f1.trans hi) fun r hr hn => ?_
      rw [f2 r]
      by_cases c : r ∈ g
      · rw [if_pos c]
      · rw [if_neg c]
        exact he r hr fun z => hn (List.mem_filter.mpr ⟨z, decide_eq_true c⟩)
theorem left_start {im : List Nat} (hI : Img im) (W : ∀ g ∈ groupsOf im, goodB im g = true) : Left im (groupsOf im) (List.range im.length) := by
  refine ⟨List.pairwise_lt_range, fun g hg => ⟨groups_is hI hg, W g hg⟩, groups_ord hI, fun r => ?_⟩
  rw [List.mem_range]
  constructor
  · exact fun h => groups_cover hI h
  · rintro ⟨g, hg, hr⟩
    exact (groups_is hI hg).lt r hr
theorem whole_round {im : List Nat} (hI : Img im) (h9 : im.length ≤ 9) (W : ∀ g ∈ groupsOf im, goodB im g = true) : ∃ N, imageNumber im = some N ∧ N < gt (totalsN im.length) im.length ∧ imageAt im.length N = some im := by
  obtain ⟨w1, _, w3⟩ := whole_forms hI h9 W
  have E := left_start hI W
  refine ⟨valG (totalsN im.length) im (groupsOf im) (List.range im.length), ?_, ?_, ?_⟩
  · unfold imageNumber
    rw [if_pos w1, number_ok _ (groupsOf im) _ 0 (by rw [List.map_map]; exact w3) E, Nat.zero_add]
  · have := val_lt h9 _ _ E (by rw [List.length_range]; exact Nat.le_refl _)
    rw [List.length_range] at this
    exact this
  · exact at_ok h9 _ _ im.length _ E (by rw [List.length_range]; exact Nat.le_refl _) (by rw [List.length_range]; exact Nat.le_refl _) List.length_replicate fun r hr hn => absurd (List.mem_range.mpr hr) hn
end Pm.Q
end
section
set_option Elab.async false
set_option linter.all false
namespace Pm
theorem large : LargeOk := fun n st busy im h h5 h9 S b => by
  have t := Q.built_told S b
  have h9' : im.length ≤ 9 := by rw [t.len]; exact h9
  obtain ⟨w1, w2, _⟩ := Q.whole_forms t.img h9' t.good
  obtain ⟨N, n1, n2, n3⟩ := Q.whole_round t.img h9' t.good
  rw [t.len] at n2 n3
  exact ⟨t.len, t.img, w1, w2.trans t.count, N, n1, by rw [total_eq h9]; exact n2, n3⟩
end Pm
end
set_option Elab.async false
set_option maxRecDepth 100000
set_option maxHeartbeats 0
set_option linter.all false
open PySem PySem.W PyProof.Rows
theorem PySem.Challenge.cw_peermend_k59_whole_images_counted_by_wri_holds : PySem.Challenge.rw_peermend_k59_whole_images_counted_by_wri.Holds := by
  w_on; o_law; o_head (Pm.hookP 4 Pm.faP Pm.fnP); (case hw => w_witness2)
  case hc =>
    refine L2.walk_ofE (l := PySem.Challenge.rw_peermend_k59_whole_images_counted_by_wri) (n := 63) (k := 7) (x := "_law_script") (CX := L2.CX0) rfl (by decide) (by kernel_rfl) ⟨rfl, by decide, by decide⟩ ?F (fun _ _ _ _ z => z)
    intro w mg fa h Y G hmg0
    obtain ⟨K, KX, c, ce⟩ := Y
    have hmg : mg ("law" : PySem.Str) = some (.ref fa) := by
      rw [← hmg0]
    obtain ⟨fd, hb, hF⟩ := Pm.facts Pm.large (P := (PySem.Challenge.rw_peermend_k59_whole_images_counted_by_wri).prog) (w := w) KX G hmg c ce
    exact ⟨K, fd, Pm.spLaw K, KX, hb, fun H a ns hl _ hS => ⟨a, ns, rfl, hS, fun _ _ => rfl⟩, hF⟩
