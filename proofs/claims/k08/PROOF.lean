import PyProof.Rows.All
import Wide.All
import OpenK.AllK
import Wide.FinOn
import HandS.ForMost
import HandS.Exc
import HandS.ExcInit
import HandS.IsInst
import HandS.Gcd
import HandS.Wide
import HandS.Flow
import HandS.Zip
import HandS.WordsExc
import HandS.Walk
import HandS.ExcField
import HandS.ExcCtx
import HandS.HotCalls
import HandS.Defaults
import PySem.Challenge.RW_callsleft_k08_whole_series_undo_one_anot
set_option Elab.async false
set_option Elab.async false
set_option linter.all false
set_option maxRecDepth 100000
set_option maxHeartbeats 1000000
/-! # A layer of values: what a reading evaluates to, by a relation between values and things of plain Lean -/
namespace Y
open PySem L2

/-! ### heaps -/
def Ex (H H' : Hp) : Prop := ∀ a o, H a = some o → H' a = some o
theorem Ex.refl (H : Hp) : Ex H H := fun _ _ h => h
theorem Ex.trans {H H1 H2 : Hp} (a : Ex H H1) (b : Ex H1 H2) : Ex H H2 := fun x o h => b x o (a x o h)
theorem Ex.new {H : Hp} {p : Addr} {o : HO} (h : H p = none) : Ex H (upd H p o) := fun a u e => by
  rw [upd_ne (ne_of_none e h)]
  exact e
theorem Ex.free {H H' : Hp} (e : Ex H H') {p : Addr} (h : H' p = none) : H p = none := by
  cases h1 : H p with
  | none => rfl
  | some o => rw [e p o h1] at h; cases h
theorem Ex.mut {H H' : Hp} {p : Addr} {o : HO} (e : Ex H H') (h : H p = none) : Ex H (upd H' p o) := fun a u ha => by
  rw [upd_ne (ne_of_none ha h)]
  exact e a u ha
theorem Ex.put {H H' : Hp} {p : Addr} {o : HO} (e : Ex H H') (h : H' p = some o) : Ex (upd H p o) H' := fun a u ha => by
  by_cases z : a = p
  · subst z; rw [upd_same] at ha; cases ha; exact h
  · rw [upd_ne z] at ha; exact e a u ha
/-- what is known grows from K to F, while the heap grows from H to H': all that F knows further is new -/
structure Grow (K H F H' : Hp) : Prop where
  h : Ex H H'
  k : Ex K F
  f : Ex F H'
  n : ∀ a, K a = none → F a ≠ none → H a = none
theorem Grow.refl {K H : Hp} (e : Ex K H) : Grow K H K H := ⟨Ex.refl H, Ex.refl K, e, fun _ h1 h2 => absurd h1 h2⟩
theorem Grow.of {K H H' : Hp} (e : Ex K H) (h : Ex H H') : Grow K H K H' := ⟨h, Ex.refl K, e.trans h, fun _ h1 h2 => absurd h1 h2⟩
theorem Grow.trans {K H F H1 F' H2 : Hp} (a : Grow K H F H1) (b : Grow F H1 F' H2) : Grow K H F' H2 :=
  ⟨a.h.trans b.h, a.k.trans b.k, b.f, fun x h1 h2 => by
    cases e : F x with
    | none => exact a.h.free (b.n x e h2)
    | some o => exact a.n x h1 (by rw [e]; exact fun z => nomatch z)⟩
theorem Grow.kh {K H F H' : Hp} (g : Grow K H F H') : Ex K H' := g.k.trans g.f
/-- a new object -/
theorem Grow.new {K H F H' : Hp} (g : Grow K H F H') {p : Addr} {o : HO} (hp : H' p = none) : Grow K H (upd F p o) (upd H' p o) := by
  have fp : F p = none := g.f.free hp
  refine ⟨g.h.trans (Ex.new hp), g.k.trans (Ex.new fp), fun a u e => ?_, fun a h1 h2 => ?_⟩
  · by_cases z : a = p
    · subst z; rw [upd_same] at e ⊢; exact e
    · rw [upd_ne z] at e ⊢; exact g.f a u e
  · by_cases z : a = p
    · subst z; exact g.h.free hp
    · rw [upd_ne z] at h2; exact g.n a h1 h2
def join (F G : Hp) : Hp := fun a => match F a with | some o => some o | none => G a
theorem Ex.joinl (F G : Hp) : Ex F (join F G) := fun a o h => by unfold join; rw [h]
theorem Ex.joinr {F G H : Hp} (f : Ex F H) (g : Ex G H) : Ex G (join F G) := fun a o h => by
  unfold join
  cases e : F a with
  | none => exact h
  | some u =>
    have h1 := f a u e
    have h2 := g a o h
    rw [h1] at h2
    exact h2
theorem Ex.joint {F G H : Hp} (f : Ex F H) (g : Ex G H) : Ex (join F G) H := fun a o h => by
  unfold join at h
  cases e : F a with
  | none => rw [e] at h; exact g a o h
  | some u => rw [e] at h; cases h; exact f a _ e
/-- less is known ahead: more is known behind -/
theorem Grow.mono {K K' H F H' : Hp} (e : Ex K K') (eh : Ex K' H) (g : Grow K H F H') : Grow K' H (join K' F) H' :=
  ⟨g.h, Ex.joinl _ _, Ex.joint (eh.trans g.h) g.f, fun a h1 h2 => by
    unfold join at h2
    rw [h1] at h2
    exact g.n a (e.free h1) h2⟩

/-! ### what stands for what -/
abbrev Rp (α : Type) := Hp → V → α → Prop
class Mono {α : Type} (r : Rp α) : Prop where
  mono : ∀ {H H' v x}, Ex H H' → r H v x → r H' v x
theorem up {α : Type} {r : Rp α} [Mono r] {H H' : Hp} {v : V} {x : α} (e : Ex H H') (h : r H v x) : r H' v x := Mono.mono e h
theorem p_imp {α β : Type} {F G : α → β → Prop} (h : ∀ a b, F a b → G a b) : ∀ {xs ys}, Paired F xs ys → Paired G xs ys
  | _, _, .nil => .nil
  | _, _, .cons a t => .cons (h _ _ a) (p_imp h t)
theorem p_at {α β : Type} {F : α → β → Prop} : ∀ {xs : List α} {ys : List β} {i : Nat} {y : β}, Paired F xs ys → ys[i]? = some y → ∃ x, xs[i]? = some x ∧ F x y
  | _, _, _, _, .nil, e => by simp at e
  | _, _, 0, _, .cons r _, e => by simp at e; subst e; exact ⟨_, rfl, r⟩
  | _, _, i + 1, _, .cons _ t, e => by
    obtain ⟨u, h1, h2⟩ := p_at t (by simpa using e)
    exact ⟨u, by simpa using h1, h2⟩
theorem p_atl {α β : Type} {F : α → β → Prop} : ∀ {xs : List α} {ys : List β} {i : Nat} {x : α}, Paired F xs ys → xs[i]? = some x → ∃ y, ys[i]? = some y ∧ F x y
  | _, _, _, _, .nil, e => by simp at e
  | _, _, 0, _, .cons r _, e => by simp at e; subst e; exact ⟨_, rfl, r⟩
  | _, _, i + 1, _, .cons _ t, e => by
    obtain ⟨u, h1, h2⟩ := p_atl t (by simpa using e)
    exact ⟨u, by simpa using h1, h2⟩
theorem p_app {α β : Type} {F : α → β → Prop} : ∀ {xs xs' : List α} {ys ys' : List β}, Paired F xs ys → Paired F xs' ys' → Paired F (xs ++ xs') (ys ++ ys')
  | _, _, _, _, .nil, h => h
  | _, _, _, _, .cons a t, h => .cons a (p_app t h)
theorem p_take {α β : Type} {F : α → β → Prop} : ∀ (n : Nat) {xs : List α} {ys : List β}, Paired F xs ys → Paired F (xs.take n) (ys.take n)
  | 0, _, _, _ => .nil
  | _ + 1, _, _, .nil => .nil
  | n + 1, _, _, .cons a t => .cons a (p_take n t)
theorem p_drop {α β : Type} {F : α → β → Prop} : ∀ (n : Nat) {xs : List α} {ys : List β}, Paired F xs ys → Paired F (xs.drop n) (ys.drop n)
  | 0, _, _, h => h
  | _ + 1, _, _, .nil => .nil
  | n + 1, _, _, .cons _ t => p_drop n t
theorem p_len {α β : Type} {F : α → β → Prop} {xs : List α} {ys : List β} (h : Paired F xs ys) : xs.length = ys.length := Paired.length h
theorem p_up {α : Type} {r : Rp α} [Mono r] {H H' : Hp} {vs : List V} {xs : List α} (e : Ex H H') (h : Paired (r H) vs xs) : Paired (r H') vs xs := p_imp (fun _ _ q => up e q) h

def rInt : Rp Int := fun _ v x => v = .int x
def rBl : Rp Bool := fun _ v x => v = .bl x
def rStr : Rp Str := fun _ v x => v = .str x
def rNon : Rp Unit := fun _ v _ => v = .non
def rV : Rp V := fun _ v x => v = x
/-- a fraction, a tuple of top and bottom -/
def rQ (K : PySem.W.Frag) : Rp Rat := fun H v q => ∃ a, v = .ref a ∧ SqT K H a [.int q.num, .int (q.den : Int)]
def rLst {α : Type} (r : Rp α) : Rp (List α) := fun H v xs => ∃ a vs, v = .ref a ∧ H a = some (.lst vs) ∧ Paired (r H) vs xs
/-- an instance of the class at C with top and bottom -/
def rRat (C : Addr) : Rp Rat := fun H v q => ∃ a dx, v = .ref a ∧ H a = some (.ins C dx [(("top" : Str), .int q.num), (("bottom" : Str), .int (q.den : Int))])
/-- a whole number, or a Ratio -/
def rNum (C : Addr) : Rp Rat := fun H v q => (v = .int q.num ∧ q.den = 1) ∨ rRat C H v q
instance : Mono rInt := ⟨fun _ h => h⟩
instance : Mono rBl := ⟨fun _ h => h⟩
instance : Mono rStr := ⟨fun _ h => h⟩
instance : Mono rNon := ⟨fun _ h => h⟩
instance : Mono rV := ⟨fun _ h => h⟩
theorem ex_t {K : PySem.W.Frag} {H H' : Hp} {a : Addr} {xs : List V} (e : Ex H H') (h : SqT K H a xs) : SqT K H' a xs := by
  rcases h with (h | ⟨o, h⟩) | h
  · exact Or.inl (Or.inl (e a _ h))
  · exact Or.inl (Or.inr ⟨o, e a _ h⟩)
  · exact Or.inr h
theorem ex_l {K : PySem.W.Frag} {H H' : Hp} {a : Addr} {xs : List V} (e : Ex H H') (h : SqL K H a xs) : SqL K H' a xs := by
  rcases h with (h | ⟨o, h⟩) | h
  · exact Or.inl (Or.inl (e a _ h))
  · exact Or.inl (Or.inr ⟨o, e a _ h⟩)
  · exact Or.inr h
theorem sq_of {K : PySem.W.Frag} {H : Hp} {a : Addr} {xs : List V} (h : H a = some (.lst xs)) : SqL K H a xs := Or.inl (Or.inl h)
theorem st_of {K : PySem.W.Frag} {H : Hp} {a : Addr} {xs : List V} (h : H a = some (.tup xs)) : SqT K H a xs := Or.inl (Or.inl h)
instance {K : PySem.W.Frag} : Mono (rQ K) := ⟨fun e ⟨a, h1, h2⟩ => ⟨a, h1, ex_t e h2⟩⟩
instance {α : Type} {r : Rp α} [Mono r] : Mono (rLst r) := ⟨fun e ⟨a, vs, h1, h2, h3⟩ => ⟨a, vs, h1, e a _ h2, p_up e h3⟩⟩
instance {C : Addr} : Mono (rRat C) := ⟨fun e ⟨a, dx, h1, h2⟩ => ⟨a, dx, h1, e a _ h2⟩⟩
instance {C : Addr} : Mono (rNum C) := ⟨fun e h => h.imp id (up e)⟩
/-- what does not lean on a list at o -/
def del (F : Hp) (o : Addr) : Hp := fun a => if a = o then none else F a
theorem del_ne {F : Hp} {o a : Addr} (h : a ≠ o) : del F o a = F a := if_neg h
theorem del_same {F : Hp} {o : Addr} : del F o o = none := if_pos rfl
class Flat {α : Type} (r : Rp α) : Prop where
  flat : ∀ {F o xs v x}, F o = some (.lst xs) → r F v x → r (del F o) v x
instance : Flat rInt := ⟨fun _ h => h⟩
instance : Flat rBl := ⟨fun _ h => h⟩
instance : Flat rStr := ⟨fun _ h => h⟩
instance : Flat rV := ⟨fun _ h => h⟩
theorem del_at {F : Hp} {o a : Addr} {xs : List V} {u : HO} (h : F o = some (.lst xs)) (ha : F a = some u) (hu : ∀ ys, u ≠ .lst ys) : del F o a = some u := by
  have : a ≠ o := fun z => by subst z; rw [h] at ha; cases ha; exact hu _ rfl
  rw [del_ne this]; exact ha
instance {K : PySem.W.Frag} : Flat (rQ K) := ⟨fun {F o xs v x} h ⟨a, h1, h2⟩ => ⟨a, h1, by
  rcases h2 with (h2 | ⟨u, h2⟩) | h2
  · exact Or.inl (Or.inl (del_at h h2 (fun _ z => nomatch z)))
  · exact Or.inl (Or.inr ⟨u, del_at h h2 (fun _ z => nomatch z)⟩)
  · exact Or.inr h2⟩⟩
instance {C : Addr} : Flat (rRat C) := ⟨fun h ⟨a, dx, h1, h2⟩ => ⟨a, dx, h1, del_at h h2 (fun _ z => nomatch z)⟩⟩
instance {C : Addr} : Flat (rNum C) := ⟨fun h q => q.imp id (Flat.flat h)⟩
/-- an own list was read as if it stood still; what comes of it does not lean on it -/
theorem Grow.undo {K H F H' : Hp} {o : Addr} {xs : List V} (hk : K o = none) (g : Grow (upd K o (.lst xs)) H F H') : F o = some (.lst xs) ∧ Grow K H (del F o) H' := by
  have fo : F o = some (.lst xs) := g.k o _ upd_same
  refine ⟨fo, g.h, fun a u e => ?_, fun a u e => ?_, fun a h1 h2 => ?_⟩
  · have n : a ≠ o := fun z => by subst z; rw [hk] at e; cases e
    rw [del_ne n]; exact g.k a u (by rw [upd_ne n]; exact e)
  · by_cases n : a = o
    · subst n; rw [del_same] at e; cases e
    · rw [del_ne n] at e; exact g.f a u e
  · by_cases n : a = o
    · subst n; exact absurd del_same h2
    · rw [del_ne n] at h2; exact g.n a (by rw [upd_ne n]; exact h1) h2

/-! ### named forms of what built-in calls ask -/
def rAbs : List V → Hp → VK → Prop := fun xs H Q => ∃ i, xs = [.int i] ∧ Q (.int (if i < 0 then -i else i)) H
def rToInt : List V → Hp → VK → Prop := fun xs H Q => (∃ i, xs = [.int i] ∧ Q (.int i) H) ∨ ∃ k, xs = [.bl k] ∧ Q (.int (if k then 1 else 0)) H
def rLen (K : PySem.W.Frag) : List V → Hp → VK → Prop := fun xs H Q => ∃ p ys, xs = [.ref p] ∧ (SqL K H p ys ∨ SqT K H p ys) ∧ Q (.int ys.length) H
def rList (K : PySem.W.Frag) : List V → Hp → VK → Prop := fun xs H Q => ∃ p ys, xs = [.ref p] ∧ (SqL K H p ys ∨ SqT K H p ys) ∧ ∀ l, H l = none → Q (.ref l) (upd H l (.lst ys))
theorem c_abs {X : Cx} : CallR X (.builtin "abs") rAbs := call_abs
theorem c_toInt {X : Cx} : CallR X (.type "int") rToInt := call_int1
theorem c_len {X : Cx} : CallR X (.builtin "len") (rLen X.K) := call_len_seq
theorem c_list {X : Cx} : CallR X (.type "list") (rList X.K) := call_list_of
/-! ### rules with the written part told -/
section
variable {X : Cx} {K : PySem.W.Frag}
theorem ix_tupK (h : X.K = K) : IxR X (rIxT K) := h ▸ ix_tup
theorem ix_listK (h : X.K = K) : IxR X (rIxL K) := h ▸ ix_list
theorem c_lenK (h : X.K = K) : CallR X (.builtin "len") (rLen K) := h ▸ c_len
theorem c_listK (h : X.K = K) : CallR X (.type "list") (rList K) := h ▸ c_list
theorem c_isiK (h : X.K = K) : CallR X (.builtin "isinstance") (rIsi K) := h ▸ call_isi
theorem c_sumK (h : X.K = K) (hc : X.calm = true) : CallR X (.builtin "sum") (rSum K) := h ▸ cr_sum hc
theorem sl_listK (h : X.K = K) : SlR X (rSlL K) := h ▸ sl_list
theorem pe_fldK {e : Expr} {ta : TE} {f : Str} {pos : Pos} (h : X.K = K) (he : PE X e ta) (hb : attributeBase e f X.env (eval e X.env) = eval e X.env) : PE X (.Attribute e f pos) (tFld K ta f) := h ▸ pe_fld he hb
end
/-- the scope of a comprehension that a def returns -/
def retLcScope (body : List Stmt) (i : Nat) : Scope := match body.getD i (.Pass ⟨0, 0, 0, 0⟩) with
  | .Return (some (.ListComp _ _ sc _)) _ => sc
  | _ => { kind := .module, names := [], isGenerator := false, isCoroutine := false }
/-- the same as it stands within the def -/
def inScope (scope sc : Scope) : Scope := { scope with names := scope.names.map fun (n, k) => if (k == .free && sc.kind == .function && sc.names.lookup n == some .cell) then (n, .cell) else (n, k) }
/-! ### readings -/
def E {α : Type} (r : Rp α) (te : TE) (σ : L2.St) (K : Hp) (x : α) : Prop := ∀ H, Ex K H → ∀ Q : VK, (∀ v H2 F, Grow K H F H2 → r F v x → Q v H2) → te σ H Q
/-- a new list -/
def EN {α : Type} (r : Rp α) (te : TE) (σ : L2.St) (K : Hp) (xs : List α) : Prop := ∀ H, Ex K H → ∀ Q : VK, (∀ p vs H2 F, Grow K H F H2 → F p = none → H p = none → H2 p = some (.lst vs) → Paired (r F) vs xs → Q (.ref p) H2) → te σ H Q
def T (tt : TT) (σ : L2.St) (K : Hp) (b : Bool) : Prop := ∀ H, Ex K H → ∀ Q : Bool → Hp → Prop, (∀ H2, Ex H H2 → Q b H2) → tt σ H Q
abbrev PP := Hp → List V → Prop
class MonoP (P : PP) : Prop where
  mono : ∀ {H H' vs}, Ex H H' → P H vs → P H' vs
def EA (P : PP) (ta : TA) (σ : L2.St) (K : Hp) : Prop := ∀ H, Ex K H → ∀ Q : List V → Hp → Prop, (∀ vs H2 F, Grow K H F H2 → P F vs → Q vs H2) → ta σ H Q
def pNil : PP := fun _ vs => vs = []
def pCons {α : Type} (r : Rp α) (x : α) (P : PP) : PP := fun H vs => ∃ v ws, vs = v :: ws ∧ r H v x ∧ P H ws
instance : MonoP pNil := ⟨fun _ h => h⟩
instance {α : Type} {r : Rp α} {x : α} {P : PP} [Mono r] [MonoP P] : MonoP (pCons r x P) := ⟨fun e ⟨v, ws, h1, h2, h3⟩ => ⟨v, ws, h1, up e h2, MonoP.mono e h3⟩⟩

section
variable {α β : Type} {r : Rp α} {s : Rp β} {σ : L2.St} {K K' H : Hp} {ta tb te : TE} {t u : TT} {x : α} {y : β}
theorem E.mono [Mono r] (e : Ex K K') (h : E r te σ K x) : E r te σ K' x := fun H a Q q => h H (e.trans a) Q fun v H2 F g hv => q v H2 _ (g.mono e a) (up (Ex.joinr (a.trans g.h) g.f) hv)
theorem T.mono {b : Bool} (e : Ex K K') (h : T t σ K b) : T t σ K' b := fun H a Q q => h H (e.trans a) Q q
theorem EA.mono {P : PP} [MonoP P] {ta : TA} (e : Ex K K') (h : EA P ta σ K) : EA P ta σ K' := fun H a Q q => h H (e.trans a) Q fun v H2 F g hv => q v H2 _ (g.mono e a) (MonoP.mono (Ex.joinr (a.trans g.h) g.f) hv)
theorem EN.e [Mono r] {xs : List α} (h : EN r te σ K xs) : E (rLst r) te σ K xs := fun H a Q q => h H a Q fun p vs H2 F g fp hp h2 hv => by
  refine q (.ref p) H2 (upd F p (.lst vs)) ⟨g.h, g.k.trans (Ex.new fp), Ex.put g.f h2, fun b h1 h3 => ?_⟩ ⟨p, vs, rfl, upd_same, p_up (Ex.new fp) hv⟩
  by_cases z : b = p
  · subst z; exact hp
  · rw [upd_ne z] at h3; exact g.n b h1 h3
theorem EN.mono [Mono r] {xs : List α} (e : Ex K K') (h : EN r te σ K xs) : EN r te σ K' xs := fun H a Q q => h H (e.trans a) Q fun p vs H2 F g fp hp h2 hv =>
  q p vs H2 _ (g.mono e a) (by
    unfold join
    cases z : K' p with
    | none => exact fp
    | some o => have := a p o z; rw [hp] at this; cases this) hp h2 (p_up (Ex.joinr (a.trans g.h) g.f) hv)
/-- an own list at o, read as if it stood still -/
theorem E.own [Flat r] {o : Addr} {xs : List V} (hk : K o = none) (h : E r te σ (upd K o (.lst xs)) x) : ∀ H, Ex K H → H o = some (.lst xs) → ∀ Q : VK, (∀ v H2 F, Grow K H F H2 → r F v x → Q v H2) → te σ H Q :=
  fun H a ho Q q => h H (a.put ho) Q fun v H2 F g hv => by
    obtain ⟨f1, f2⟩ := g.undo hk
    exact q v H2 _ f2 (Flat.flat f1 hv)

theorem e_var {v : V} {i : Nat} (h : r K v x) (hi : σ[i]? = some (some v)) : E r (tVar i) σ K x := fun H a _ q => ⟨v, hi, q v H K (Grow.refl a) h⟩
theorem e_c {v : V} (h : r K v x) : E r (tC v) σ K x := fun H a _ q => q v H K (Grow.refl a) h
theorem e_int {n : Int} : E rInt (tC (.int n)) σ K n := e_c rfl
theorem e_bl {b : Bool} : E rBl (tC (.bl b)) σ K b := e_c rfl
theorem e_str {z : Str} : E rStr (tC (.str z)) σ K z := e_c rfl
theorem E.as {x' : α} (h : E r te σ K x) (e : x = x') : E r te σ K x' := e ▸ h
theorem T.as {b b' : Bool} (h : T t σ K b) (e : b = b') : T t σ K b' := e ▸ h
theorem EN.as {xs xs' : List α} (h : EN r te σ K xs) (e : xs = xs') : EN r te σ K xs' := e ▸ h
/-- two operands -/
theorem two [Mono r] [Mono s] (ha : E r ta σ K x) (hb : E s tb σ K y) : ∀ H, Ex K H → ∀ Q : V → V → Hp → Prop, (∀ v w H2 F, Grow K H F H2 → r F v x → s F w y → Q v w H2) → ta σ H fun v H1 => tb σ H1 fun w H2 => Q v w H2 :=
  fun H a Q q => ha H a _ fun v H1 F g hv => (hb.mono g.k) H1 g.f _ fun w H2 F2 g2 hw => q v w H2 F2 (g.trans g2) (up g2.k hv) hw
theorem e_i0 {f : Int → Int → Int} {i j : Int} (ha : E rInt ta σ K i) (hb : E rInt tb σ K j) : E rInt (tOp (rI0 fun i j => .int (f i j)) ta tb) σ K (f i j) :=
  fun H a Q q => two ha hb H a _ fun v w H2 F g hv hw => ⟨i, j, hv, hw, q _ H2 F g rfl⟩
theorem e_i {C : Int → Int → Prop} {f : Int → Int → Int} {i j : Int} (ha : E rInt ta σ K i) (hb : E rInt tb σ K j) (hc : C i j) : E rInt (tOp (rI C fun i j => .int (f i j)) ta tb) σ K (f i j) :=
  fun H a Q q => two ha hb H a _ fun v w H2 F g hv hw => ⟨i, j, hv, hw, hc, q _ H2 F g rfl⟩
theorem e_un {f : Int → Int} {i : Int} (ha : E rInt ta σ K i) : E rInt (tUn (rU fun i => .int (f i)) ta) σ K (f i) :=
  fun H a Q q => ha H a _ fun v H2 F g hv => ⟨i, hv, q _ H2 F g rfl⟩
theorem e_b0 {p : Int → Int → Bool} {i j : Int} (ha : E rInt ta σ K i) (hb : E rInt tb σ K j) : E rBl (tOp (rI0 fun i j => .bl (p i j)) ta tb) σ K (p i j) :=
  fun H a Q q => two ha hb H a _ fun v w H2 F g hv hw => ⟨i, j, hv, hw, q _ H2 F g rfl⟩
theorem e_eqI {i j : Int} (ha : E rInt ta σ K i) (hb : E rInt tb σ K j) : E rBl (tOp rEq ta tb) σ K (decide (i = j)) :=
  fun H a Q q => two ha hb H a _ fun v w H2 F g hv hw => by
    cases hv; cases hw
    refine ⟨rfl, q _ H2 F g ?_⟩
    show V.bl _ = V.bl _
    simp
theorem e_neI {i j : Int} (ha : E rInt ta σ K i) (hb : E rInt tb σ K j) : E rBl (tOp rNe ta tb) σ K (!decide (i = j)) :=
  fun H a Q q => two ha hb H a _ fun v w H2 F g hv hw => by
    cases hv; cases hw
    refine ⟨rfl, q _ H2 F g ?_⟩
    show V.bl _ = V.bl _
    simp
theorem t_test {b : Bool} (h : E rBl te σ K b) : T (tTest te) σ K b := fun H a Q q => h H a _ fun v H2 F g hv => ⟨b, hv, q H2 g.h⟩
theorem t_b {b : Bool} (h : E rBl te σ K b) : T (tB te) σ K b := fun H a Q q => h H a _ fun v H2 F g hv => ⟨b, hv, q H2 g.h⟩
theorem T.up2 {b : Bool} (h : T t σ K b) {H H1 : Hp} (a : Ex K H) (e : Ex H H1) : T t σ H1 b := h.mono (a.trans e)
theorem t_and {a b : Bool} (h1 : T t σ K a) (h2 : a = true → T u σ K b) : T (tAnd t u) σ K (a && b) := fun H e Q q => h1 H e _ fun H2 e2 => by
  cases a with
  | true => exact h2 rfl H2 (e.trans e2) Q fun H3 e3 => q H3 (e2.trans e3)
  | false => exact q H2 e2
theorem t_or {a b : Bool} (h1 : T t σ K a) (h2 : a = false → T u σ K b) : T (tOr t u) σ K (a || b) := fun H e Q q => h1 H e _ fun H2 e2 => by
  cases a with
  | true => exact q H2 e2
  | false => exact h2 rfl H2 (e.trans e2) Q fun H3 e3 => q H3 (e2.trans e3)
theorem t_not {a : Bool} (h1 : T t σ K a) : T (tNot t) σ K (!a) := fun H e _ q => h1 H e _ fun H2 e2 => q H2 e2
theorem e_andV {a b : Bool} (h1 : E rBl ta σ K a) (h2 : a = true → E rBl tb σ K b) : E rBl (tAndV ta tb) σ K (a && b) := fun H e Q q => h1 H e _ fun v H2 F g hv => ⟨a, hv, by
  cases a with
  | true => exact (h2 rfl).mono g.k H2 g.f Q fun v H3 F3 g3 h3 => q v H3 F3 (g.trans g3) h3
  | false => exact q _ H2 F g rfl⟩
theorem e_orV {a b : Bool} (h1 : E rBl ta σ K a) (h2 : a = false → E rBl tb σ K b) : E rBl (tOrV ta tb) σ K (a || b) := fun H e Q q => h1 H e _ fun v H2 F g hv => ⟨a, hv, by
  cases a with
  | true => exact q _ H2 F g rfl
  | false => exact (h2 rfl).mono g.k H2 g.f Q fun v H3 F3 g3 h3 => q v H3 F3 (g.trans g3) h3⟩
theorem e_notV {a : Bool} (h1 : E rBl ta σ K a) : E rBl (tNotV ta) σ K (!a) := fun H e Q q => h1 H e _ fun v H2 F g hv => ⟨a, hv, q _ H2 F g rfl⟩
theorem e_if {b : Bool} [Mono r] (h : T t σ K b) (h1 : b = true → E r ta σ K x) (h2 : b = false → E r tb σ K x) : E r (tIf t ta tb) σ K x := fun H e Q q => h H e _ fun H2 e2 => by
  cases b with
  | true => exact h1 rfl H2 (e.trans e2) Q fun v H3 F g hv => q v H3 F ((Grow.of e e2).trans g) hv
  | false => exact h2 rfl H2 (e.trans e2) Q fun v H3 F g hv => q v H3 F ((Grow.of e e2).trans g) hv
theorem en_if {b : Bool} {xs : List α} (h : T t σ K b) (h1 : b = true → EN r ta σ K xs) (h2 : b = false → EN r tb σ K xs) : EN r (tIf t ta tb) σ K xs := fun H e Q q => h H e _ fun H2 e2 => by
  cases b with
  | true => exact h1 rfl H2 (e.trans e2) Q fun p vs H3 F g fp hp h3 hv => q p vs H3 F ((Grow.of e e2).trans g) fp (e2.free hp) h3 hv
  | false => exact h2 rfl H2 (e.trans e2) Q fun p vs H3 F g fp hp h3 hv => q p vs H3 F ((Grow.of e e2).trans g) fp (e2.free hp) h3 hv
theorem t_if {b c : Bool} {t1 t2 : TT} (h : T t σ K b) (h1 : b = true → T t1 σ K c) (h2 : b = false → T t2 σ K c) : T (fun σ H Q => t σ H fun c H1 => if c = true then t1 σ H1 Q else t2 σ H1 Q) σ K c := fun H e Q q => h H e _ fun H2 e2 => by
  cases b with
  | true => exact h1 rfl H2 (e.trans e2) Q fun H3 e3 => q H3 (e2.trans e3)
  | false => exact h2 rfl H2 (e.trans e2) Q fun H3 e3 => q H3 (e2.trans e3)

/-! ### subscripts, tuples, lists -/
variable {Kf : PySem.W.Frag}
theorem e_top {q : Rat} (ha : E (rQ Kf) ta σ K q) : E rInt (tOp (rIxT Kf) ta (tC (.int 0))) σ K q.num := fun H a Q k => ha H a _ fun v H2 F g ⟨b, hv, hb⟩ => ⟨b, _, 0, _, hv, rfl, ex_t g.f hb, rfl, k _ H2 F g rfl⟩
theorem e_bot {q : Rat} (ha : E (rQ Kf) ta σ K q) : E rInt (tOp (rIxT Kf) ta (tC (.int 1))) σ K (q.den : Int) := fun H a Q k => ha H a _ fun v H2 F g ⟨b, hv, hb⟩ => ⟨b, _, 1, _, hv, rfl, ex_t g.f hb, rfl, k _ H2 F g rfl⟩
theorem e_at [Mono r] {xs : List α} {k : Int} (ha : E (rLst r) ta σ K xs) (hb : E rInt tb σ K k) (h0 : 0 ≤ k) (hx : xs[k.toNat]? = some x) : E r (tOp (rIxL Kf) ta tb) σ K x :=
  fun H a Q q => two ha hb H a _ fun v w H2 F g ⟨b, vs, hv, hb, hp⟩ hw => by
    obtain ⟨y, h1, h2⟩ := p_at hp hx
    refine ⟨b, vs, k, y, hv, hw, sq_of (g.f b _ hb), ?_, q y H2 F g h2⟩
    have := atI_nat h1
    rwa [Int.toNat_of_nonneg h0] at this
theorem ea_nil : EA pNil tNil σ K := fun H a _ q => q [] H K (Grow.refl a) rfl
theorem ea_cons {P : PP} {tr : TA} [Mono r] [MonoP P] (h : E r te σ K x) (hr : EA P tr σ K) : EA (pCons r x P) (tCons te tr) σ K := fun H a Q q =>
  h H a _ fun v H2 F g hv => (hr.mono g.k) H2 g.f _ fun vs H3 F3 g3 hp => q _ H3 F3 (g.trans g3) ⟨v, vs, rfl, up g3.k hv, hp⟩
theorem two_le : (2 : Nat) ≤ sizeLine := by decide
theorem e_pair {n d : Int} {q : Rat} (ha : E rInt ta σ K n) (hb : E rInt tb σ K d) (h1 : n = q.num) (h2 : d = q.den) : E (rQ Kf) (tTup (tCons ta (tCons tb tNil))) σ K q :=
  fun H a Q k => two ha hb H a _ fun v w H2 F g hv hw => ⟨two_le, fun p hp => k (.ref p) _ _ (g.new hp) ⟨p, rfl, st_of (by rw [upd_same]; cases hv; cases hw; rw [h1, h2])⟩⟩
theorem sz_of {n : Nat} (h : n ≤ 100000) : n ≤ sizeLine := Nat.le_trans h (by decide)
theorem sz_lt {n : Nat} (h : n < 100000) : n < sizeLine := Nat.lt_of_lt_of_le h (by decide)
/-- [] -/
theorem en_nil : EN r (tLst tNil) σ K [] := fun H a Q q => ⟨Nat.zero_le _, fun p hp => q p [] _ K (Grow.of a (Ex.new hp)) (a.free hp) hp upd_same .nil⟩
/-- [e] -/
theorem en_one [Mono r] (h : E r te σ K x) : EN r (tLst (tCons te tNil)) σ K [x] := fun H a Q q => h H a _ fun v H2 F g hv =>
  ⟨sz_of (by show 1 ≤ 100000; decide), fun p hp => q p [v] _ F ⟨g.h.trans (Ex.new hp), g.k, g.f.trans (Ex.new hp), g.n⟩ (g.f.free hp) (g.h.free hp) upd_same (.cons hv .nil)⟩
/-- calls of built-in functions -/
theorem e_len {xs : List α} (h : E (rLst r) te σ K xs) : E rInt (tCB (rLen Kf) (tCons te tNil)) σ K (xs.length : Int) :=
  fun H a Q q => h H a _ fun v H2 F g ⟨b, vs, hv, hb, hp⟩ => ⟨b, vs, by rw [hv], .inl (sq_of (g.f b _ hb)), q _ H2 F g (by show V.int _ = V.int _; rw [p_len hp])⟩
theorem e_gcd {i j : Int} (ha : E rInt ta σ K i) (hb : E rInt tb σ K j) : E rInt (tCB rGcd (tCons ta (tCons tb tNil))) σ K ((Nat.gcd i.natAbs j.natAbs : Nat) : Int) :=
  fun H a Q q => two ha hb H a _ fun v w H2 F g hv hw => ⟨i, j, by cases hv; cases hw; rfl, q _ H2 F g rfl⟩
/-- calls of defs -/
def Res {α : Type} (r : Rp α) (K H : Hp) (x : α) (Q : VK) : Prop := ∀ v H' F, Grow K H F H' → r F v x → Q v H'
def ResN {α : Type} (r : Rp α) (K H : Hp) (xs : List α) (Q : VK) : Prop := ∀ p vs H' F, Grow K H F H' → F p = none → H p = none → H' p = some (.lst vs) → Paired (r F) vs xs → Q (.ref p) H'
theorem e_call {P : PP} {sp : Sp} {E' : XK} {tr : TA} (h : EA P tr σ K) (hs : ∀ F H vs Q, Ex F H → P F vs → Res r F H x Q → sp vs H Q E') : E r (tCall sp [] E' tr) σ K x :=
  fun H a Q q => h H a _ fun vs H2 F g hp => by
    show sp (vs ++ []) H2 Q E'
    rw [List.append_nil]
    exact hs F H2 vs Q g.f hp fun v H' F' g' hv => q v H' F' (g.trans g') hv
theorem en_call {P : PP} {sp : Sp} {E' : XK} {tr : TA} {xs : List α} (h : EA P tr σ K) (hs : ∀ F H vs Q, Ex F H → P F vs → ResN r F H xs Q → sp vs H Q E') : EN r (tCall sp [] E' tr) σ K xs :=
  fun H a Q q => h H a _ fun vs H2 F g hp => by
    show sp (vs ++ []) H2 Q E'
    rw [List.append_nil]
    exact hs F H2 vs Q g.f hp fun p ws H' F' g' fp hp' h' hv => q p ws H' F' (g.trans g') fp (g.h.free hp') h' hv
/-- slices -/
def EO (to : TO) (σ : L2.St) (K : Hp) (o : Option Int) : Prop := ∀ H, Ex K H → ∀ Q : Option Int → Hp → Prop, (∀ H2, Ex H H2 → Q o H2) → to σ H Q
theorem eo_none : EO tNoPart σ K none := fun H _ _ q => q H (Ex.refl H)
theorem eo_some {i : Int} (h : E rInt te σ K i) : EO (tPart te) σ K (some i) := fun H a _ q => h H a _ fun v H2 F g hv => ⟨i, hv, q H2 g.h⟩
def cutL {α : Type} (xs : List α) (lo hi : Option Int) : List α := (xs.drop (HT.sIx xs.length 0 lo)).take (HT.sIx xs.length xs.length hi - HT.sIx xs.length 0 lo)
theorem cut_pair {F : V → α → Prop} {vs : List V} {xs : List α} (h : Paired F vs xs) (lo hi : Option Int) : Paired F (cutV vs lo hi) (cutL xs lo hi) := by
  unfold cutV cutL
  rw [p_len h]
  exact p_take _ (p_drop _ h)
theorem cutL_to (xs : List α) (n : Nat) : cutL xs none (some (n : Int)) = xs.take n := by
  unfold cutL
  rw [HT.sIx_none, HT.sIx_nat]
  show (xs.drop 0).take (min n xs.length - 0) = xs.take n
  rw [List.drop_zero, Nat.sub_zero, ← List.take_eq_take_min]
theorem cutL_from (xs : List α) (n : Nat) : cutL xs (some (n : Int)) none = xs.drop n := by
  unfold cutL
  rw [HT.sIx_none, HT.sIx_nat]
  by_cases h : n ≤ xs.length
  · rw [Nat.min_eq_left h, ← List.length_drop]
    exact List.take_of_length_le (Nat.le_refl _)
  · rw [Nat.min_eq_right (by omega), Nat.sub_self, List.take_zero, List.drop_eq_nil_of_le (by omega)]
theorem en_slice [Mono r] {tl th : TO} {xs : List α} {lo hi : Option Int} (h : E (rLst r) te σ K xs) (h1 : EO tl σ K lo) (h2 : EO th σ K hi) : EN r (tSl (rSlL Kf) te tl th) σ K (cutL xs lo hi) := fun H a Q q =>
  h H a _ fun v H2 F g ⟨b, vs, hv, hb, hp⟩ => h1 H2 g.kh _ fun H3 e3 => h2 H3 (g.kh.trans e3) _ fun H4 e4 =>
    ⟨b, vs, hv, sq_of (e4 b _ (e3 b _ (g.f b _ hb))), fun p hp' => q p _ _ F ⟨((g.h.trans e3).trans e4).trans (Ex.new hp'), g.k, ((g.f.trans e3).trans e4).trans (Ex.new hp'), g.n⟩ (((g.f.trans e3).trans e4).free hp') (((g.h.trans e3).trans e4).free hp') upd_same (cut_pair hp lo hi)⟩
theorem en_cat [Mono r] {xs ys : List α} (ha : E (rLst r) ta σ K xs) (hb : E (rLst r) tb σ K ys) (hz : xs.length + ys.length ≤ 100000) : EN r (tOp rCat ta tb) σ K (xs ++ ys) := fun H a Q q =>
  two ha hb H a _ fun v w H2 F g ⟨b, vs, hv, hb, hp⟩ ⟨c, ws, hw, hc, hq⟩ => ⟨b, c, vs, ws, hv, hw, g.f b _ hb, g.f c _ hc, sz_of (by rw [p_len hp, p_len hq]; exact hz), fun p hp' =>
    q p _ _ F ⟨g.h.trans (Ex.new hp'), g.k, g.f.trans (Ex.new hp'), g.n⟩ (g.f.free hp') (g.h.free hp') upd_same (p_app hp hq)⟩
theorem en_list [Mono r] {xs : List α} (h : E (rLst r) te σ K xs) : EN r (tCB (rList Kf) (tCons te tNil)) σ K xs :=
  fun H a Q q => h H a _ fun v H2 F g ⟨b, vs, hv, hb, hp⟩ => ⟨b, vs, by rw [hv], .inl (sq_of (g.f b _ hb)), fun p hp' =>
    q p _ _ F ⟨g.h.trans (Ex.new hp'), g.k, g.f.trans (Ex.new hp'), g.n⟩ (g.f.free hp') (g.h.free hp') upd_same hp⟩

/-! ### statements -/
variable {D : Ends} {c : TT} {tw tz : TS}
theorem set_id {σ : L2.St} {i : Nat} {v : V} (h : σ[i]? = some (some v)) : σ.set i (some v) = σ := by
  apply List.ext_getElem?
  intro j
  rw [List.getElem?_set]
  split
  · next e => subst e; rw [h]; split
              · rfl
              · next z => rw [List.getElem?_eq_none_iff.mpr (by omega)] at h; cases h
  · rfl
theorem s_if {b : Bool} {H : Hp} (h : T c σ K b) (ex : Ex K H) (h1 : b = true → ∀ H', Ex H H' → tw D σ H') (h2 : b = false → ∀ H', Ex H H' → tz D σ H') : tIfS c tw tz D σ H := h H ex _ fun H1 e => by
  cases b with
  | true => exact h1 rfl H1 e
  | false => exact h2 rfl H1 e
theorem s_set {H : Hp} {i : Nat} (h : E r te σ K x) (ex : Ex K H) (k : ∀ v H2 F, Grow K H F H2 → r F v x → D.nx (σ.set i (some v)) H2) : tAsg te (gName i) D σ H := h H ex _ k
theorem s_setN {H : Hp} {i : Nat} {xs : List α} (h : EN r te σ K xs) (ex : Ex K H) (k : ∀ p vs H2 F, Grow K H F H2 → F p = none → H p = none → H2 p = some (.lst vs) → Paired (r F) vs xs → D.nx (σ.set i (some (.ref p))) H2) : tAsg te (gName i) D σ H := h H ex _ k
theorem s_ret {H : Hp} (h : E r te σ K x) (ex : Ex K H) (k : ∀ v H2 F, Grow K H F H2 → r F v x → D.rt v H2) : tRet te D σ H := h H ex _ k
theorem s_retN {H : Hp} {xs : List α} (h : EN r te σ K xs) (ex : Ex K H) (k : ∀ p vs H2 F, Grow K H F H2 → F p = none → H p = none → H2 p = some (.lst vs) → Paired (r F) vs xs → D.rt (.ref p) H2) : tRet te D σ H := h H ex _ k
theorem Res.from {H H' F' : Hp} {Q : VK} (g : Grow K H F' H') (h : Res r K H x Q) : Res r F' H' x Q := fun v H2 F g2 hv => h v H2 F (g.trans g2) hv
theorem Res.at {H H' : Hp} {Q : VK} (ex : Ex K H) (e : Ex H H') (h : Res r K H x Q) : Res r K H' x Q := fun v H2 F g2 hv => h v H2 F ((Grow.of ex e).trans g2) hv
theorem ResN.from {H H' F' : Hp} {xs : List α} {Q : VK} (g : Grow K H F' H') (h : ResN r K H xs Q) : ResN r F' H' xs Q := fun p vs H2 F g2 fp hp h2 hv => h p vs H2 F (g.trans g2) fp (g.h.free hp) h2 hv
theorem ResN.at {H H' : Hp} {xs : List α} {Q : VK} (ex : Ex K H) (e : Ex H H') (h : ResN r K H xs Q) : ResN r K H' xs Q := ResN.from (Grow.of ex e) h
/-- if c: x = e -/
theorem s_ifset {b : Bool} {H : Hp} {i : Nat} {n : Int} (h : T c σ K b) (ex : Ex K H) (h1 : b = true → E rInt te σ K n) (h2 : b = false → σ[i]? = some (some (.int n))) (k : ∀ H', Ex H H' → D.nx (σ.set i (some (.int n))) H') : tIfS c (tAsg te (gName i)) tNext D σ H :=
  s_if h ex (fun hb H1 e1 => (h1 hb) H1 (ex.trans e1) _ fun v H2 F g hv => by cases hv; exact k H2 (e1.trans g.h)) (fun hb H1 e1 => by
    have := k H1 e1
    rw [set_id (h2 hb)] at this
    exact this)
end
end Y

set_option Elab.async false
set_option linter.all false
set_option maxRecDepth 100000
/-! # Fractions: tops and bottoms, sizes -/
namespace Y
open PySem L2
/-! ### floor division by any great number but 0 -/
def CDivX (_ j : Int) : Prop := j ≠ 0 ∧ j.natAbs.log2 < 9000
theorem op_fdX {X : Cx} : OpR X (binaryOp .FloorDiv) (rI CDivX fun i j => .int (i.fdiv j)) := opI fun i j _ _ _ _ _ hc q => PyProof.Rows.floordiv_int hc.1 q (.inl (PyProof.noPylong_of_log2 hc.2))
theorem log2_lt {n b : Nat} (h0 : 0 < b) (h : n < 2 ^ b) : n.log2 < b := PySem.Flt.log2_lt_of h0 h
theorem cdivX {i j : Int} {b : Nat} (h : j ≠ 0) (hb : j.natAbs < 2 ^ b) (h0 : 0 < b) (h9 : b ≤ 9000) : CDivX i j := ⟨h, Nat.lt_of_lt_of_le (log2_lt h0 hb) h9⟩
/-! ### lowest terms -/
/-- the divisor that low takes -/
def gs (t b : Int) : Int := if b < 0 then -((Nat.gcd t.natAbs b.natAbs : Nat) : Int) else ((Nat.gcd t.natAbs b.natAbs : Nat) : Int)
theorem gs_ne {t b : Int} (h : b ≠ 0) : gs t b ≠ 0 := by
  have : 0 < Nat.gcd t.natAbs b.natAbs := Nat.gcd_pos_of_pos_right _ (by omega)
  unfold gs; split <;> omega
theorem gs_abs (t b : Int) : (gs t b).natAbs = Nat.gcd t.natAbs b.natAbs := by unfold gs; split <;> omega
theorem gs_le {t b : Int} (h : b ≠ 0) : (gs t b).natAbs ≤ b.natAbs := by rw [gs_abs]; exact Nat.gcd_le_right _ (by omega)
theorem fdiv_eq {a b c : Int} (hb : b ≠ 0) (h : a = c * b) : a.fdiv b = c := by rw [h]; exact Int.mul_fdiv_cancel c hb
theorem low_spec {t b n d s : Int} (hs : s ≠ 0) (ht : t = n * s) (hb : b = d * s) (hd : 0 < d) (hc : n.natAbs.Coprime d.natAbs) : (Rat.divInt t b).num = n ∧ ((Rat.divInt t b).den : Int) = d := by
  have e : Rat.divInt t b = Rat.divInt n d := by rw [ht, hb, Rat.divInt_mul_right hs]
  have e2 : Rat.divInt n d = (Rat.mk' n d.natAbs (by omega) hc) := by
    rw [Rat.mk_eq_divInt]
    rw [show ((d.natAbs : Nat) : Int) = d by omega]
  rw [e, e2]
  exact ⟨rfl, by show ((d.natAbs : Nat) : Int) = d; omega⟩
theorem low_both {t b : Int} (h : b ≠ 0) : t.fdiv (gs t b) = (Rat.divInt t b).num ∧ b.fdiv (gs t b) = ((Rat.divInt t b).den : Int) := by
  have g0 : 0 < Nat.gcd t.natAbs b.natAbs := Nat.gcd_pos_of_pos_right _ (by omega)
  obtain ⟨t', ht⟩ := Nat.gcd_dvd_left t.natAbs b.natAbs
  obtain ⟨b', hb⟩ := Nat.gcd_dvd_right t.natAbs b.natAbs
  generalize hg : Nat.gcd t.natAbs b.natAbs = g at *
  have b0 : 0 < b' := by rcases Nat.eq_zero_or_pos b' with z | z; subst z; omega; exact z
  have hc : Nat.Coprime t' b' := by
    have := Nat.gcd_mul_left g t' b'
    rw [← ht, ← hb, hg] at this
    exact Nat.eq_of_mul_eq_mul_left g0 (by rw [Nat.mul_one]; exact this.symm)
  have hs0 := gs_ne (t := t) h
  have key : ∃ n d : Int, t = n * gs t b ∧ b = d * gs t b ∧ 0 < d ∧ n.natAbs.Coprime d.natAbs := by
    unfold gs
    rw [hg]
    by_cases hneg : b < 0
    · rw [if_pos hneg]
      refine ⟨if t < 0 then (t' : Int) else -(t' : Int), b', ?_, ?_, by omega, ?_⟩
      · split
        · have : t = -((g * t' : Nat) : Int) := by omega
          rw [this]; push_cast; rw [Int.mul_neg, Int.mul_comm]
        · have : t = ((g * t' : Nat) : Int) := by omega
          rw [this]; push_cast; rw [Int.neg_mul_neg, Int.mul_comm]
      · have : b = -((g * b' : Nat) : Int) := by omega
        rw [this]; push_cast; rw [Int.mul_neg, Int.mul_comm]
      · split <;> simpa using hc
    · rw [if_neg hneg]
      refine ⟨if t < 0 then -(t' : Int) else (t' : Int), b', ?_, ?_, by omega, ?_⟩
      · split
        · have : t = -((g * t' : Nat) : Int) := by omega
          rw [this]; push_cast; rw [Int.neg_mul, Int.mul_comm]
        · have : t = ((g * t' : Nat) : Int) := by omega
          rw [this]; push_cast; rw [Int.mul_comm]
      · have : b = ((g * b' : Nat) : Int) := by omega
        rw [this]; push_cast; rw [Int.mul_comm]
      · split <;> simpa using hc
  obtain ⟨n, d, h1, h2, h3, h4⟩ := key
  obtain ⟨k1, k2⟩ := low_spec hs0 h1 h2 h3 h4
  exact ⟨(fdiv_eq hs0 h1).trans k1.symm, (fdiv_eq hs0 h2).trans k2.symm⟩
theorem fdiv_one (a : Int) : a.fdiv 1 = a := fdiv_eq (by decide) (by rw [Int.mul_one])
theorem low_one {t b : Int} (h : b ≠ 0) (h1 : gs t b = 1) : t = (Rat.divInt t b).num ∧ b = ((Rat.divInt t b).den : Int) := by
  have := low_both (t := t) h
  rw [h1, fdiv_one, fdiv_one] at this
  exact this
theorem den0 (q : Rat) : (q.den : Int) ≠ 0 := by have := q.den_nz; omega
theorem q_def (q : Rat) : Rat.divInt q.num q.den = q := Rat.num_divInt_den q
theorem q_add (a b : Rat) : Rat.divInt (a.num * b.den + b.num * a.den) (a.den * b.den) = a + b := by
  conv => rhs; rw [← q_def a, ← q_def b]
  rw [Rat.divInt_add_divInt _ _ (den0 a) (den0 b)]
theorem q_sub (a b : Rat) : Rat.divInt (a.num * b.den - b.num * a.den) (a.den * b.den) = a - b := by
  conv => rhs; rw [← q_def a, ← q_def b]
  rw [Rat.divInt_sub_divInt _ _ (den0 a) (den0 b)]
theorem q_add1 (a b : Rat) (h : (a.den : Int) = b.den) : Rat.divInt (a.num + b.num) a.den = a + b := by
  rw [← q_add a b, ← h, ← Int.add_mul, Rat.divInt_mul_right (den0 a)]
theorem q_sub1 (a b : Rat) (h : (a.den : Int) = b.den) : Rat.divInt (a.num - b.num) a.den = a - b := by
  rw [← q_sub a b, ← h, ← Int.sub_mul, Rat.divInt_mul_right (den0 a)]
theorem q_mul (a b : Rat) : Rat.divInt (a.num * b.num) (a.den * b.den) = a * b := by
  conv => rhs; rw [← q_def a, ← q_def b]
  rw [Rat.divInt_mul_divInt]
theorem q_div (a b : Rat) : Rat.divInt (a.num * b.den) (a.den * b.num) = a / b := by
  conv => rhs; rw [← q_def a, ← q_def b]
  rw [Rat.div_def, Rat.inv_divInt, Rat.divInt_mul_divInt]
theorem num_ne {q : Rat} (h : q ≠ 0) : q.num ≠ 0 := fun z => h (by rw [← q_def q, z]; exact Rat.zero_divInt _)
theorem q_int (n : Int) : (n : Rat).num = n ∧ (n : Rat).den = 1 := ⟨rfl, rfl⟩
/-! ### sizes -/
def Sz (n : Nat) (q : Rat) : Prop := q.num.natAbs < 2 ^ n ∧ q.den < 2 ^ n
theorem Sz.mono {m n : Nat} {q : Rat} (h : Sz m q) (hl : m ≤ n) : Sz n q := ⟨Nat.lt_of_lt_of_le h.1 (Nat.pow_le_pow_right (by decide) hl), Nat.lt_of_lt_of_le h.2 (Nat.pow_le_pow_right (by decide) hl)⟩
theorem abs_mul {i j : Int} {a b : Nat} (ha : i.natAbs < 2 ^ a) (hb : j.natAbs < 2 ^ b) : (i * j).natAbs < 2 ^ (a + b) := wide_lt ha hb
theorem mulOk {i j : Int} {a b : Nat} (ha : i.natAbs < 2 ^ a) (hb : j.natAbs < 2 ^ b) (h0 : 0 < a) (h1 : 0 < b) (h : a + b ≤ 1000000) : CMulW i j := wide_mul ha hb h0 h1 h
/-- small enough for one operation more -/
def S4 (q : Rat) : Prop := q.num.natAbs < 2 ^ 100000 ∧ q.den < 2 ^ 4000
theorem S4.den {q : Rat} (h : S4 q) : ((q.den : Int)).natAbs < 2 ^ 4000 := by have := h.2; omega
end Y

set_option Elab.async false
set_option linter.all false
set_option maxRecDepth 100000
set_option maxHeartbeats 1000000
/-! # Walks: for, comprehensions, while -/
namespace Y
open PySem L2
/-- what a for walks: n turns; what turn i gives is told by R -/
def IT (R : Nat → Hp → V → Prop) (wi : TI) (σ : L2.St) (K : Hp) (n : Nat) : Prop := ∀ H, Ex K H → ∀ Rk : It → Hp → Prop,
  (∀ J H2 F G Y, Grow K H F H2 → Walk J n G Y → (∀ H', Ex F H' → G H') → (∀ i H3 x H4 F3, i < n → Ex F F3 → Ex F3 H3 → Y i H3 x H4 → ∃ F4, Grow F3 H3 F4 H4 ∧ R i F4 x) → Rk J H2) → wi σ H Rk
def rAt {α : Type} (r : Rp α) (xs : List α) (i : Nat) : Hp → V → Prop := fun F v => ∃ x, xs[i]? = some x ∧ r F v x
section
variable {α β : Type} {r : Rp α} {s : Rp β} {σ : L2.St} {K K' H : Hp} {ta tb te tl : TE} {t u : TT} {x : α} {y : β} {Kf : PySem.W.Frag}
theorem it_list {xs : List α} [Mono r] (h : E (rLst r) tl σ K xs) : IT (rAt r xs) (iList Kf tl) σ K xs.length := fun H a Rk q => h H a _ fun v H2 F g ⟨b, vs, hv, hb, hp⟩ =>
  ⟨b, hv, ⟨vs, sq_of (g.f b _ hb)⟩, by
    have w := walk_list (K := Kf) (a := b) (xs := vs)
    rw [p_len hp] at w
    refine q _ H2 F _ _ g w (fun H' e => sq_of (e b _ hb)) fun i H3 x H4 F3 hi e1 e2 hy => ?_
    obtain ⟨rfl, hx⟩ := hy
    obtain ⟨z, h1, h2⟩ := p_atl hp hx
    exact ⟨F3, Grow.refl e2, z, h1, up e1 h2⟩⟩
theorem it_range1 {n : Int} (h : E rInt ta σ K n) (h0 : 0 ≤ n) (h1 : n ≤ 100000) : IT (fun i _ v => v = .int (i : Int)) (iRng1 (tCons ta tNil)) σ K n.toNat := fun H a Rk q => h H a _ fun v H2 F g hv =>
  ⟨n, by cases hv; rfl, by omega, by omega, q _ H2 F _ _ g walk_range (fun _ _ => True.intro) fun i H3 x H4 F3 hi e1 e2 hy => by
    obtain ⟨rfl, hx⟩ := hy
    exact ⟨F3, Grow.refl e2, by
      show x = V.int (i : Int)
      rw [hx]
      show V.int (0 + (i : Int)) = V.int (i : Int)
      rw [Int.zero_add]⟩⟩
theorem it_range2 {lo n : Int} (h : E rInt ta σ K lo) (h' : E rInt tb σ K n) (h0 : -100000 ≤ lo ∧ lo ≤ 100000) (h1 : -100000 ≤ n ∧ n ≤ 100000) : IT (fun i _ v => v = .int (lo + (i : Int))) (iRng2 (tCons ta (tCons tb tNil))) σ K (n - lo).toNat := fun H a Rk q => two h h' H a _ fun v w H2 F g hv hw =>
  ⟨lo, n, by cases hv; cases hw; rfl, by omega, q _ H2 F _ _ g walk_range (fun _ _ => True.intro) fun i H3 x H4 F3 hi e1 e2 hy => by
    obtain ⟨rfl, hx⟩ := hy
    exact ⟨F3, Grow.refl e2, hx⟩⟩
/-- a pair at each turn -/
def rPair {α β : Type} (r : Rp α) (s : Rp β) (xs : List α) (ys : List β) (i : Nat) : Hp → V → Prop := fun F v => ∃ T a b x y, v = .ref T ∧ F T = some (.tup [a, b]) ∧ xs[i]? = some x ∧ ys[i]? = some y ∧ r F a x ∧ s F b y
theorem walk_zip' {K : PySem.W.Frag} {a b : Addr} {xs ys : List V} (h : xs.length = ys.length) : Walk (Itz K a b) xs.length (fun H => SqL K H a xs ∧ SqL K H b ys) (YPair (fun i => xs[i]?) (fun i => ys[i]?)) :=
  ⟨fun i _ hi q => ⟨xs, ys, xs[i], ys[i]'(by omega), q.1, q.2, by simp [hi], by simp [show i < ys.length by omega]⟩, fun _ q => ⟨xs, ys, q.1, q.2, Or.inl (Nat.le_refl _)⟩,
   fun _ _ _ _ _ q y => by
    obtain ⟨T, x, y', h1, h2, h3, h4, h5⟩ := y
    exact ⟨T, x, y', h1, h2, h3, h4 xs q.1, h5 ys q.2⟩⟩
theorem it_zip {xs : List α} {ys : List β} [Mono r] [Mono s] (h : E (rLst r) ta σ K xs) (h' : E (rLst s) tb σ K ys) (hl : xs.length = ys.length) : IT (rPair r s xs ys) (iZip Kf (tCons ta (tCons tb tNil))) σ K xs.length :=
  fun H a Rk q => two h h' H a _ fun v w H2 F g ⟨b, vs, hv, hb, hp⟩ ⟨c, ws, hw, hc, hq⟩ => ⟨b, c, vs, ws, by rw [hv, hw], sq_of (g.f b _ hb), sq_of (g.f c _ hc), by
    have w := walk_zip' (K := Kf) (a := b) (b := c) (xs := vs) (ys := ws) (by rw [p_len hp, p_len hq, hl])
    rw [p_len hp] at w
    refine q _ H2 F _ _ g w (fun H' e => ⟨sq_of (e b _ hb), sq_of (e c _ hc)⟩) fun i H3 x H4 F3 hi e1 e2 hy => ?_
    obtain ⟨T, x1, y1, rfl, hT, rfl, hx, hy⟩ := hy
    obtain ⟨z, h1, h2⟩ := p_atl hp hx
    obtain ⟨z', h1', h2'⟩ := p_atl hq hy
    have gn := (Grow.refl e2).new (o := .tup [x1, y1]) hT
    exact ⟨_, gn, T, x1, y1, z, z', rfl, upd_same, h1, h1', up (e1.trans gn.k) h2, up (e1.trans gn.k) h2'⟩⟩
theorem walk_enum' {K : PySem.W.Frag} {a : Addr} {xs : List V} : Walk (Ite K a) xs.length (fun H => SqL K H a xs) (YPair (fun i => some (.int (i : Int))) (fun i => xs[i]?)) :=
  ⟨fun i _ hi q => ⟨xs, xs[i], q, by simp [hi]⟩, fun _ q => ⟨xs, q, Nat.le_refl _⟩,
   fun _ _ _ _ _ q y => by
    obtain ⟨T, x, h1, h2, h3, h4⟩ := y
    exact ⟨T, _, x, h1, h2, h3, rfl, h4 xs q⟩⟩
def rEnum {α : Type} (r : Rp α) (xs : List α) (i : Nat) : Hp → V → Prop := fun F v => ∃ T b x, v = .ref T ∧ F T = some (.tup [.int (i : Int), b]) ∧ xs[i]? = some x ∧ r F b x
theorem it_enum {xs : List α} [Mono r] (h : E (rLst r) ta σ K xs) : IT (rEnum r xs) (iEnum Kf (tCons ta tNil)) σ K xs.length :=
  fun H a Rk q => h H a _ fun v H2 F g ⟨b, vs, hv, hb, hp⟩ => ⟨b, vs, by rw [hv], sq_of (g.f b _ hb), by
    have w := walk_enum' (K := Kf) (a := b) (xs := vs)
    rw [p_len hp] at w
    refine q _ H2 F _ _ g w (fun H' e => sq_of (e b _ hb)) fun i H3 x H4 F3 hi e1 e2 hy => ?_
    obtain ⟨T, x1, y1, rfl, hT, rfl, hx, hy⟩ := hy
    cases hx
    obtain ⟨z', h1', h2'⟩ := p_atl hp hy
    have gn := (Grow.refl e2).new (o := .tup [.int (i : Int), y1]) hT
    exact ⟨_, gn, T, y1, z', rfl, upd_same, h1', up (e1.trans gn.k) h2'⟩⟩
/-- a target that takes a value -/
def Tg (g : TG) (σ : L2.St) (F : Hp) (v : V) (σ' : L2.St) : Prop := ∀ H, Ex F H → ∀ Q : L2.St → Hp → Prop, Q σ' H → g v σ H Q
theorem tg_name {j : Nat} {F : Hp} {v : V} : Tg (gName j) σ F v (σ.set j (some v)) := fun _ _ _ q => q
theorem tg_two {i j : Nat} {F : Hp} {T : Addr} {a b : V} (h : SqT Kf F T [a, b]) : Tg (gTup Kf 2 (gCons (gName i) (gCons (gName j) gNil))) σ F (.ref T) ((σ.set i (some a)).set j (some b)) :=
  fun H e Q q => ⟨T, [a, b], rfl, ex_t e h, rfl, a, [b], rfl, b, [], rfl, rfl, q⟩
/-- a comprehension -/
theorem en_lc {R : Nat → Hp → V → Prop} {wi : TI} {g : TG} {tt : TT} {vs : List Nat} {n : Nat} {f : Nat → α} {p : Nat → Bool} [Mono r] (h : IT R wi σ K n) (hn : n ≤ 100000)
    (hs : ∀ i v F, i < n → Ex K F → R i F v → ∃ σ2, Tg g (wipe σ vs) F v σ2 ∧ wipe σ2 vs = wipe σ vs ∧ T tt σ2 F (p i) ∧ (p i = true → E r te σ2 F (f i))) : EN r (tLc wi g tt te vs) σ K (((List.range n).filter p).map f) :=
  fun H a Q q => h H a _ fun J H2 F G Y gr w hG hY Dl hD => by
    have fD : F Dl = none := gr.f.free hD
    refine lc_it w (fun i H' => ∃ F' acc, Ex F F' ∧ Grow K H F' H' ∧ F' Dl = none ∧ H Dl = none ∧ H' Dl = some (.lst acc) ∧ acc.length ≤ i ∧ Paired (r F') acc (((List.range i).filter p).map f))
      ⟨F, [], Ex.refl F, ⟨gr.h.trans (Ex.new hD), gr.k, gr.f.trans (Ex.new hD), gr.n⟩, fD, gr.h.free hD, upd_same, Nat.zero_le _, .nil⟩ (fun i H' _ ⟨F', acc, e, g', _⟩ => hG H' (e.trans g'.f)) ?_ ?_
    · rintro i v H3 H4 hi ⟨F', acc, e, g', d1, d2, d3, hl, hp⟩ hy
      obtain ⟨F4, g4, hR⟩ := hY i H3 v H4 F' hi e g'.f hy
      have g5 := g'.trans g4
      obtain ⟨σ2, k1, k2, k3, k4⟩ := hs i v F4 hi g5.k hR
      have dd : ∀ {F5 H5}, Grow F4 H4 F5 H5 → F5 Dl = none := fun {F5 H5} g => by
        cases z : F5 Dl with
        | none => rfl
        | some o =>
          have n4 : F4 Dl = none := by
            cases z4 : F4 Dl with
            | none => rfl
            | some o4 =>
              have := g4.n Dl d1 (by rw [z4]; exact fun z => nomatch z)
              rw [d3] at this; cases this
          have := g.n Dl n4 (by rw [z]; exact fun z => nomatch z)
          rw [g4.h _ _ d3] at this; cases this
      refine k1 H4 g4.f _ ⟨k2, k3 H4 g4.f _ fun H5 e5 => ?_⟩
      cases hb : p i with
      | true =>
        refine (k4 hb) H5 (g4.f.trans e5) _ fun y H6 F6 g6 hy6 => ?_
        have g7 := (Grow.of g4.f e5).trans g6
        refine ⟨acc, g7.h _ _ (g4.h _ _ d3), sz_lt (by omega), F6, acc ++ [y], e.trans (g4.k.trans g6.k), ?_, dd g7, d2, upd_same, by rw [List.length_append]; show acc.length + 1 ≤ i + 1; omega, ?_⟩
        · have g8 := g5.trans g7
          exact ⟨g8.h.mut d2, g8.k, g8.f.mut (dd g7), g8.n⟩
        · rw [List.range_succ, List.filter_append, List.map_append, List.filter_cons, if_pos hb]
          exact p_app (p_up (g4.k.trans g6.k) hp) (.cons hy6 .nil)
      | false =>
        show ∃ F' acc, _
        refine ⟨F4, acc, e.trans g4.k, ?_, dd (Grow.refl g4.f), d2, e5 _ _ (g4.h _ _ d3), by omega, ?_⟩
        · exact ⟨g5.h.trans e5, g5.k, g5.f.trans e5, g5.n⟩
        · rw [List.range_succ, List.filter_append, List.map_append, List.filter_cons, if_neg (by rw [hb]; decide)]
          show Paired _ acc (_ ++ [])
          rw [List.append_nil]
          exact p_up g4.k hp
    · rintro H' ⟨F', acc, e, g', d1, d2, d3, hl, hp⟩
      exact q Dl acc H' F' g' d1 d2 d3 hp
theorem t_yes : T tYes σ K true := fun H _ _ q => q H (Ex.refl H)
theorem filter_all {n : Nat} {f : Nat → α} : ((List.range n).filter fun _ => true).map f = (List.range n).map f := by rw [List.filter_eq_self.mpr (fun _ _ => rfl)]
/-- without a test -/
theorem en_lc0 {R : Nat → Hp → V → Prop} {wi : TI} {g : TG} {vs : List Nat} {n : Nat} {f : Nat → α} [Mono r] (h : IT R wi σ K n) (hn : n ≤ 100000)
    (hs : ∀ i v F, i < n → Ex K F → R i F v → ∃ σ2, Tg g (wipe σ vs) F v σ2 ∧ wipe σ2 vs = wipe σ vs ∧ E r te σ2 F (f i)) : EN r (tLc wi g tYes te vs) σ K ((List.range n).map f) :=
  (en_lc (p := fun _ => true) h hn fun i v F hi e hR => by
    obtain ⟨σ2, k1, k2, k3⟩ := hs i v F hi e hR
    exact ⟨σ2, k1, k2, t_yes, fun _ => k3⟩).as filter_all
/-- over a list, by its items -/
theorem map_range {ys : List β} {f : β → α} (d : β) : ((List.range ys.length).map fun i => f (ys.getD i d)) = ys.map f := by
  apply List.ext_getElem (by simp)
  intro i h1 h2
  simp at h1 h2
  simp [h1]
theorem en_lcL {ys : List β} {f : β → α} {j : Nat} {vs : List Nat} [Mono r] [Mono s] [Inhabited β] (h : E (rLst s) tl σ K ys) (hn : ys.length ≤ 100000) (hw : ∀ v, wipe ((wipe σ vs).set j (some v)) vs = wipe σ vs)
    (hs : ∀ y v F, y ∈ ys → Ex K F → s F v y → E r te ((wipe σ vs).set j (some v)) F (f y)) : EN r (tLc (iList Kf tl) (gName j) tYes te vs) σ K (ys.map f) :=
  (en_lc0 (f := fun i => f (ys.getD i default)) (it_list h) hn fun i v F hi e ⟨y, hy, hv⟩ =>
    ⟨_, tg_name, hw v, by
      have := hs y v F (List.mem_of_getElem? hy) e hv
      rw [List.getD_eq_getElem?_getD, hy]; exact this⟩).as (map_range default)
/-- over a range from 0 -/
theorem en_lcR {n : Int} {f : Nat → α} {j : Nat} {vs : List Nat} [Mono r] (h : E rInt ta σ K n) (h0 : 0 ≤ n) (h1 : n ≤ 100000) (hw : ∀ v, wipe ((wipe σ vs).set j (some v)) vs = wipe σ vs)
    (hs : ∀ (i : Nat) F, (i : Int) < n → Ex K F → E r te ((wipe σ vs).set j (some (.int (i : Int)))) F (f i)) : EN r (tLc (iRng1 (tCons ta tNil)) (gName j) tYes te vs) σ K ((List.range n.toNat).map f) :=
  en_lc0 (it_range1 h h0 h1) (by omega) fun i v F hi e hv => by subst hv; exact ⟨_, tg_name, hw _, hs i F (by omega) e⟩

/-! ### while, for -/
variable {D : Ends} {c : TT} {tw : TS}
theorem s_while (W : Nat → L2.St → Hp → Prop) (m0 : Nat) (h0 : W m0 σ H)
    (hs : ∀ m σ' H', W m σ' H' → ∃ b Kx, Ex Kx H' ∧ T c σ' Kx b ∧ (b = true → ∀ H1, Ex H' H1 → tw { D with nx := fun σ2 H2 => ∃ m', m' < m ∧ W m' σ2 H2, ct := fun σ2 H2 => ∃ m', m' < m ∧ W m' σ2 H2, bk := D.nx } σ' H1) ∧ (b = false → ∀ H1, Ex H' H1 → D.nx σ' H1)) : tWhile c tw D σ H :=
  ⟨W, ⟨m0, h0⟩, fun m σ' H' hw => by
    obtain ⟨b, Kx, ex, hb, h1, h2⟩ := hs m σ' H' hw
    refine hb H' ex _ fun H1 e => ?_
    cases b with
    | true => exact ⟨_, fun _ _ h => h, h1 rfl H1 e⟩
    | false => exact h2 rfl H1 e⟩
/-- for over a range: Pv by the turn, the slots, the heap -/
theorem s_for {R : Nat → Hp → V → Prop} {wi : TI} {g : TG} {n : Nat} (h : IT R wi σ K n) (ex : Ex K H) (Pv : Hp → Nat → L2.St → Hp → Prop) (h0 : ∀ F H1, Grow K H F H1 → Pv F 0 σ H1) (hG : ∀ F i σ' H', Pv F i σ' H' → Ex F H')
    (hs : ∀ F i v σ' H' H'', i < n → Pv F i σ' H' → (∀ F3, Ex F F3 → Ex F3 H' → ∃ F4, Grow F3 H' F4 H'' ∧ R i F4 v) → g v σ' H'' fun σ2 H2 => tw { D with nx := Pv F (i + 1), ct := Pv F (i + 1), bk := D.nx } σ2 H2)
    (hd : ∀ F σ' H', Pv F n σ' H' → D.nx σ' H') : tFor wi g tw D σ H :=
  h H ex _ fun J H2 F G Y gr w hGG hY => for_it w (Pv F) (h0 F H2 gr) (fun i σ' H' _ p => hGG H' (hG F i σ' H' p)) (fun i v σ' H' H'' hi p hy => hs F i v σ' H' H'' hi p fun F3 e1 e2 => hY i H' v H'' F3 hi e1 e2 hy) (hd F)
theorem s_forR1 {n : Int} {j : Nat} (h : E rInt ta σ K n) (h0 : 0 ≤ n) (h1 : n ≤ 100000) (ex : Ex K H) (Pv : Nat → L2.St → Hp → Prop) (hb : ∀ H1, Ex H H1 → Pv 0 σ H1)
    (hs : ∀ (i : Nat) σ' H', (i : Int) < n → Pv i σ' H' → tw { D with nx := Pv (i + 1), ct := Pv (i + 1), bk := D.nx } (σ'.set j (some (.int (i : Int)))) H') (hd : ∀ σ' H', Pv n.toNat σ' H' → D.nx σ' H') : tFor (iRng1 (tCons ta tNil)) (gName j) tw D σ H :=
  h H ex _ fun v H2 F g hv => ⟨n, by cases hv; rfl, by omega, by omega, for_range (lo := 0) (n := n.toNat) Pv (hb H2 g.h) (fun i σ' H' hi p => by
    have e0 : (0 : Int) + (i : Int) = (i : Int) := Int.zero_add _
    show tw { D with nx := Pv (i + 1), ct := Pv (i + 1), bk := D.nx } (σ'.set j (some (.int ((0 : Int) + (i : Int))))) H'
    rw [e0]
    exact hs i σ' H' (by omega) p) hd⟩
theorem s_forR2 {lo n : Int} {j : Nat} (h : E rInt ta σ K lo) (h' : E rInt tb σ K n) (h0 : -100000 ≤ lo ∧ lo ≤ 100000) (h1 : -100000 ≤ n ∧ n ≤ 100000) (ex : Ex K H) (Pv : Nat → L2.St → Hp → Prop) (hb : ∀ H1, Ex H H1 → Pv 0 σ H1)
    (hs : ∀ (i : Nat) σ' H', lo + (i : Int) < n → Pv i σ' H' → tw { D with nx := Pv (i + 1), ct := Pv (i + 1), bk := D.nx } (σ'.set j (some (.int (lo + (i : Int))))) H') (hd : ∀ σ' H', Pv (n - lo).toNat σ' H' → D.nx σ' H') : tFor (iRng2 (tCons ta (tCons tb tNil))) (gName j) tw D σ H :=
  two h h' H ex _ fun v w H2 F g hv hw => ⟨lo, n, by cases hv; cases hw; rfl, by omega, for_range (lo := lo) (n := (n - lo).toNat) Pv (hb H2 g.h) (fun i σ' H' hi p => hs i σ' H' (by omega) p) hd⟩
/-- an own list grows by an item -/
theorem s_app {o : Addr} {xs : List V} {i : Nat} [Mono r] (hi : σ[i]? = some (some (.ref o))) (hk : K o = none) (ho : H o = some (.lst xs)) (hz : xs.length < 100000) (ex : Ex K H) (h : E r te σ K x)
    (k : ∀ v H2 F, Grow K H F H2 → r F v x → F o = none → D.nx σ (upd H2 o (.lst (xs ++ [v])))) : tDrop (tBM Kf "list" rAppend (tVar i) (tCons te tNil)) D σ H :=
  ⟨.ref o, hi, Or.inl ⟨rfl, xs, sq_of ho⟩, h H ex _ fun v H2 F g hv => ⟨o, xs, v, rfl, rfl, g.h o _ ho, sz_lt hz, k v H2 F g hv (by
    cases z : F o with
    | none => rfl
    | some u => have := g.n o hk (by rw [z]; exact fun z => nomatch z); rw [ho] at this; cases this)⟩⟩
/-- the same, where the item is reckoned from the list itself -/
theorem s_app_own {o : Addr} {xs : List V} {i : Nat} [Mono r] [Flat r] (hi : σ[i]? = some (some (.ref o))) (hk : K o = none) (ho : H o = some (.lst xs)) (hz : xs.length < 100000) (ex : Ex K H) (h : E r te σ (upd K o (.lst xs)) x)
    (k : ∀ v H2 F, Grow K H F H2 → r F v x → F o = none → D.nx σ (upd H2 o (.lst (xs ++ [v])))) : tDrop (tBM Kf "list" rAppend (tVar i) (tCons te tNil)) D σ H :=
  ⟨.ref o, hi, Or.inl ⟨rfl, xs, sq_of ho⟩, h.own hk H ex ho _ fun v H2 F g hv => ⟨o, xs, v, rfl, rfl, g.h o _ ho, sz_lt hz, k v H2 F g hv (by
    cases z : F o with
    | none => rfl
    | some u => have := g.n o hk (by rw [z]; exact fun z => nomatch z); rw [ho] at this; cases this)⟩⟩
end
end Y

set_option Elab.async false
set_option linter.all false
set_option maxRecDepth 100000
set_option maxHeartbeats 1000000
/-! # What raises an own error; equality of fractions -/
namespace Y
open PySem L2
section
variable {α β : Type} {r : Rp α} {s : Rp β} {σ : L2.St} {K K' H : Hp} {ta tb tl te : TE} {t u : TT} {x : α} {y : β} {Kf : PySem.W.Frag} {D : Ends}
/-- a made error: its dict -/
def BadAt (H : Hp) (d : Addr) : Prop := ∃ fs : List (Str × V), H d = some (.xd fs) ∧ fs.lookup ("code" : Str) = some (.str ("BadNumber" : Str)) ∧ ∃ z : Str, fs.lookup ("why" : Str) = some (.str z) ∧ z ≠ ("" : Str)
theorem BadAt.up {H H' : Hp} {d : Addr} (e : Ex H H') (h : BadAt H d) : BadAt H' d := by
  obtain ⟨fs, h1, h2⟩ := h
  exact ⟨fs, e _ _ h1, h2⟩
def ResX (C : Addr) (K H : Hp) (E : XK) : Prop := ∀ d H' F, Grow K H F H' → BadAt F d → E (.ref C) (some d) H'
theorem ResX.from {C : Addr} {H H' F' : Hp} {E : XK} (g : Grow K H F' H') (h : ResX C K H E) : ResX C F' H' E := fun d H2 F g2 b => h d H2 F (g.trans g2) b
/-- a reading that raises -/
def XX (C : Addr) (te : TE) (σ : L2.St) (K : Hp) (E : XK) : Prop := ∀ H, Ex K H → ResX C K H E → ∀ Q, te σ H Q
def XA (C : Addr) (ta : TA) (σ : L2.St) (K : Hp) (E : XK) : Prop := ∀ H, Ex K H → ResX C K H E → ∀ Q, ta σ H Q
theorem xx_call {C : Addr} {P : PP} {sp : Sp} {E : XK} {tr : TA} (h : EA P tr σ K) (hs : ∀ F H vs Q, Ex F H → P F vs → ResX C F H E → sp vs H Q E) : XX C (tCall sp [] E tr) σ K E :=
  fun H a q Q => h H a _ fun vs H2 F g hp => by
    show sp (vs ++ []) H2 Q E
    rw [List.append_nil]
    exact hs F H2 vs Q g.f hp (q.from g)
theorem xx_in {C : Addr} {sp : Sp} {E E' : XK} {tr : TA} (h : XA C tr σ K E) : XX C (tCall sp [] E' tr) σ K E := fun H a q Q => h H a q _
theorem xa_one {C : Addr} {E : XK} {tr : TA} (h : XX C te σ K E) : XA C (tCons te tr) σ K E := fun H a q Q => h H a q _
theorem xa_two {C : Addr} {E : XK} {tr : TA} (h : EN r te σ K ([] : List α)) (h' : XA C tr σ K E) : True := trivial
theorem s_retX {C : Addr} {E : XK} (h : XX C te σ K E) (ex : Ex K H) (q : ResX C K H E) : tRet te D σ H := h H ex q _
theorem s_dropX {C : Addr} {E : XK} (h : XX C te σ K E) (ex : Ex K H) (q : ResX C K H E) : tDrop te D σ H := h H ex q _
/-- equality of fractions -/
def qD (q : Rat) : PyData := .tuple [.int q.num, .int (q.den : Int)]
theorem dp_q {v : V} {q : Rat} (h : rQ Kf K v q) : Dp Kf K v (qD q) := by
  obtain ⟨a, rfl, h⟩ := h
  exact .tup h (.cons (.int _) (.cons (.int _) .nil))
theorem sh_q (q : Rat) : SeqAt.shaped (qD q) = true := by
  unfold qD SeqAt.shaped; rfl
theorem eqv_q (a b : Rat) : PyData.eqv (qD a) (qD b) = decide (a = b) := by
  show ((a.num == b.num) && (((a.den : Int) == (b.den : Int)) && true)) = decide (a = b)
  by_cases h : a = b
  · subst h; simp
  · rw [decide_eq_false h]
    by_cases h1 : a.num = b.num
    · by_cases h2 : a.den = b.den
      · exact absurd (Rat.ext h1 h2) h
      · simp [h1, show ¬ ((a.den : Int) = b.den) by omega]
    · simp [h1]
theorem e_eqQ {a b : Rat} (ha : E (rQ Kf) ta σ K a) (hb : E (rQ Kf) tb σ K b) : E rBl (tOp (rEqD Kf) ta tb) σ K (decide (a = b)) :=
  fun H e Q q => two ha hb H e _ fun v w H2 F g hv hw => ⟨_, _, dp_q (up g.f hv), dp_q (up g.f hw), sh_q _, sh_q _, q _ H2 F g (by rw [eqv_q]; rfl)⟩
theorem e_neQ {a b : Rat} (ha : E (rQ Kf) ta σ K a) (hb : E (rQ Kf) tb σ K b) : E rBl (tOp (rNeD Kf) ta tb) σ K (!decide (a = b)) :=
  fun H e Q q => two ha hb H e _ fun v w H2 F g hv hw => ⟨_, _, dp_q (up g.f hv), dp_q (up g.f hw), sh_q _, sh_q _, q _ H2 F g (by rw [eqv_q]; rfl)⟩
end
end Y

set_option Elab.async false
set_option linter.all false
set_option maxRecDepth 100000
set_option maxHeartbeats 2000000
/-! # Own errors whose context is None; calls under a handler -/
namespace L2
open PySem PySem.Spec PyProof.Rows
section
variable {P : Program} {w : World} {K : PySem.W.Frag} {mg : Str → Option Value} {base : Heap}
/-- as Fun.okX, the context of what is let out being None -/
theorem Fun.okN {x qual : Str} {st : Stmt} {f : Addr} {fd : FuncData} {N ps : List Str} {k : Nat} {sp : Sp} (G : Fun K x qual st f fd) (S : FnScope N ps (defScope st)) (hlen : ∀ vs H Q E, sp vs H Q E → vs.length = ps.length)
    (hb : ∀ (cdv : Value) (A : Around) (outer : List Env) (s : Shared) (H : Hp) (vs : List V) (Q : VK) (E : XK), Room k (A.deeper (envOfC qual (defScope st) s.heap.objs.size f cdv)) → sp vs H Q E →
      ∃ t, PSs (cxOf (L2N.CX P w) P w K mg base N qual (defScope st) f cdv A outer s H E) (defBody st) t ∧ t { nx := fun _ H' => Q .non H', rt := Q } (start N vs) H) : FnOk P w K mg base (L2N.CX P w) (k + 1) f fd ps sp := by
  obtain ⟨_, _, _, _, _, _, cdv, _, _, rfl, hl, hc⟩ := G.ex
  exact fn_of hl hc S hlen fun A outer s H vs Q E hr q => hb cdv A outer s H vs Q E hr q
/-- a def that is called while an exception is handled -/
theorem Fun.okH {x qual : Str} {st : Stmt} {f : Addr} {fd : FuncData} {N ps : List Str} {k : Nat} {sp : Sp} (G : Fun K x qual st f fd) (S : FnScope N ps (defScope st)) (hlen : ∀ vs H Q E, sp vs H Q E → vs.length = ps.length)
    (hb : ∀ (cdv : Value) (A : Around) (outer : List Env) (s : Shared) (H : Hp) (vs : List V) (Q : VK) (E : XK) (p : Addr × Obj), L2H.RoomH k (A.deeper (envOfC qual (defScope st) s.heap.objs.size f cdv)) → sp vs H Q E →
      ∃ t, PSs (L2H.cxH CX0 P w K mg base N qual (defScope st) f cdv A outer s H E p) (defBody st) t ∧ t { nx := fun _ H' => Q .non H', rt := Q } (start N vs) H) : L2H.FnH P w K mg base CX0 (k + 1) f fd ps sp := by
  obtain ⟨_, _, _, _, _, _, cdv, _, _, rfl, hl, hc⟩ := G.ex
  exact L2H.fn_ofH hl hc S hlen fun A outer s H vs Q E p _ hr q => hb cdv A outer s H vs Q E p hr q
end
theorem passLN {X : Cx} : Passes (L2N.CX X.prog X.w) X E0 := fun _ _ _ _ _ _ _ h => by
  obtain ⟨_, _, _, _, _, _, _, _, _, _, _, _, z⟩ := h
  exact z.elim
section
variable {X : Cx} {e : Expr} {es : List Expr} {ta : TA} {p pos : Pos}
/-- C(e, ..), the error's context told -/
theorem pmkN {CX : CXT} {x : Str} {C fI : Addr} {k : Nat} {fd : FuncData} {ps : List Str} {sp : Sp} {ds : List Value} {dvs : List V} (T : OexC X.K C) (iC : PySem.W.findIn X.K (.ref C) "__init__" = some (some (.ref fI))) (tI : PySem.W.typeIn X.K (.ref fI) = some (.type "function"))
    (F1 : FnOk X.prog X.w X.K X.mg X.base CX k fI fd ps sp) (hr : Room (k + 1) X.A) (hb : Binds X.K fd ps ds) (hd : Vals dvs ds) (hx : Passes CX X (fun _ _ _ => False)) (hg : Gl X x) (hm : X.mg x = some (.ref C)) (ha : PA X (e :: es) ta)
    (hdb : (x == ("__debug__" : Str)) = false := by decide) (he : starEach (e :: es) X.env = (false, eval e X.env) :: starEach es X.env := by rfl) (hpl : (backTo pos (starEach es X.env)).any (·.1) = false := by rfl) :
    L2N.PMk X (.Call (.Name x p) (e :: es) [] pos) (tMkO C sp dvs ta) := by
  intro pins s0 σ H Q I h
  have ⟨_, _, _, _, bm, _, _, _, _, _, _, _, _, _, _, hC, hbm⟩ := T.cls
  refine wpAny_Call_Name_kw (ld_glob I hg hm ?_ hdb)
  refine PySem.W.callWith_K (h₀ := X.base) I.ok.mod.kin T.kC (thn (ha.run pos pins s0 σ H _ I h) fun us s1 ⟨vs, H1, J1, rv, hz, q1⟩ => ⟨J1.kIn, ?_⟩) he hpl
  show wpAny _ _ (call (.ref C) us) _ _ _
  obtain ⟨hp, gs, dr, tk, os⟩ := s1
  let e1 : Addr := hp.objs.size + 1
  let hh : Heap := (hp.push (PySem.W.kdv_tup us)).push (PySem.HandSPX.excO C hp.objs.size)
  have le : hp.objs.size ≤ e1 := Nat.le_succ _
  have hq := q1 e1 (J1.hok.fresh le)
  have keep : ∀ b o, hp.get? b = some o → hh.get? b = some o := fun b o z => Heap.get?_push_of_some _ (Heap.get?_push_of_some _ z)
  have got : hh.get? e1 = some (PySem.HandSPX.excO C hp.objs.size) := by
    show ((hp.push (PySem.W.kdv_tup us)).push (PySem.HandSPX.excO C hp.objs.size)).get? (hp.objs.size + 1) = _
    heap_get
  have J2 : Inv X pins σ (upd H1 e1 (exo e1 C none)) ⟨hh, gs, dr, tk, os⟩ := J1.laid (t' := tk) keep le (exo_ok got)
  have r2 : Vals (V.ref e1 :: (vs ++ dvs)) (Value.ref e1 :: (us ++ ds)) := .cons rfl (rv.append hd)
  have hl : (Value.ref e1 :: us ++ ds).length = ps.length := by
    have z := r2.length
    rw [F1.len _ _ _ _ hq] at z
    exact z.symm
  have hus : us.length ≤ sizeLine := by
    have := Paired.length rv
    rw [sizeLine_eq]; omega
  refine wpAny_call (PySem.HandSPX.call_own F.excBase_ValueError (fun Y => PySem.HandSPX.refsVE_contains Y bm hbm) (J1.kIn _ _ hC) (PySem.W.looks_findIn J1.kIn iC) (fun self => PySem.W.bind_fn J1.kIn self tI) hus ?_)
  refine codeAny_mono (F1.run _ X.stack _ _ ⟨Value.ref e1 :: us, []⟩ (Value.ref e1 :: (us ++ ds)) _ _ (fun _ _ _ => False) (hr.make C us []) (J2.env0.make C us []) (hb _ (Value.ref e1 :: us) J2.kIn hl) r2 hq) fun r s2 hq' => ?_
  match r, hq' with
  | .error er, hq' => exact hx pins σ _ _ er s2 J2 hq'
  | .ok (.ret u), hq' =>
    obtain ⟨v, H2, os2, b2, un2, hok2, rv2, ev, d, fs, ea, ed, hd1, q2⟩ := hq'
    subst ev
    obtain ⟨h2, g2, d2, t2, os'⟩ := s2
    refine ⟨rv2, ?_⟩
    obtain ⟨t0, G, J, kG, ge, hoe, na⟩ := mk_end0 (d2 := d2) (t2 := t2) J1 le keep un2 hok2 os2 b2 ea ed hd1
    exact ⟨e1, _, _, ⟨G, g2, d2, t2, os'⟩, _, .ref C, some d, rfl, J, kG, ge, hoe, ⟨rfl, rfl, fun vs z => by cases z; rfl⟩, rfl, rfl, na, rfl, b2, raises_own T.exC T.tyC, q2⟩
  | .ok .next, hq' => exact False.elim hq'
  | .ok .brk, hq' => exact False.elim hq'
  | .ok .cont, hq' => exact False.elim hq'
end
end L2

set_option maxHeartbeats 400000
set_option linter.all false
/-! # Series of fractions modulo t ^ n: a ring with the derivation t d/dt. Plain Lean. -/
namespace Ser
/-- the sum of the first n -/
def sm (f : Nat → Rat) : Nat → Rat
  | 0 => 0
  | n + 1 => sm f n + f n
theorem sm_congr {f g : Nat → Rat} : ∀ {n : Nat}, (∀ i, i < n → f i = g i) → sm f n = sm g n
  | 0, _ => rfl
  | n + 1, h => by
    show sm f n + f n = sm g n + g n
    rw [sm_congr fun i hi => h i (by omega), h n (by omega)]
theorem sm_add (f g : Nat → Rat) : ∀ n, sm (fun i => f i + g i) n = sm f n + sm g n
  | 0 => by show (0 : Rat) = 0 + 0; grind
  | n + 1 => by
    show sm (fun i => f i + g i) n + (f n + g n) = (sm f n + f n) + (sm g n + g n)
    rw [sm_add f g n]; grind
theorem sm_mul (c : Rat) (f : Nat → Rat) : ∀ n, sm (fun i => c * f i) n = c * sm f n
  | 0 => by show (0 : Rat) = c * 0; grind
  | n + 1 => by
    show sm (fun i => c * f i) n + c * f n = c * (sm f n + f n)
    rw [sm_mul c f n]; grind
theorem sm_mulr (c : Rat) (f : Nat → Rat) (n : Nat) : sm (fun i => f i * c) n = sm f n * c := by
  rw [← Rat.mul_comm c, ← sm_mul]
  exact sm_congr fun i _ => Rat.mul_comm _ _
theorem sm_zero {f : Nat → Rat} : ∀ {n : Nat}, (∀ i, i < n → f i = 0) → sm f n = 0
  | 0, _ => rfl
  | n + 1, h => by
    show sm f n + f n = 0
    rw [sm_zero fun i hi => h i (by omega), h n (by omega)]; grind
/-- from the front -/
theorem sm_front (f : Nat → Rat) : ∀ n, sm f (n + 1) = f 0 + sm (fun i => f (i + 1)) n
  | 0 => by show (0 : Rat) + f 0 = f 0 + 0; grind
  | n + 1 => by
    show sm f (n + 1) + f (n + 1) = f 0 + (sm (fun i => f (i + 1)) n + f (n + 1))
    rw [sm_front f n]; grind
theorem sm_rev (f : Nat → Rat) : ∀ n, sm (fun i => f (n - 1 - i)) n = sm f n
  | 0 => rfl
  | n + 1 => by
    rw [sm_front]
    show f (n + 1 - 1 - 0) + _ = sm f n + f n
    have : sm (fun i => f (n + 1 - 1 - (i + 1))) n = sm f n := by
      rw [← sm_rev f n]
      exact sm_congr fun i hi => by congr 1; omega
    rw [this]
    show f n + _ = _
    grind
/-- double sums over i + j ≤ k, two ways -/
theorem sm_swap (F : Nat → Nat → Rat) : ∀ k, sm (fun i => sm (fun j => F i j) (k - i)) k = sm (fun s => sm (fun i => F i (s - i)) (s + 1)) k
  | 0 => rfl
  | k + 1 => by
    show sm (fun i => sm (fun j => F i j) (k + 1 - i)) k + sm (fun j => F k j) (k + 1 - k) = sm (fun s => sm (fun i => F i (s - i)) (s + 1)) k + sm (fun i => F i (k - i)) (k + 1)
    rw [← sm_swap F k]
    have e1 : sm (fun i => sm (fun j => F i j) (k + 1 - i)) k = sm (fun i => sm (fun j => F i j) (k - i)) k + sm (fun i => F i (k - i)) k := by
      rw [← sm_add]
      refine sm_congr fun i hi => ?_
      rw [show k + 1 - i = (k - i) + 1 by omega]
      rfl
    rw [e1, show k + 1 - k = 1 by omega]
    show _ + (0 + F k 0) = _ + (sm (fun i => F i (k - i)) k + F k (k - k))
    rw [Nat.sub_self]
    grind

/-- the product, number k -/
def cv (f g : Nat → Rat) (k : Nat) : Rat := sm (fun i => f i * g (k - i)) (k + 1)
theorem cv_comm (f g : Nat → Rat) (k : Nat) : cv f g k = cv g f k := by
  unfold cv
  rw [← sm_rev]
  refine sm_congr fun i hi => ?_
  show f (k + 1 - 1 - i) * g (k - (k + 1 - 1 - i)) = g i * f (k - i)
  rw [show k + 1 - 1 - i = k - i by omega, show k - (k - i) = i by omega, Rat.mul_comm]
theorem cv_congr {f f' g g' : Nat → Rat} {k : Nat} (h : ∀ i, i ≤ k → f i = f' i) (h' : ∀ i, i ≤ k → g i = g' i) : cv f g k = cv f' g' k :=
  sm_congr fun i hi => by rw [h i (by omega), h' (k - i) (by omega)]
theorem cv_assoc (f g h : Nat → Rat) (k : Nat) : cv (cv f g) h k = cv f (cv g h) k := by
  have e : cv f (cv g h) k = sm (fun i => sm (fun j => f i * (g j * h (k - i - j))) (k + 1 - i)) (k + 1) := by
    unfold cv
    refine sm_congr fun i hi => ?_
    rw [← sm_mul, show k + 1 - i = k - i + 1 by omega]
  rw [e, sm_swap]
  unfold cv
  refine sm_congr fun s hs => ?_
  rw [← sm_mulr]
  refine sm_congr fun i hi => ?_
  rw [Rat.mul_assoc, show k - i - (s - i) = k - s by omega]

/-- series modulo t ^ n -/
structure S (n : Nat) where
  c : Nat → Rat
  z : ∀ k, n ≤ k → c k = 0
namespace S
variable {n : Nat}
theorem ext {a b : S n} (h : ∀ k, k < n → a.c k = b.c k) : a = b := by
  obtain ⟨f, hf⟩ := a
  obtain ⟨g, hg⟩ := b
  have : f = g := funext fun k => by
    by_cases hk : k < n
    · exact h k hk
    · rw [hf k (by omega), hg k (by omega)]
  subst this; rfl
/-- cut off -/
def of (f : Nat → Rat) : S n := ⟨fun k => if k < n then f k else 0, fun k h => if_neg (by omega)⟩
theorem of_c {f : Nat → Rat} {k : Nat} (h : k < n) : (of f : S n).c k = f k := if_pos h
theorem of_eq {f g : Nat → Rat} (h : ∀ k, k < n → f k = g k) : (of f : S n) = of g := ext fun k hk => by rw [of_c hk, of_c hk, h k hk]
theorem of_self (a : S n) : of a.c = a := ext fun k hk => of_c hk
instance : Add (S n) := ⟨fun a b => of fun k => a.c k + b.c k⟩
instance : Mul (S n) := ⟨fun a b => of (cv a.c b.c)⟩
instance : Neg (S n) := ⟨fun a => of fun k => -a.c k⟩
instance : Sub (S n) := ⟨fun a b => of fun k => a.c k - b.c k⟩
def cst (q : Rat) : S n := of fun k => if k = 0 then q else 0
instance : NatCast (S n) := ⟨fun m => cst (m : Rat)⟩
instance : IntCast (S n) := ⟨fun m => cst (m : Rat)⟩
instance (m : Nat) : OfNat (S n) m := ⟨cst (m : Rat)⟩
theorem add_c (a b : S n) {k : Nat} (h : k < n) : (a + b).c k = a.c k + b.c k := of_c h
theorem mul_c (a b : S n) {k : Nat} (h : k < n) : (a * b).c k = cv a.c b.c k := of_c h
theorem neg_c (a : S n) {k : Nat} (h : k < n) : (-a).c k = -a.c k := of_c h
theorem sub_c (a b : S n) {k : Nat} (h : k < n) : (a - b).c k = a.c k - b.c k := of_c h
theorem cst_c (q : Rat) {k : Nat} (h : k < n) : (cst q : S n).c k = if k = 0 then q else 0 := of_c h
theorem num_c (m : Nat) {k : Nat} (h : k < n) : (OfNat.ofNat m : S n).c k = if k = 0 then (m : Rat) else 0 := of_c h
instance : SMul Nat (S n) := ⟨fun m a => (m : S n) * a⟩
instance : SMul Int (S n) := ⟨fun m a => (m : S n) * a⟩
def pw (a : S n) : Nat → S n
  | 0 => 1
  | k + 1 => pw a k * a
instance : HPow (S n) Nat (S n) := ⟨pw⟩
theorem mul_comm (a b : S n) : a * b = b * a := ext fun k hk => by rw [mul_c a b hk, mul_c b a hk, cv_comm]
theorem cst_mul_c (q : Rat) (a : S n) {k : Nat} (h : k < n) : (cst q * a).c k = q * a.c k := by
  rw [mul_c _ _ h]
  unfold cv
  rw [sm_front]
  rw [cst_c q (by omega), if_pos rfl, Nat.sub_zero]
  rw [sm_zero]
  · grind
  · intro i hi
    by_cases hn : i + 1 < n
    · rw [cst_c q hn, if_neg (by omega)]; grind
    · rw [(cst q : S n).z (i + 1) (by omega)]; grind
theorem natCast_eq (m : Nat) : (m : S n) = cst (m : Rat) := rfl
theorem intCast_eq (m : Int) : (m : S n) = cst (m : Rat) := rfl
theorem ofNat_eq (m : Nat) : (OfNat.ofNat m : S n) = cst (m : Rat) := rfl
theorem c0 : ((0 : Nat) : Rat) = 0 := rfl
theorem c1 : ((1 : Nat) : Rat) = 1 := rfl
instance : Lean.Grind.CommRing (S n) where
  ofNat := fun m => inferInstance
  natCast := inferInstance
  nsmul := inferInstance
  npow := inferInstance
  intCast := inferInstance
  zsmul := inferInstance
  add_zero a := ext fun k hk => by
    rw [add_c _ _ hk, ofNat_eq, cst_c _ hk, c0]
    split <;> grind
  add_comm a b := ext fun k hk => by rw [add_c _ _ hk, add_c _ _ hk, Rat.add_comm]
  add_assoc a b c := ext fun k hk => by rw [add_c _ _ hk, add_c _ _ hk, add_c _ _ hk, add_c _ _ hk, Rat.add_assoc]
  mul_assoc a b c := ext fun k hk => by
    rw [mul_c _ _ hk, mul_c _ _ hk]
    rw [cv_congr (f' := cv a.c b.c) (fun i hi => mul_c a b (by omega)) (fun i _ => rfl), cv_assoc]
    exact (cv_congr (fun i _ => rfl) fun i hi => mul_c b c (by omega)).symm
  mul_one a := ext fun k hk => by rw [mul_comm, ofNat_eq, cst_mul_c _ _ hk, c1]; grind
  one_mul a := ext fun k hk => by rw [ofNat_eq, cst_mul_c _ _ hk, c1]; grind
  left_distrib a b c := ext fun k hk => by
    rw [mul_c _ _ hk, add_c _ _ hk, mul_c _ _ hk, mul_c _ _ hk]
    unfold cv
    rw [← sm_add]
    exact sm_congr fun i hi => by rw [add_c _ _ (by omega)]; grind
  right_distrib a b c := ext fun k hk => by
    rw [mul_c _ _ hk, add_c _ _ hk, mul_c _ _ hk, mul_c _ _ hk]
    unfold cv
    rw [← sm_add]
    exact sm_congr fun i hi => by rw [add_c _ _ (by omega)]; grind
  zero_mul a := ext fun k hk => by rw [ofNat_eq, cst_mul_c _ _ hk, cst_c _ hk, c0]; split <;> grind
  mul_zero a := ext fun k hk => by rw [mul_comm, ofNat_eq, cst_mul_c _ _ hk, cst_c _ hk, c0]; split <;> grind
  pow_zero a := rfl
  pow_succ a k := rfl
  ofNat_succ m := ext fun k hk => by
    rw [add_c _ _ hk, ofNat_eq, ofNat_eq, ofNat_eq, cst_c _ hk, cst_c _ hk, cst_c _ hk]
    split
    · push_cast; rfl
    · grind
  neg_add_cancel a := ext fun k hk => by
    rw [add_c _ _ hk, neg_c _ hk, ofNat_eq, cst_c _ hk, c0]
    split <;> grind
  sub_eq_add_neg a b := ext fun k hk => by rw [add_c _ _ hk, neg_c _ hk, sub_c _ _ hk]; grind
  neg_zsmul i a := ext fun k hk => by
    show ((-i : Int) * a : S n).c k = (-((i : S n) * a)).c k
    rw [neg_c _ hk, intCast_eq, intCast_eq, cst_mul_c _ _ hk, cst_mul_c _ _ hk]
    push_cast; grind
  zsmul_natCast_eq_nsmul m a := rfl
  intCast_ofNat m := rfl
  intCast_neg i := ext fun k hk => by
    rw [neg_c _ hk, intCast_eq, intCast_eq, cst_c _ hk, cst_c _ hk]
    split
    · push_cast; rfl
    · grind
  mul_comm := mul_comm
example (a b : S n) : (a + b) * (a - b) = a * a - b * b := by grind
/-- t d/dt -/
def th (a : S n) : S n := of fun k => (k : Rat) * a.c k
theorem th_c (a : S n) {k : Nat} (h : k < n) : (th a).c k = (k : Rat) * a.c k := of_c h
theorem th_add (a b : S n) : th (a + b) = th a + th b := ext fun k hk => by rw [th_c _ hk, add_c _ _ hk, add_c _ _ hk, th_c _ hk, th_c _ hk]; grind
theorem th_sub (a b : S n) : th (a - b) = th a - th b := ext fun k hk => by rw [th_c _ hk, sub_c _ _ hk, sub_c _ _ hk, th_c _ hk, th_c _ hk]; grind
theorem th_mul (a b : S n) : th (a * b) = th a * b + a * th b := ext fun k hk => by
  rw [th_c _ hk, mul_c _ _ hk, add_c _ _ hk, mul_c _ _ hk, mul_c _ _ hk]
  unfold cv
  rw [← sm_add, ← sm_mul]
  refine sm_congr fun i hi => ?_
  rw [th_c _ (by omega), th_c _ (by omega)]
  have : (k : Rat) = (i : Rat) + ((k - i : Nat) : Rat) := by
    rw [← Rat.natCast_add]; congr 1; omega
  rw [this]; grind
theorem th_cst (q : Rat) : th (cst q : S n) = 0 := ext fun k hk => by
  rw [th_c _ hk, cst_c _ hk, ofNat_eq, cst_c _ hk]
  split
  · next h => subst h; simp
  · simp
theorem th_one : th (1 : S n) = 0 := by rw [ofNat_eq]; exact th_cst _
theorem th_num (m : Nat) : th (OfNat.ofNat m : S n) = 0 := th_cst _
/-- what begins with a number other than 0 may be cancelled -/
theorem cancel {a x : S n} (h0 : a.c 0 ≠ 0) (h : a * x = 0) : x = 0 := by
  have key : ∀ k, k < n → x.c k = 0 := by
    intro k
    induction k using Nat.strongRecOn with
    | ind k ih =>
      intro hk
      have e : (a * x).c k = 0 := by rw [h, ofNat_eq, cst_c _ hk]; split <;> rfl
      rw [mul_c _ _ hk] at e
      unfold cv at e
      rw [sm_front, Nat.sub_zero, sm_zero] at e
      · have : a.c 0 * x.c k = 0 := by grind
        grind
      · intro i hi
        rw [ih (k - (i + 1)) (by omega) (by omega)]; grind
  exact ext fun k hk => by rw [key k hk, ofNat_eq, cst_c _ hk]; split <;> rfl
theorem cancel2 {a x y : S n} (h0 : a.c 0 ≠ 0) (h : a * x = a * y) : x = y := by
  have : x - y = 0 := cancel h0 (by grind)
  grind
/-- what has no slope and begins with 0 is 0 -/
theorem flat {x : S n} (h : th x = 0) (h0 : x.c 0 = 0) : x = 0 := ext fun k hk => by
  have e : (th x).c k = 0 := by rw [h, ofNat_eq, cst_c _ hk]; split <;> rfl
  rw [th_c _ hk] at e
  rw [ofNat_eq, cst_c _ hk]
  by_cases z : k = 0
  · subst z; rw [if_pos rfl, h0]; rfl
  · rw [if_neg z]
    have : (k : Rat) ≠ 0 := by
      intro h
      exact z (by exact_mod_cast h)
    grind
theorem same_slope {x y : S n} (h : th x = th y) (h0 : x.c 0 = y.c 0) (hn : 0 < n) : x = y := by
  have : x - y = 0 := flat (by rw [th_sub, h]; grind) (by rw [sub_c _ _ hn, h0]; grind)
  grind
/-- a θx = p x has one solution with a given first number -/
theorem lin_unique {a p x y : S n} (ha : a.c 0 ≠ 0) (hp : p.c 0 = 0) (hx : a * th x = p * x) (hy : a * th y = p * y) (h0 : x.c 0 = y.c 0) : x = y := by
  have e : a * th (x - y) = p * (x - y) := by rw [th_sub]; grind
  have key : ∀ k, k < n → (x - y).c k = 0 := by
    intro k
    induction k using Nat.strongRecOn with
    | ind k ih =>
      intro hk
      by_cases z : k = 0
      · subst z; rw [sub_c _ _ hk, h0]; grind
      have e1 : (a * th (x - y)).c k = (p * (x - y)).c k := by rw [e]
      rw [mul_c _ _ hk, mul_c _ _ hk] at e1
      unfold cv at e1
      rw [sm_front, sm_front, hp, Nat.sub_zero, sm_zero, sm_zero] at e1
      · rw [th_c _ hk] at e1
        have : (k : Rat) ≠ 0 := fun h => z (by exact_mod_cast h)
        have : a.c 0 * ((k : Rat) * (x - y).c k) = 0 := by grind
        grind
      · intro i hi
        rw [ih (k - (i + 1)) (by omega) (by omega)]; grind
      · intro i hi
        rw [th_c _ (by omega), ih (k - (i + 1)) (by omega) (by omega)]; grind
  exact ext fun k hk => by
    have := key k hk
    rw [sub_c _ _ hk] at this
    grind
/-- θw = (1 + w^2) s has one solution that begins with 0 -/
theorem tan_unique {s x y : S n} (hs : s.c 0 = 0) (hx : th x = (1 + x * x) * s) (hy : th y = (1 + y * y) * s) (h0 : x.c 0 = y.c 0) : x = y := by
  have e : 1 * th (x - y) = ((x + y) * s) * (x - y) := by rw [th_sub]; grind
  by_cases hn : 0 < n
  · have z : x - y = 0 := lin_unique (a := 1) (p := (x + y) * s) (by rw [ofNat_eq, cst_c _ hn]; simp) (by
      rw [mul_c _ _ hn]; unfold cv; show (0 : Rat) + _ * s.c (0 - 0) = 0; rw [Nat.sub_zero, hs]; grind) (y := 0) e (by have e0 : th (0 : S n) = 0 := th_cst _; exact (congrArg (fun z => 1 * z) e0).trans (by grind)) (by rw [sub_c _ _ hn, h0, ofNat_eq, cst_c _ hn, c0]; grind)
    grind
  · exact ext fun k hk => absurd hk (by omega)
end S
end Ser

set_option maxHeartbeats 400000
set_option linter.all false
/-! # Exp, log, tangents, arcs and powers of series modulo t ^ n; sizes. Plain Lean. -/
namespace Ser
namespace S
variable {n : Nat}
theorem cst_0 (hn : 0 < n) (q : Rat) : (cst q : S n).c 0 = q := by rw [cst_c q hn, if_pos rfl]
theorem one_0 (hn : 0 < n) : (1 : S n).c 0 = 1 := cst_0 hn _
theorem zero_0 (hn : 0 < n) : (0 : S n).c 0 = 0 := cst_0 hn _
theorem mul_0 (a b : S n) (hn : 0 < n) : (a * b).c 0 = a.c 0 * b.c 0 := by
  rw [mul_c _ _ hn]; unfold cv; show (0 : Rat) + a.c 0 * b.c (0 - 0) = _; rw [Nat.sub_zero]; grind
theorem th_0 (a : S n) : (th a).c 0 = 0 := by
  by_cases hn : 0 < n
  · rw [th_c _ hn, c0]; grind
  · exact (th a).z 0 (by omega)
theorem all_0 {a b : S n} (hn : ¬ 0 < n) : a = b := ext fun k hk => absurd hk (by omega)
structure IsExp (a e : S n) : Prop where
  s : th e = e * th a
  f : 0 < n → e.c 0 = 1
structure IsLog (a l : S n) : Prop where
  s : a * th l = th a
  f : l.c 0 = 0
structure IsTan (a w : S n) : Prop where
  s : th w = (1 + w * w) * th a
  f : w.c 0 = 0
structure IsAtan (a w : S n) : Prop where
  s : (1 + a * a) * th w = th a
  f : w.c 0 = 0
structure IsPow (a : S n) (p : Rat) (b : S n) : Prop where
  s : a * th b = (cst p * th a) * b
  f : 0 < n → b.c 0 = 1
theorem exp_unique {a e e' : S n} (h : IsExp a e) (h' : IsExp a e') : e = e' := by
  by_cases hn : 0 < n
  · exact lin_unique (a := 1) (p := th a) (by rw [one_0 hn]; grind) (th_0 a) (by have := h.s; grind) (by have := h'.s; grind) (by rw [h.f hn, h'.f hn])
  · exact all_0 hn
theorem log_unique {a e e' : S n} (h : IsLog a e) (h' : IsLog a e') (h0 : 0 < n → a.c 0 = 1) : e = e' := by
  by_cases hn : 0 < n
  · exact same_slope (cancel2 (a := a) (by rw [h0 hn]; grind) (by rw [h.s, h'.s])) (by rw [h.f, h'.f]) hn
  · exact all_0 hn
theorem tan_unique' {a e e' : S n} (h : IsTan a e) (h' : IsTan a e') : e = e' := tan_unique (th_0 a) h.s h'.s (by rw [h.f, h'.f])
theorem atan_unique {a e e' : S n} (h : IsAtan a e) (h' : IsAtan a e') (h0 : a.c 0 = 0) : e = e' := by
  by_cases hn : 0 < n
  · exact same_slope (cancel2 (a := 1 + a * a) (by rw [add_c _ _ hn, mul_0 _ _ hn, one_0 hn, h0]; grind) (by rw [h.s, h'.s])) (by rw [h.f, h'.f]) hn
  · exact all_0 hn
theorem pow_unique {a e e' : S n} {p : Rat} (h : IsPow a p e) (h' : IsPow a p e') (h0 : 0 < n → a.c 0 = 1) : e = e' := by
  by_cases hn : 0 < n
  · exact lin_unique (a := a) (p := cst p * th a) (by rw [h0 hn]; grind) (by rw [mul_0 _ _ hn, th_0]; grind) h.s h'.s (by rw [h.f hn, h'.f hn])
  · exact all_0 hn
theorem log_exp {u e l : S n} (h : IsExp u e) (h' : IsLog e l) (h0 : u.c 0 = 0) : l = u := by
  by_cases hn : 0 < n
  · exact same_slope (cancel2 (a := e) (by rw [h.f hn]; grind) (by rw [h'.s, h.s])) (by rw [h'.f, h0]) hn
  · exact all_0 hn
theorem exp_log {a l e : S n} (h : IsLog a l) (h' : IsExp l e) (h0 : 0 < n → a.c 0 = 1) : e = a :=
  exp_unique h' ⟨h.s.symm, h0⟩
theorem atan_tan {u w x : S n} (h : IsTan u w) (h' : IsAtan w x) (h0 : u.c 0 = 0) : x = u := by
  by_cases hn : 0 < n
  · exact same_slope (cancel2 (a := 1 + w * w) (by rw [add_c _ _ hn, mul_0 _ _ hn, one_0 hn, h.f]; grind) (by rw [h'.s, h.s])) (by rw [h'.f, h0]) hn
  · exact all_0 hn
/-- the tangent of a sum -/
theorem tan_add {u v w1 w2 z : S n} (h1 : IsTan u w1) (h2 : IsTan v w2) (hz : (1 - w1 * w2) * z = w1 + w2) : IsTan (u + v) z := by
  by_cases hn : 0 < n
  · have d0 : (1 - w1 * w2).c 0 = 1 := by rw [sub_c _ _ hn, mul_0 _ _ hn, one_0 hn, h1.f]; grind
    have z0 : z.c 0 = 0 := by
      have : ((1 - w1 * w2) * z).c 0 = (w1 + w2).c 0 := by rw [hz]
      rw [mul_0 _ _ hn, d0, add_c _ _ hn, h1.f, h2.f] at this
      grind
    refine ⟨?_, z0⟩
    have s1 := h1.s
    have s2 := h2.s
    have t : th ((1 - w1 * w2) * z) = th (w1 + w2) := by rw [hz]
    rw [th_mul, th_sub, th_mul, th_add, th_one] at t
    rw [th_add]
    refine cancel2 (a := (1 - w1 * w2) * (1 - w1 * w2)) (by rw [mul_0 _ _ hn, d0]; grind) ?_
    generalize th u = a at *
    generalize th v = b at *
    generalize th w1 = x1 at *
    generalize th w2 = x2 at *
    generalize th z = y at *
    subst s1 s2
    grind
  · exact ⟨all_0 hn, z.z 0 (by omega)⟩
/-- powers by logs -/
theorem pow_exp_log {a l e : S n} {p : Rat} (h : IsLog a l) (h' : IsExp (cst p * l) e) : IsPow a p e := by
  refine ⟨?_, h'.f⟩
  have s1 := h.s
  have s2 := h'.s
  rw [th_mul, th_cst] at s2
  grind
theorem pow_mul {a b c : S n} {p q : Rat} (h : IsPow a p b) (h' : IsPow a q c) : IsPow a (p + q) (b * c) := by
  refine ⟨?_, fun hn => by rw [mul_0 _ _ hn, h.f hn, h'.f hn]; grind⟩
  have s1 := h.s
  have s2 := h'.s
  have e : (cst (p + q) : S n) = cst p + cst q := ext fun k hk => by
    rw [add_c _ _ hk, cst_c _ hk, cst_c _ hk, cst_c _ hk]; split <;> grind
  rw [th_mul, e]
  grind
end S

/-! ### by numbers -/
/-- the sum of f j g (k - j) for j from 1 to k -/
def fo (f g : Nat → Rat) (k : Nat) : Rat := sm (fun i => f (i + 1) * g (k - (i + 1))) k
theorem cv_fo (f g : Nat → Rat) (k : Nat) : cv f g k = f 0 * g k + fo f g k := by unfold cv fo; rw [sm_front, Nat.sub_zero]
theorem dot_fo (f g : Nat → Rat) (k : Nat) : sm (fun i => f i * g (k - i)) k = fo g f k := by
  have h := cv_comm f g k
  rw [cv_fo g f k] at h
  unfold cv at h
  have e : sm (fun i => f i * g (k - i)) (k + 1) = sm (fun i => f i * g (k - i)) k + f k * g (k - k) := rfl
  rw [e, Nat.sub_self] at h
  grind
abbrev at_ (xs : List Rat) (k : Nat) : Rat := xs.getD k 0
def toS (n : Nat) (xs : List Rat) : S n := S.of fun k => at_ xs k
theorem toS_c {n : Nat} (xs : List Rat) {k : Nat} (h : k < n) : (toS n xs).c k = at_ xs k := S.of_c h
theorem toS_0 {n : Nat} (xs : List Rat) (h : xs.length = n) : (toS n xs).c 0 = at_ xs 0 := by
  by_cases hn : 0 < n
  · exact toS_c xs hn
  · rw [(toS n xs).z 0 (by omega)]
    show 0 = xs.getD 0 0
    rw [List.getD_eq_getElem?_getD, List.getElem?_eq_none (by omega)]; rfl
theorem toS_inj {n : Nat} {xs ys : List Rat} (hx : xs.length = n) (hy : ys.length = n) (h : toS n xs = toS n ys) : xs = ys := by
  apply List.ext_getElem (by omega)
  intro k h1 h2
  have : (toS n xs).c k = (toS n ys).c k := by rw [h]
  rw [toS_c _ (by omega), toS_c _ (by omega)] at this
  simpa [at_, List.getD_eq_getElem?_getD, h1, h2] using this
theorem kne {k : Nat} (h : k ≠ 0) : (k : Rat) ≠ 0 := fun z => h (by exact_mod_cast z)
section
variable {n : Nat} {a b r : Nat → Rat}
open S
/-- recurrences give what is asked -/
theorem div_by (h0 : b 0 ≠ 0) (h : ∀ k, k < n → r k = (a k - fo b r k) / b 0) : (of b : S n) * of r = of a := ext fun k hk => by
  rw [mul_c _ _ hk, of_c hk, cv_congr (f' := b) (g' := r) (fun i hi => of_c (by omega)) (fun i hi => of_c (by omega)), cv_fo, h k hk]
  grind
theorem exp_by (hf : 0 < n → r 0 = 1) (h : ∀ k, k < n → k ≠ 0 → r k = fo (fun i => a i * (i : Rat)) r k * (1 / (k : Rat))) : IsExp (of a : S n) (of r) := by
  refine ⟨ext fun k hk => ?_, fun hn => by rw [of_c hn, hf hn]⟩
  rw [mul_comm, mul_c _ _ hk, th_c _ hk, of_c hk, cv_congr (f' := fun i => a i * (i : Rat)) (g' := r) (fun i hi => by rw [th_c _ (by omega), of_c (by omega), Rat.mul_comm]) (fun i hi => of_c (by omega)), cv_fo]
  by_cases z : k = 0
  · subst z; rw [c0]; show _ = _ + (0 : Rat); grind
  · rw [h k hk z, c0]
    have := kne z
    grind
theorem tan_by {s : Nat → Rat} (hf : r 0 = 0) (hs : ∀ k, k < n → s k = (if k = 0 then 1 else 0) + cv r r k) (h : ∀ k, k < n → k ≠ 0 → r k = fo (fun i => a i * (i : Rat)) s k * (1 / (k : Rat))) : IsTan (of a : S n) (of r) := by
  refine ⟨ext fun k hk => ?_, by by_cases hn : 0 < n; rw [of_c hn, hf]; exact S.z _ 0 (by omega)⟩
  rw [mul_comm, mul_c _ _ hk, th_c _ hk, of_c hk, cv_congr (f' := fun i => a i * (i : Rat)) (g' := s) (fun i hi => by rw [th_c _ (by omega), of_c (by omega), Rat.mul_comm]) (fun i hi => by
    rw [add_c _ _ (by omega), ofNat_eq, cst_c _ (by omega), mul_c _ _ (by omega), hs i (by omega), cv_congr (f' := r) (g' := r) (fun j hj => of_c (by omega)) (fun j hj => of_c (by omega))]; rfl), cv_fo]
  by_cases z : k = 0
  · subst z; rw [c0]; show _ = _ + (0 : Rat); grind
  · rw [h k hk z, c0]
    have := kne z
    grind
/-- the quotient of slopes, summed -/
theorem log_by {q : Nat → Rat} (hq : (of b : S n) * of q = of fun k => if k + 1 < n then a (k + 1) * ((k + 1 : Nat) : Rat) else 0) (h0 : r 0 = 0) (h : ∀ k, k < n → k ≠ 0 → r k = q (k - 1) * (1 / (k : Rat))) :
    (of b : S n) * th (of r) = th (of a) := ext fun k hk => by
  rw [mul_c _ _ hk, th_c _ hk, of_c hk]
  have e : ∀ i, i ≤ k → (th (of r : S n)).c i = if i = 0 then 0 else q (i - 1) := fun i hi => by
    rw [th_c _ (by omega), of_c (by omega)]
    split
    · next z => subst z; rw [c0]; grind
    · next z => rw [h i (by omega) z]; have := kne z; grind
  rw [cv_congr (f' := b) (g' := fun i => if i = 0 then 0 else q (i - 1)) (fun i hi => of_c (by omega)) e]
  by_cases z : k = 0
  · subst z; rw [c0]; show (0 : Rat) + b 0 * (if 0 - 0 = 0 then 0 else _) = _; rw [if_pos (Nat.sub_self 0)]; grind
  · obtain ⟨m, rfl⟩ : ∃ m, k = m + 1 := ⟨k - 1, by omega⟩
    have e2 : ((of b : S n) * of q).c m = (if m + 1 < n then a (m + 1) * ((m + 1 : Nat) : Rat) else 0) := by rw [hq, of_c (by omega)]
    rw [if_pos hk, mul_c _ _ (by omega), cv_congr (f' := b) (g' := q) (fun i hi => of_c (by omega)) (fun i hi => of_c (by omega))] at e2
    have e3 : cv b (fun i => if i = 0 then 0 else q (i - 1)) (m + 1) = cv b q m := by
      unfold cv
      show sm _ (m + 1) + b (m + 1) * (if m + 1 - (m + 1) = 0 then 0 else _) = _
      rw [if_pos (Nat.sub_self _)]
      rw [sm_congr (g := fun i => b i * q (m - i)) (fun i hi => by
        show b i * (if m + 1 - i = 0 then 0 else q (m + 1 - i - 1)) = _
        rw [if_neg (by omega), show m + 1 - i - 1 = m - i by omega])]
      grind
    rw [e3, e2]; grind
theorem pow_by {p : Rat} (ha : 0 < n → a 0 = 1) (hf : 0 < n → r 0 = 1) (h : ∀ k, k < n → k ≠ 0 → r k = (fo (fun i => a i * (i : Rat) * p) r k - fo a (fun i => r i * (i : Rat)) k) * (1 / (k : Rat))) : IsPow (of a : S n) p (of r) := by
  refine ⟨ext fun k hk => ?_, fun hn => by rw [of_c hn, hf hn]⟩
  rw [mul_c _ _ hk, mul_c _ _ hk]
  rw [cv_congr (f' := a) (g' := fun i => r i * (i : Rat)) (fun i hi => of_c (by omega)) (fun i hi => by rw [th_c _ (by omega), of_c (by omega), Rat.mul_comm])]
  rw [cv_congr (f' := fun i => a i * (i : Rat) * p) (g' := r) (fun i hi => by rw [cst_mul_c _ _ (by omega), th_c _ (by omega), of_c (by omega)]; grind) (fun i hi => of_c (by omega))]
  rw [cv_fo, cv_fo, ha (by omega), c0]
  by_cases z : k = 0
  · subst z; rw [c0]; show _ + (0 : Rat) = _ + (0 : Rat); grind
  · rw [h k hk z]
    have := kne z
    grind
end
end Ser

set_option maxHeartbeats 400000
set_option linter.all false
/-! # Sizes of fractions by weights; lists that grow by a step. Plain Lean. -/
namespace Ser
/-- x is a whole number over D ^ w, and that whole number is at most D ^ (2 w) -/
def Wd (D w : Nat) (x : Rat) : Prop := ∃ m : Int, x * ((D ^ w : Nat) : Rat) = (m : Rat) ∧ m.natAbs ≤ D ^ (2 * w)
theorem pw1 {D k : Nat} (h : 1 ≤ D) : 1 ≤ D ^ k := Nat.one_le_pow _ _ (by omega)
theorem Wd.mono {D w w' : Nat} {x : Rat} (hD : 1 ≤ D) (h : Wd D w x) (hw : w ≤ w') : Wd D w' x := by
  obtain ⟨m, h1, h2⟩ := h
  obtain ⟨d, rfl⟩ : ∃ d, w' = w + d := ⟨w' - w, by omega⟩
  refine ⟨m * ((D ^ d : Nat) : Int), ?_, ?_⟩
  · rw [Nat.pow_add]
    push_cast
    have h1' : x * ((D : Rat) ^ w) = (m : Rat) := by rw [← h1]; push_cast; rfl
    grind
  · rw [Int.natAbs_mul, Int.natAbs_natCast, show 2 * (w + d) = 2 * w + (d + d) by omega, Nat.pow_add, Nat.pow_add]
    have : D ^ d ≤ D ^ d * D ^ d := Nat.le_mul_of_pos_left _ (pw1 hD)
    exact Nat.mul_le_mul h2 this
theorem Wd.mul {D w w' : Nat} {x y : Rat} (h : Wd D w x) (h' : Wd D w' y) : Wd D (w + w') (x * y) := by
  obtain ⟨m, h1, h2⟩ := h
  obtain ⟨k, h3, h4⟩ := h'
  refine ⟨m * k, ?_, ?_⟩
  · rw [Nat.pow_add]; push_cast at *; grind
  · rw [Int.natAbs_mul, show 2 * (w + w') = 2 * w + 2 * w' by omega, Nat.pow_add]
    exact Nat.mul_le_mul h2 h4
theorem Wd.neg {D w : Nat} {x : Rat} (h : Wd D w x) : Wd D w (-x) := by
  obtain ⟨m, h1, h2⟩ := h
  exact ⟨-m, by push_cast; grind, by rw [Int.natAbs_neg]; exact h2⟩
theorem Wd.zero {D w : Nat} : Wd D w 0 := ⟨0, by push_cast; grind, by show 0 ≤ _; omega⟩
theorem Wd.one {D w : Nat} (hD : 1 ≤ D) : Wd D w 1 := Wd.mono hD (w := 0) ⟨1, by push_cast; grind, by show 1 ≤ D ^ 0; rw [Nat.pow_zero]; exact Nat.le_refl _⟩ (by omega)
/-- sums of up to eight -/
theorem Wd.sm {D w : Nat} {f : Nat → Rat} (hD : 8 ≤ D) : ∀ {n : Nat}, n ≤ 8 → (∀ i, i < n → Wd D w (f i)) → Wd D (w + 1) (sm f n) := by
  have key : ∀ n : Nat, (∀ i, i < n → Wd D w (f i)) → ∃ m : Int, Ser.sm f n * ((D ^ w : Nat) : Rat) = (m : Rat) ∧ m.natAbs ≤ n * D ^ (2 * w) := by
    intro n
    induction n with
    | zero => intro _; exact ⟨0, by show (0 : Rat) * _ = _; push_cast; grind, by simp⟩
    | succ n ih =>
      intro h
      obtain ⟨m, h1, h2⟩ := ih fun i hi => h i (by omega)
      obtain ⟨k, h3, h4⟩ := h n (by omega)
      refine ⟨m + k, ?_, ?_⟩
      · show (Ser.sm f n + f n) * _ = _; push_cast at *; grind
      · rw [Nat.succ_mul]; have := Int.natAbs_add_le m k; omega
  intro n hn h
  obtain ⟨m, h1, h2⟩ := key n h
  refine ⟨m * D, ?_, ?_⟩
  · rw [Nat.pow_succ]; push_cast at *; grind
  · rw [Int.natAbs_mul, Int.natAbs_natCast, show 2 * (w + 1) = 2 * w + 1 + 1 by omega, Nat.pow_succ, Nat.pow_succ]
    have : n * D ^ (2 * w) ≤ D * D ^ (2 * w) := Nat.mul_le_mul_right _ (by omega)
    exact Nat.mul_le_mul_right _ (by rw [Nat.mul_comm (D ^ (2 * w))]; omega)
theorem Wd.add {D w : Nat} {x y : Rat} (hD : 8 ≤ D) (h : Wd D w x) (h' : Wd D w y) : Wd D (w + 1) (x + y) := by
  have := Wd.sm (f := fun i => if i = 0 then x else y) hD (n := 2) (by omega) (fun i hi => by show Wd D w (if i = 0 then x else y); split <;> assumption)
  have e : Ser.sm (fun i => if i = 0 then x else y) 2 = x + y := by show (0 + (if 0 = 0 then x else y)) + (if 1 = 0 then x else y) = _; rw [if_pos rfl, if_neg (by decide)]; grind
  rwa [e] at this
theorem Wd.sub {D w : Nat} {x y : Rat} (hD : 8 ≤ D) (h : Wd D w x) (h' : Wd D w y) : Wd D (w + 1) (x - y) := by
  have := Wd.add hD h h'.neg
  rwa [show x + -y = x - y by grind] at this
/-- a fraction whose bottom divides D -/
theorem Wd.frac {D : Nat} {t : Int} {b : Nat} (hb : b ∣ D) (hD : 1 ≤ D) (ht : t.natAbs ≤ D) : Wd D 1 (Rat.divInt t b) := by
  obtain ⟨d, rfl⟩ := hb
  have hb0 : b ≠ 0 := by rintro rfl; omega
  have hd0 : d ≠ 0 := by rintro rfl; omega
  refine ⟨t * d, ?_, ?_⟩
  · have e : Rat.divInt t b = (t : Rat) / (b : Rat) := by rw [Rat.divInt_eq_div]; rfl
    have : (b : Rat) ≠ 0 := by intro h; exact hb0 (by exact_mod_cast h)
    rw [e, Nat.pow_one]; push_cast; grind
  · rw [Int.natAbs_mul, Int.natAbs_natCast]
    show _ ≤ (b * d) ^ (1 + 1)
    rw [Nat.pow_succ, Nat.pow_one]
    exact Nat.mul_le_mul ht (Nat.le_mul_of_pos_left _ (by omega))
theorem Wd.nat {D k : Nat} (hk : k ≤ D) (hD : 1 ≤ D) : Wd D 1 (k : Rat) := by
  have := Wd.frac (D := D) (t := k) (b := 1) (Nat.one_dvd _) hD (by simpa using hk)
  rwa [show Rat.divInt (k : Int) ((1 : Nat) : Int) = (k : Rat) by rw [Rat.divInt_eq_div]; push_cast; grind] at this
theorem Wd.inv {D k : Nat} (hk : k ∣ D) (hD : 1 ≤ D) : Wd D 1 (1 / (k : Rat)) := by
  have := Wd.frac (D := D) (t := 1) (b := k) hk hD (by simpa using hD)
  rwa [show Rat.divInt 1 (k : Int) = 1 / (k : Rat) by rw [Rat.divInt_eq_div]; push_cast; rfl] at this
theorem Wd.size {D w : Nat} {x : Rat} (hD : 1 ≤ D) (h : Wd D w x) : x.den ≤ D ^ w ∧ x.num.natAbs ≤ D ^ (2 * w) := by
  obtain ⟨m, h1, h2⟩ := h
  have hd0 : (x.den : Rat) ≠ 0 := by intro z; exact x.den_nz (by exact_mod_cast z)
  have e : x = (x.num : Rat) / (x.den : Rat) := by
    have := Rat.num_divInt_den x
    rw [Rat.divInt_eq_div] at this
    exact this.symm
  have e2 : (x.num : Rat) * ((D ^ w : Nat) : Rat) = (m : Rat) * (x.den : Rat) := by
    have key : ∀ (N d : Rat), d ≠ 0 → x = N / d → x * d = N := fun N d hd h => by rw [h]; grind
    have := key _ _ hd0 e
    rw [← this, ← h1]; grind
  have e3 : x.num * ((D ^ w : Nat) : Int) = m * (x.den : Int) := by exact_mod_cast e2
  have e4 : x.num.natAbs * D ^ w = m.natAbs * x.den := by
    have := congrArg Int.natAbs e3
    rwa [Int.natAbs_mul, Int.natAbs_mul, Int.natAbs_natCast, Int.natAbs_natCast] at this
  have hdv : x.den ∣ D ^ w := by
    have : x.den ∣ x.num.natAbs * D ^ w := ⟨m.natAbs, by rw [e4, Nat.mul_comm]⟩
    exact Nat.Coprime.dvd_of_dvd_mul_left (Nat.Coprime.symm x.reduced) this
  have hle : x.den ≤ D ^ w := Nat.le_of_dvd (pw1 hD) hdv
  refine ⟨hle, ?_⟩
  have : x.num.natAbs * D ^ w ≤ m.natAbs * D ^ w := by rw [e4]; exact Nat.mul_le_mul_left _ hle
  exact Nat.le_trans (Nat.le_of_mul_le_mul_right this (pw1 hD)) h2
/-- enough room -/
structure Good (D M : Nat) : Prop where
  ge : 8 ≤ D
  dv : 60 ∣ D
  lt : D ^ M < 2 ^ 4000
theorem Good.one {D M : Nat} (g : Good D M) : 1 ≤ D := by have := g.ge; omega
theorem Good.size {D M w : Nat} {x : Rat} (g : Good D M) (h : Wd D w x) (hw : w ≤ M) : x.num.natAbs < 2 ^ 100000 ∧ x.den < 2 ^ 4000 := by
  obtain ⟨h1, h2⟩ := (h.mono g.one hw).size g.one
  refine ⟨Nat.lt_of_le_of_lt h2 ?_, Nat.lt_of_le_of_lt h1 g.lt⟩
  rw [Nat.mul_comm, Nat.pow_mul, Nat.pow_succ, Nat.pow_one]
  refine Nat.lt_of_lt_of_le (Nat.mul_lt_mul'' g.lt g.lt) ?_
  rw [← Nat.pow_add]
  exact Nat.pow_le_pow_right (by decide) (by decide)
theorem dvd60 {k : Nat} (h0 : 0 < k) (h : k ≤ 6) : k ∣ 60 := by
  have : k = 1 ∨ k = 2 ∨ k = 3 ∨ k = 4 ∨ k = 5 ∨ k = 6 := by omega
  rcases this with rfl | rfl | rfl | rfl | rfl | rfl <;> decide
theorem Good.inv {D M k : Nat} (g : Good D M) (h0 : k ≠ 0) (h : k ≤ 6) : Wd D 1 (1 / (k : Rat)) := Wd.inv (Nat.dvd_trans (dvd60 (by omega) h) g.dv) g.one
theorem Good.nat {D M k : Nat} (g : Good D M) (h : k ≤ 8) : Wd D 1 (k : Rat) := Wd.nat (by have := g.ge; omega) g.one

/-! ### lists that grow -/
def grow (step : List Rat → Rat) : Nat → List Rat
  | 0 => []
  | n + 1 => grow step n ++ [step (grow step n)]
theorem grow_len (step : List Rat → Rat) : ∀ n, (grow step n).length = n
  | 0 => rfl
  | n + 1 => by show (grow step n ++ [_]).length = _; rw [List.length_append, grow_len step n]; rfl
theorem at_app {xs : List Rat} {x : Rat} {k : Nat} (h : k < xs.length) : at_ (xs ++ [x]) k = at_ xs k := by
  simp [at_, List.getD_eq_getElem?_getD, List.getElem?_append_left h]
theorem at_new {xs : List Rat} {x : Rat} : at_ (xs ++ [x]) xs.length = x := by
  simp [at_, List.getD_eq_getElem?_getD]
theorem at_over {xs : List Rat} {k : Nat} (h : xs.length ≤ k) : at_ xs k = 0 := by
  simp [at_, List.getD_eq_getElem?_getD, List.getElem?_eq_none h]
theorem grow_at (step : List Rat → Rat) : ∀ {n m k : Nat}, k < n → n ≤ m → at_ (grow step m) k = at_ (grow step n) k
  | n, 0, k, h, h' => by omega
  | n, m + 1, k, h, h' => by
    by_cases e : n = m + 1
    · subst e; rfl
    · show at_ (grow step m ++ [_]) k = _
      rw [at_app (by rw [grow_len]; omega), grow_at step h (by omega)]
theorem grow_step (step : List Rat → Rat) {n k : Nat} (h : k < n) : at_ (grow step n) k = step (grow step k) := by
  rw [grow_at step (Nat.lt_succ_self k) (by omega)]
  show at_ (grow step k ++ [step (grow step k)]) k = _
  have := at_new (xs := grow step k) (x := step (grow step k))
  rwa [grow_len] at this
theorem fo_congr {f f' g g' : Nat → Rat} {k : Nat} (h : ∀ i, i ≤ k → f i = f' i) (h' : ∀ i, i < k → g i = g' i) : fo f g k = fo f' g' k :=
  sm_congr fun i hi => by rw [h (i + 1) (by omega), h' (k - (i + 1)) (by omega)]
theorem grow_fo {f : Nat → Rat} (step : List Rat → Rat) {n k : Nat} (h : k < n) : fo f (at_ (grow step k)) k = fo f (at_ (grow step n)) k :=
  fo_congr (fun _ _ => rfl) fun i hi => (grow_at step hi (by omega)).symm
/-- by items: a list is the one that grows if each item is its step -/
theorem grow_uniq {step : List Rat → Rat} : ∀ {n : Nat} {xs : List Rat}, xs.length = n → (∀ k, k < n → at_ xs k = step (xs.take k)) → xs = grow step n
  | 0, xs, h, _ => List.eq_nil_of_length_eq_zero h
  | n + 1, xs, h, hs => by
    have e : xs = xs.take n ++ [at_ xs n] := by
      have h1 : n < xs.length := by omega
      conv => lhs; rw [← List.take_append_drop n xs]
      congr 1
      rw [List.drop_eq_getElem_cons h1, List.drop_eq_nil_of_le (by omega)]
      simp [at_, List.getD_eq_getElem?_getD, h1]
    have e2 : xs.take n = grow step n := grow_uniq (by rw [List.length_take]; omega) fun k hk => by
      rw [List.take_take, Nat.min_eq_left (by omega), ← hs k (by omega)]
      simp [at_, List.getD_eq_getElem?_getD, List.getElem?_take, hk]
    rw [e, hs n (by omega), e2]
    rfl
/-! ### what the functions tell -/
abbrev wtd (a : Nat → Rat) : Nat → Rat := fun i => a i * (i : Rat)
def divL (xs ys : List Rat) : List Rat := grow (fun found => (at_ xs found.length - fo (at_ ys) (at_ found) found.length) / at_ ys 0) xs.length
def expL (xs : List Rat) : List Rat := grow (fun found => if found.length = 0 then 1 else fo (wtd (at_ xs)) (at_ found) found.length * (1 / (found.length : Rat))) xs.length
def powL (xs : List Rat) (p : Rat) : List Rat :=
  grow (fun found => if found.length = 0 then 1 else (fo (fun i => at_ xs i * (i : Rat) * p) (at_ found) found.length - fo (at_ xs) (wtd (at_ found)) found.length) * (1 / (found.length : Rat))) xs.length
/-- the squares of a tangent and 1, number k, from its numbers below k and number k -/
def sqs (f : Nat → Rat) (k : Nat) : Rat := if k = 0 then 1 else fo f f k
def tanL (xs : List Rat) : List Rat := grow (fun found => if found.length = 0 then 0 else fo (wtd (at_ xs)) (sqs (at_ found)) found.length * (1 / (found.length : Rat))) xs.length
def mulL (xs ys : List Rat) : List Rat := (List.range xs.length).map fun k => cv (at_ xs) (at_ ys) k
def cstL (q : Rat) (n : Nat) : List Rat := (List.range n).map fun k => if k = 0 then q else 0
def addL (xs ys : List Rat) : List Rat := (List.range xs.length).map fun k => at_ xs k + at_ ys k
def subL (xs ys : List Rat) : List Rat := (List.range xs.length).map fun k => at_ xs k - at_ ys k
def slpL (xs : List Rat) : List Rat := (List.range xs.length).map fun k => if k + 1 < xs.length then at_ xs (k + 1) * ((k + 1 : Nat) : Rat) else 0
def smdL (xs : List Rat) : List Rat := (List.range xs.length).map fun k => if k = 0 then 0 else at_ xs (k - 1) * (1 / (k : Rat))
def wtdL (xs : List Rat) : List Rat := (List.range xs.length).map fun k => at_ xs k * (k : Rat)
def logL (xs : List Rat) : List Rat := smdL (divL (slpL xs) xs)
def atanL (xs : List Rat) : List Rat := smdL (divL (slpL xs) (addL (cstL 1 xs.length) (mulL xs xs)))
def arcL (xs ys : List Rat) : List Rat := divL (addL xs ys) (subL (cstL 1 xs.length) (mulL xs ys))
theorem at_range {n k : Nat} {f : Nat → Rat} (h : k < n) : at_ ((List.range n).map f) k = f k := by simp [at_, List.getD_eq_getElem?_getD, h]
theorem len_range {n : Nat} {f : Nat → Rat} : ((List.range n).map f).length = n := by simp
theorem divL_len (xs ys : List Rat) : (divL xs ys).length = xs.length := grow_len _ _
theorem expL_len (xs : List Rat) : (expL xs).length = xs.length := grow_len _ _
theorem powL_len (xs : List Rat) (p : Rat) : (powL xs p).length = xs.length := grow_len _ _
theorem tanL_len (xs : List Rat) : (tanL xs).length = xs.length := grow_len _ _
theorem mulL_len (xs ys : List Rat) : (mulL xs ys).length = xs.length := len_range
theorem addL_len (xs ys : List Rat) : (addL xs ys).length = xs.length := len_range
theorem subL_len (xs ys : List Rat) : (subL xs ys).length = xs.length := len_range
theorem cstL_len (q : Rat) (n : Nat) : (cstL q n).length = n := len_range
theorem slpL_len (xs : List Rat) : (slpL xs).length = xs.length := len_range
theorem smdL_len (xs : List Rat) : (smdL xs).length = xs.length := len_range
theorem wtdL_len (xs : List Rat) : (wtdL xs).length = xs.length := len_range
theorem logL_len (xs : List Rat) : (logL xs).length = xs.length := by unfold logL; rw [smdL_len, divL_len, slpL_len]
theorem atanL_len (xs : List Rat) : (atanL xs).length = xs.length := by unfold atanL; rw [smdL_len, divL_len, slpL_len]
theorem arcL_len (xs ys : List Rat) : (arcL xs ys).length = xs.length := by unfold arcL; rw [divL_len, addL_len]
theorem divL_at {xs ys : List Rat} {k : Nat} (h : k < xs.length) : at_ (divL xs ys) k = (at_ xs k - fo (at_ ys) (at_ (divL xs ys)) k) / at_ ys 0 := by
  unfold divL
  rw [grow_step _ h, grow_len, grow_fo _ h]
theorem expL_at {xs : List Rat} {k : Nat} (h : k < xs.length) : at_ (expL xs) k = if k = 0 then 1 else fo (wtd (at_ xs)) (at_ (expL xs)) k * (1 / (k : Rat)) := by
  unfold expL
  rw [grow_step _ h, grow_len, grow_fo _ h]
theorem fo_congr2 {f g g' : Nat → Rat} {k : Nat} (h' : ∀ i, i < k → g i = g' i) : fo f g k = fo f g' k := fo_congr (fun _ _ => rfl) h'
theorem powL_at {xs : List Rat} {p : Rat} {k : Nat} (h : k < xs.length) : at_ (powL xs p) k = if k = 0 then 1 else (fo (fun i => at_ xs i * (i : Rat) * p) (at_ (powL xs p)) k - fo (at_ xs) (wtd (at_ (powL xs p))) k) * (1 / (k : Rat)) := by
  unfold powL
  rw [grow_step _ h, grow_len, grow_fo _ h]
  rw [fo_congr2 (f := at_ xs) (g' := wtd (at_ (grow _ xs.length))) (fun i hi => by show at_ _ i * _ = at_ _ i * _; rw [grow_at _ hi (Nat.le_of_lt h)])]
theorem sqs_congr {f g : Nat → Rat} {k : Nat} (h0 : f 0 = 0) (h : ∀ i, i ≤ k → f i = g i) : sqs f k = sqs g k := by
  unfold sqs
  split
  · rfl
  · exact fo_congr h fun i hi => h i (by omega)
theorem tanL_0 (xs : List Rat) : at_ (tanL xs) 0 = 0 := by
  by_cases h : 0 < xs.length
  · unfold tanL
    rw [grow_step _ h, grow_len, if_pos rfl]
  · exact at_over (by rw [tanL_len]; omega)
theorem tanL_at {xs : List Rat} {k : Nat} (h : k < xs.length) : at_ (tanL xs) k = if k = 0 then 0 else fo (wtd (at_ xs)) (sqs (at_ (tanL xs))) k * (1 / (k : Rat)) := by
  unfold tanL
  rw [grow_step _ h, grow_len]
  split
  · rfl
  · next z =>
    rw [fo_congr2 fun i hi => ?_]
    have e0 : ∀ m, 0 < m → at_ (grow (fun found => if found.length = 0 then 0 else fo (wtd (at_ xs)) (sqs (at_ found)) found.length * (1 / (found.length : Rat))) m) 0 = 0 := fun m hm => by rw [grow_step _ hm, grow_len, if_pos rfl]
    exact sqs_congr (e0 k (by omega)) fun j hj => (grow_at _ (by omega) (Nat.le_of_lt h)).symm
end Ser

set_option maxHeartbeats 400000
set_option linter.all false
/-! # What the lists are, and how great. Plain Lean. -/
namespace Ser
open S
theorem toS_of {n : Nat} {xs : List Rat} : toS n xs = S.of (at_ xs) := rfl
theorem toS_range {n : Nat} {f : Nat → Rat} : toS n ((List.range n).map f) = S.of f := S.of_eq fun k hk => at_range hk
theorem isExp (xs : List Rat) : IsExp (toS xs.length xs) (toS xs.length (expL xs)) :=
  exp_by (fun h => by rw [expL_at h, if_pos rfl]) fun k hk hz => by rw [expL_at hk, if_neg hz]
theorem isPow (xs : List Rat) (p : Rat) (h0 : 0 < xs.length → at_ xs 0 = 1) : IsPow (toS xs.length xs) p (toS xs.length (powL xs p)) :=
  pow_by h0 (fun h => by rw [powL_at h, if_pos rfl]) fun k hk hz => by rw [powL_at hk, if_neg hz]
theorem isTan (xs : List Rat) : IsTan (toS xs.length xs) (toS xs.length (tanL xs)) :=
  tan_by (s := sqs (at_ (tanL xs))) (tanL_0 xs) (fun k hk => by
    rw [cv_fo, tanL_0]
    unfold sqs
    split
    · next h => subst h; show (1 : Rat) = 1 + (0 * _ + 0); grind
    · grind) fun k hk hz => by rw [tanL_at hk, if_neg hz]
theorem isDiv (xs ys : List Rat) (h0 : at_ ys 0 ≠ 0) : toS xs.length ys * toS xs.length (divL xs ys) = toS xs.length xs :=
  div_by h0 fun k hk => divL_at hk
theorem slp_eq (xs : List Rat) : toS xs.length (slpL xs) = S.of fun k => if k + 1 < xs.length then at_ xs (k + 1) * ((k + 1 : Nat) : Rat) else 0 := toS_range
theorem smd_at {xs : List Rat} {k : Nat} (h : k < xs.length) : at_ (smdL xs) k = if k = 0 then 0 else at_ xs (k - 1) * (1 / (k : Rat)) := at_range h
theorem smd_0 (xs : List Rat) : at_ (smdL xs) 0 = 0 := by
  by_cases h : 0 < xs.length
  · rw [smd_at h, if_pos rfl]
  · exact at_over (by rw [smdL_len]; omega)
theorem of_0 {n : Nat} {f : Nat → Rat} (h : f 0 = 0) : (S.of f : S n).c 0 = 0 := by
  by_cases hn : 0 < n
  · rw [S.of_c hn, h]
  · exact S.z _ 0 (by omega)
theorem slopes_sum (xs ys : List Rat) (h0 : at_ ys 0 ≠ 0) : toS xs.length ys * S.th (toS xs.length (smdL (divL (slpL xs) ys))) = S.th (toS xs.length xs) := by
  refine log_by (b := at_ ys) (a := at_ xs) (r := at_ (smdL (divL (slpL xs) ys))) (q := at_ (divL (slpL xs) ys)) ?_ (smd_0 _) fun k hk hz => ?_
  · have := isDiv (slpL xs) ys h0
    rw [slpL_len, slp_eq] at this
    exact this
  · rw [smd_at (by rw [divL_len, slpL_len]; exact hk), if_neg hz]
theorem isLog (xs : List Rat) (h0 : at_ xs 0 = 1) : IsLog (toS xs.length xs) (toS xs.length (logL xs)) :=
  ⟨slopes_sum xs xs (by rw [h0]; grind), of_0 (smd_0 _)⟩
theorem add_eq {n : Nat} (xs ys : List Rat) (h : xs.length = n) : toS n (addL xs ys) = toS n xs + toS n ys := by
  subst h
  exact toS_range.trans (ext fun k hk => by rw [S.of_c hk, S.add_c _ _ hk, toS_c _ hk, toS_c _ hk])
theorem sub_eq {n : Nat} (xs ys : List Rat) (h : xs.length = n) : toS n (subL xs ys) = toS n xs - toS n ys := by
  subst h
  exact toS_range.trans (ext fun k hk => by rw [S.of_c hk, S.sub_c _ _ hk, toS_c _ hk, toS_c _ hk])
theorem mul_eq {n : Nat} (xs ys : List Rat) (h : xs.length = n) : toS n (mulL xs ys) = toS n xs * toS n ys := by
  subst h
  exact toS_range.trans (ext fun k hk => by rw [S.of_c hk, S.mul_c _ _ hk]; exact (cv_congr (fun i hi => toS_c _ (by omega)) fun i hi => toS_c _ (by omega)).symm)
theorem cst_eq (q : Rat) (n : Nat) : toS n (cstL q n) = S.cst q := toS_range
theorem one_eq (n : Nat) : toS n (cstL 1 n) = 1 := cst_eq 1 n
theorem cst_at {q : Rat} {n k : Nat} (h : k < n) : at_ (cstL q n) k = if k = 0 then q else 0 := at_range h
theorem add_at {xs ys : List Rat} {k : Nat} (h : k < xs.length) : at_ (addL xs ys) k = at_ xs k + at_ ys k := at_range h
theorem sub_at {xs ys : List Rat} {k : Nat} (h : k < xs.length) : at_ (subL xs ys) k = at_ xs k - at_ ys k := at_range h
theorem mul_at {xs ys : List Rat} {k : Nat} (h : k < xs.length) : at_ (mulL xs ys) k = cv (at_ xs) (at_ ys) k := at_range h
theorem mul_at0 {xs ys : List Rat} (h : 0 < xs.length) : at_ (mulL xs ys) 0 = at_ xs 0 * at_ ys 0 := by
  rw [mul_at h]; unfold cv; show (0 : Rat) + at_ xs 0 * at_ ys (0 - 0) = _; rw [Nat.sub_zero]; grind
theorem at_zero_len {xs : List Rat} (h : ¬ 0 < xs.length) (k : Nat) : at_ xs k = 0 := at_over (by omega)
theorem under_0 {xs : List Rat} (hn : 0 < xs.length) (h0 : at_ xs 0 = 0) : at_ (addL (cstL 1 xs.length) (mulL xs xs)) 0 = 1 := by
  rw [add_at (by rw [cstL_len]; exact hn), cst_at hn, if_pos rfl, mul_at0 hn, h0]; grind
theorem isAtan (xs : List Rat) (h0 : at_ xs 0 = 0) : IsAtan (toS xs.length xs) (toS xs.length (atanL xs)) := by
  by_cases hn : 0 < xs.length
  · refine ⟨?_, of_0 (smd_0 _)⟩
    have := slopes_sum xs (addL (cstL 1 xs.length) (mulL xs xs)) (by rw [under_0 hn h0]; grind)
    rw [add_eq _ _ (cstL_len _ _), one_eq, mul_eq _ _ rfl] at this
    exact this
  · exact ⟨all_0 hn, S.z _ 0 (by omega)⟩
theorem arc_0 {xs ys : List Rat} (hn : 0 < xs.length) : at_ (subL (cstL 1 xs.length) (mulL xs ys)) 0 = 1 - at_ xs 0 * at_ ys 0 := by
  rw [sub_at (by rw [cstL_len]; exact hn), cst_at hn, if_pos rfl, mul_at0 hn]
theorem isArc (xs ys : List Rat) (h : 0 < xs.length → at_ xs 0 * at_ ys 0 ≠ 1) : (1 - toS xs.length xs * toS xs.length ys) * toS xs.length (arcL xs ys) = toS xs.length xs + toS xs.length ys := by
  by_cases hn : 0 < xs.length
  · have := isDiv (addL xs ys) (subL (cstL 1 xs.length) (mulL xs ys)) (by rw [arc_0 hn]; have := h hn; grind)
    rw [addL_len, sub_eq _ _ (cstL_len _ _), one_eq, mul_eq _ _ rfl, add_eq _ _ rfl] at this
    exact this
  · exact all_0 hn
/-! ### what undoes what -/
theorem log_of_exp (xs : List Rat) (h0 : at_ xs 0 = 0) : logL (expL xs) = xs := by
  have hl := expL_len xs
  refine toS_inj (n := xs.length) (by rw [logL_len, hl]) rfl ?_
  have h1 : at_ (expL xs) 0 = 1 ∨ ¬ 0 < xs.length := by
    by_cases hn : 0 < xs.length
    · exact .inl (by rw [expL_at hn, if_pos rfl])
    · exact .inr hn
  rcases h1 with h1 | h1
  · have := isLog (expL xs) h1
    rw [hl] at this
    exact log_exp (isExp xs) this (by rw [toS_0 xs rfl, h0])
  · exact all_0 h1
theorem exp_of_log (xs : List Rat) (h0 : 0 < xs.length → at_ xs 0 = 1) : expL (logL xs) = xs := by
  have hl := logL_len xs
  refine toS_inj (n := xs.length) (by rw [expL_len, hl]) rfl ?_
  by_cases hn : 0 < xs.length
  · have := isExp (logL xs)
    rw [hl] at this
    exact exp_log (isLog xs (h0 hn)) this (fun _ => by rw [toS_0 xs rfl, h0 hn])
  · exact all_0 hn
theorem atan_of_tan (xs : List Rat) (h0 : at_ xs 0 = 0) : atanL (tanL xs) = xs := by
  have hl := tanL_len xs
  refine toS_inj (n := xs.length) (by rw [atanL_len, hl]) rfl ?_
  have := isAtan (tanL xs) (tanL_0 xs)
  rw [hl] at this
  exact atan_tan (isTan xs) this (by rw [toS_0 xs rfl, h0])
theorem tan_of_sum (xs ys : List Rat) (hl : xs.length = ys.length) : tanL (addL xs ys) = arcL (tanL xs) (tanL ys) := by
  have h1 := tanL_len xs
  refine toS_inj (n := xs.length) (by rw [tanL_len, addL_len]) (by rw [arcL_len, h1]) ?_
  have a := isArc (tanL xs) (tanL ys) (fun _ => by rw [tanL_0]; grind)
  rw [h1] at a
  have t1 := isTan xs
  have t2 := isTan ys
  rw [← hl] at t2
  have t3 := isTan (addL xs ys)
  rw [addL_len, add_eq _ _ rfl] at t3
  exact tan_unique' t3 (tan_add t1 t2 a)
theorem exp_log_pow (xs : List Rat) (p : Rat) (ls : List Rat) (h0 : 0 < xs.length → at_ xs 0 = 1) (hl : ls.length = xs.length) (hs : ∀ k, k < xs.length → at_ ls k = p * at_ (logL xs) k) : expL ls = powL xs p := by
  refine toS_inj (n := xs.length) (by rw [expL_len, hl]) (by rw [powL_len]) ?_
  by_cases hn : 0 < xs.length
  · have e := isExp ls
    rw [hl] at e
    have e2 : toS xs.length ls = S.cst p * toS xs.length (logL xs) := ext fun k hk => by rw [toS_c _ hk, cst_mul_c _ _ hk, toS_c _ hk, hs k hk]
    rw [e2] at e
    exact pow_unique (pow_exp_log (isLog xs (h0 hn)) e) (isPow xs p h0) (fun _ => by rw [toS_0 xs rfl, h0 hn])
  · exact all_0 hn
theorem pow_times (xs : List Rat) (p q : Rat) (h0 : 0 < xs.length → at_ xs 0 = 1) : mulL (powL xs p) (powL xs q) = powL xs (p + q) := by
  refine toS_inj (n := xs.length) (by rw [mulL_len, powL_len]) (by rw [powL_len]) ?_
  rw [mul_eq _ _ (powL_len _ _)]
  exact pow_unique (pow_mul (isPow xs p h0) (isPow xs q h0)) (isPow xs (p + q) h0) (fun hn => by rw [toS_0 xs rfl, h0 hn])
/-- the law's log: x k times number k, divided, summed -/
def smdL' (xs : List Rat) : List Rat := (List.range xs.length).map fun k => if k = 0 then 0 else at_ xs k / (k : Rat)
def wtdL' (xs : List Rat) : List Rat := (List.range xs.length).map fun (k : Nat) => ((k : Nat) : Rat) * at_ xs k
theorem slopes_sum' (xs ys : List Rat) (h0 : at_ ys 0 ≠ 0) : toS xs.length ys * S.th (toS xs.length (smdL' (divL (wtdL' xs) ys))) = S.th (toS xs.length xs) := by
  have hl : (wtdL' xs).length = xs.length := len_range
  have d := isDiv (wtdL' xs) ys h0
  rw [hl] at d
  have e : toS xs.length (wtdL' xs) = S.th (toS xs.length xs) := toS_range.trans (ext fun k hk => by rw [S.of_c hk, S.th_c _ hk, toS_c _ hk])
  have q0 : ∀ hn : 0 < xs.length, at_ (divL (wtdL' xs) ys) 0 = 0 := fun hn => by
    rw [divL_at (by rw [hl]; exact hn), show at_ (wtdL' xs) 0 = ((0 : Nat) : Rat) * at_ xs 0 from at_range hn, c0]
    show (0 * _ - 0) / _ = (0 : Rat)
    grind
  have e2 : S.th (toS xs.length (smdL' (divL (wtdL' xs) ys))) = toS xs.length (divL (wtdL' xs) ys) := ext fun k hk => by
    rw [S.th_c _ hk, toS_c _ hk, toS_c _ hk, show at_ (smdL' (divL (wtdL' xs) ys)) k = _ from at_range (by rw [divL_len, hl]; exact hk)]
    by_cases z : k = 0
    · subst z; rw [if_pos rfl, q0 hk]; grind
    · rw [if_neg z]; have := kne z; grind
  rw [e2, d, e]
theorem law_log (xs : List Rat) (h0 : 0 < xs.length → at_ xs 0 = 1) : smdL' (divL (wtdL' xs) xs) = logL xs := by
  have hl : (smdL' (divL (wtdL' xs) xs)).length = xs.length := by rw [show (smdL' (divL (wtdL' xs) xs)).length = _ from len_range, divL_len]; exact len_range
  refine toS_inj (n := xs.length) hl (logL_len xs) ?_
  by_cases hn : 0 < xs.length
  · have h := slopes_sum' xs xs (by rw [h0 hn]; grind)
    refine log_unique (a := toS xs.length xs) ⟨h, of_0 ?_⟩ (isLog xs (h0 hn)) (fun _ => by rw [toS_0 xs rfl, h0 hn])
    rw [show at_ (smdL' (divL (wtdL' xs) xs)) 0 = _ from at_range (by rw [divL_len]; exact Nat.lt_of_lt_of_eq hn len_range.symm), if_pos rfl]
  · exact all_0 hn
theorem law_atan (xs us : List Rat) (h0 : at_ xs 0 = 0) (hu : us = addL (mulL xs xs) (cstL 1 xs.length)) : smdL' (divL (wtdL' xs) us) = atanL xs := by
  have hl : (smdL' (divL (wtdL' xs) us)).length = xs.length := by rw [show (smdL' (divL (wtdL' xs) us)).length = _ from len_range, divL_len]; exact len_range
  refine toS_inj (n := xs.length) hl (atanL_len xs) ?_
  by_cases hn : 0 < xs.length
  · have u0 : at_ us 0 = 1 := by
      rw [hu, add_at (by rw [mulL_len]; exact hn), mul_at0 hn, h0, cst_at hn, if_pos rfl]; grind
    have h := slopes_sum' xs us (by rw [u0]; grind)
    have e : toS xs.length us = 1 + toS xs.length xs * toS xs.length xs := by
      rw [hu, add_eq _ _ (mulL_len _ _), mul_eq _ _ rfl, one_eq]; grind
    rw [e] at h
    refine atan_unique (a := toS xs.length xs) ⟨h, of_0 ?_⟩ (isAtan xs h0) (by rw [toS_0 xs rfl, h0])
    rw [show at_ (smdL' (divL (wtdL' xs) us)) 0 = _ from at_range (by rw [divL_len]; exact Nat.lt_of_lt_of_eq hn len_range.symm), if_pos rfl]
  · exact all_0 hn
/-! ### how great -/
def Aw (D w : Nat) (xs : List Rat) : Prop := ∀ k, Wd D w (at_ xs k)
theorem Aw.mono {D w w' : Nat} {xs : List Rat} (hD : 1 ≤ D) (h : Aw D w xs) (hw : w ≤ w') : Aw D w' xs := fun k => (h k).mono hD hw
theorem Aw.of {D w : Nat} {xs : List Rat} (h : ∀ k, k < xs.length → Wd D w (at_ xs k)) : Aw D w xs := fun k => by
  by_cases hk : k < xs.length
  · exact h k hk
  · rw [at_over (by omega)]; exact Wd.zero
theorem Aw.mem {D w : Nat} {xs : List Rat} (h : ∀ x ∈ xs, Wd D w x) : Aw D w xs := Aw.of fun k hk => h _ (by simp [at_, List.getD_eq_getElem?_getD, hk])
theorem Aw.at {D w : Nat} {xs : List Rat} (h : Aw D w xs) {x : Rat} (hx : x ∈ xs) : Wd D w x := by
  obtain ⟨k, hk, e⟩ := List.mem_iff_getElem.mp hx
  have := h k
  simpa [at_, List.getD_eq_getElem?_getD, hk, e] using this
theorem fo_part {D w w' : Nat} {f g : Nat → Rat} (hD : 8 ≤ D) {k m : Nat} (hk : k ≤ 8) (hm : m ≤ k) (hf : ∀ i, 1 ≤ i → i ≤ k → Wd D w (f i)) (hg : ∀ i, i < k → Wd D w' (g i)) : Wd D (w + w' + 1) (sm (fun i => f (i + 1) * g (k - (i + 1))) m) :=
  Wd.sm hD (by omega) fun i hi => (hf _ (by omega) (by omega)).mul (hg _ (by omega))
theorem fo_w {D w w' : Nat} {f g : Nat → Rat} (hD : 8 ≤ D) {k : Nat} (hk : k ≤ 8) (hf : ∀ i, 1 ≤ i → i ≤ k → Wd D w (f i)) (hg : ∀ i, i < k → Wd D w' (g i)) : Wd D (w + w' + 1) (fo f g k) := fo_part hD hk (Nat.le_refl k) hf hg
theorem cv_w {D w w' : Nat} {f g : Nat → Rat} (hD : 8 ≤ D) {k : Nat} (hk : k < 8) (hf : ∀ i, Wd D w (f i)) (hg : ∀ i, Wd D w' (g i)) : Wd D (w + w' + 1) (cv f g k) := Wd.sm hD (by omega) fun i hi => (hf _).mul (hg _)
theorem mulL_w {D w w' : Nat} {xs ys : List Rat} (hD : 8 ≤ D) (hl : xs.length ≤ 7) (h : Aw D w xs) (h' : Aw D w' ys) : Aw D (w + w' + 1) (mulL xs ys) := Aw.of fun k hk => by
  rw [mulL_len] at hk
  rw [mul_at hk]; exact cv_w hD (by omega) h h'
theorem addL_w {D w : Nat} {xs ys : List Rat} (hD : 8 ≤ D) (h : Aw D w xs) (h' : Aw D w ys) : Aw D (w + 1) (addL xs ys) := Aw.of fun k hk => by
  rw [addL_len] at hk
  rw [add_at hk]; exact Wd.add hD (h k) (h' k)
theorem subL_w {D w : Nat} {xs ys : List Rat} (hD : 8 ≤ D) (h : Aw D w xs) (h' : Aw D w ys) : Aw D (w + 1) (subL xs ys) := Aw.of fun k hk => by
  rw [subL_len] at hk
  rw [sub_at hk]; exact Wd.sub hD (h k) (h' k)
theorem cstL_w {D w n : Nat} {q : Rat} (hD : 1 ≤ D) (h : Wd D w q) : Aw D w (cstL q n) := Aw.of fun k hk => by
  rw [cstL_len] at hk
  rw [cst_at hk]; split
  · exact h
  · exact Wd.zero
theorem wtd_w {D M w : Nat} (g : Good D M) {f : Nat → Rat} {k : Nat} (hk : k ≤ 8) (h : Wd D w (f k)) : Wd D (w + 1) (wtd f k) := h.mul (g.nat hk)
theorem slpL_w {D M w : Nat} (g : Good D M) {xs : List Rat} (hl : xs.length ≤ 7) (h : Aw D w xs) : Aw D (w + 1) (slpL xs) := Aw.of fun k hk => by
  rw [slpL_len] at hk
  rw [show at_ (slpL xs) k = _ from at_range hk]
  split
  · exact (h _).mul (g.nat (by omega))
  · exact Wd.zero
theorem smdL_w {D M w : Nat} (g : Good D M) {xs : List Rat} (hl : xs.length ≤ 7) (h : Aw D w xs) : Aw D (w + 1) (smdL xs) := Aw.of fun k hk => by
  rw [smdL_len] at hk
  rw [smd_at hk]
  split
  · exact Wd.zero
  · next z => exact (h _).mul (g.inv z (by omega))
theorem divL_w {D M wa wb wi : Nat} (g : Good D M) {xs ys : List Rat} (hl : xs.length ≤ 7) (h : Aw D wa xs) (h' : Aw D wb ys) (hi : Wd D wi (1 / at_ ys 0)) : ∀ k, k < xs.length → Wd D (wa + (k + 1) * (wb + wi + 3)) (at_ (divL xs ys) k) := by
  intro k
  induction k using Nat.strongRecOn with
  | ind k ih =>
    intro hk
    rw [divL_at hk]
    have f : Wd D (wb + (wa + k * (wb + wi + 3)) + 1) (fo (at_ ys) (at_ (divL xs ys)) k) := fo_w g.ge (by omega) (fun i _ _ => h' i) fun i hi => (ih i hi (by omega)).mono g.one (by
      have : (i + 1) * (wb + wi + 3) ≤ k * (wb + wi + 3) := Nat.mul_le_mul_right _ (by omega)
      omega)
    have s := Wd.sub g.ge ((h k).mono g.one (w' := wb + (wa + k * (wb + wi + 3)) + 1) (by omega)) f
    have := s.mul hi
    rw [show (at_ xs k - fo (at_ ys) (at_ (divL xs ys)) k) / at_ ys 0 = (at_ xs k - fo (at_ ys) (at_ (divL xs ys)) k) * (1 / at_ ys 0) by grind]
    refine this.mono g.one ?_
    rw [Nat.succ_mul]; omega
theorem divL_W {D M wa wb wi : Nat} (g : Good D M) {xs ys : List Rat} (hl : xs.length ≤ 7) (h : Aw D wa xs) (h' : Aw D wb ys) (hi : Wd D wi (1 / at_ ys 0)) : Aw D (wa + 7 * (wb + wi + 3)) (divL xs ys) := Aw.of fun k hk => by
  rw [divL_len] at hk
  refine (divL_w g hl h h' hi k hk).mono g.one ?_
  have : (k + 1) * (wb + wi + 3) ≤ 7 * (wb + wi + 3) := Nat.mul_le_mul_right _ (by omega)
  omega
theorem expL_w {D M w : Nat} (g : Good D M) {xs : List Rat} (hl : xs.length ≤ 7) (h : Aw D w xs) : ∀ k, k < xs.length → Wd D (k * (w + 3)) (at_ (expL xs) k) := by
  intro k
  induction k using Nat.strongRecOn with
  | ind k ih =>
    intro hk
    rw [expL_at hk]
    split
    · exact Wd.one g.one
    · next z =>
      obtain ⟨m, rfl⟩ : ∃ m, k = m + 1 := ⟨k - 1, by omega⟩
      have f : Wd D (w + 1 + m * (w + 3) + 1) (fo (wtd (at_ xs)) (at_ (expL xs)) (m + 1)) := fo_w g.ge (by omega) (fun i _ _ => wtd_w g (by omega) (h i)) fun i hi => (ih i hi (by omega)).mono g.one (Nat.mul_le_mul_right _ (by omega))
      refine (f.mul (g.inv z (by omega))).mono g.one ?_
      rw [Nat.succ_mul]; omega
theorem expL_W {D M w : Nat} (g : Good D M) {xs : List Rat} (hl : xs.length ≤ 7) (h : Aw D w xs) : Aw D (6 * (w + 3)) (expL xs) := Aw.of fun k hk => by
  rw [expL_len] at hk
  exact (expL_w g hl h k hk).mono g.one (Nat.mul_le_mul_right _ (by omega))
theorem powL_w {D M w wp : Nat} (g : Good D M) {xs : List Rat} {p : Rat} (hl : xs.length ≤ 7) (h : Aw D w xs) (hp : Wd D wp p) : ∀ k, k < xs.length → Wd D (k * (w + wp + 4)) (at_ (powL xs p) k) := by
  intro k
  induction k using Nat.strongRecOn with
  | ind k ih =>
    intro hk
    rw [powL_at hk]
    split
    · exact Wd.one g.one
    · next z =>
      obtain ⟨m, rfl⟩ : ∃ m, k = m + 1 := ⟨k - 1, by omega⟩
      have f : Wd D (w + 1 + wp + m * (w + wp + 4) + 1) (fo (fun i => at_ xs i * (i : Rat) * p) (at_ (powL xs p)) (m + 1)) := fo_w g.ge (by omega) (fun i _ _ => (wtd_w g (by omega) (h i)).mul hp) fun i hi => (ih i hi (by omega)).mono g.one (Nat.mul_le_mul_right _ (by omega))
      have f2 : Wd D (w + (m * (w + wp + 4) + 1) + 1) (fo (at_ xs) (wtd (at_ (powL xs p))) (m + 1)) := fo_w g.ge (by omega) (fun i _ _ => h i) fun i hi => wtd_w g (by omega) ((ih i hi (by omega)).mono g.one (Nat.mul_le_mul_right _ (by omega)))
      have s := Wd.sub g.ge f (f2.mono g.one (w' := w + 1 + wp + m * (w + wp + 4) + 1) (by omega))
      refine (s.mul (g.inv z (by omega))).mono g.one ?_
      rw [Nat.succ_mul]; omega
theorem powL_W {D M w wp : Nat} (g : Good D M) {xs : List Rat} {p : Rat} (hl : xs.length ≤ 7) (h : Aw D w xs) (hp : Wd D wp p) : Aw D (6 * (w + wp + 4)) (powL xs p) := Aw.of fun k hk => by
  rw [powL_len] at hk
  exact (powL_w g hl h hp k hk).mono g.one (Nat.mul_le_mul_right _ (by omega))
theorem tanL_w {D M w : Nat} (g : Good D M) {xs : List Rat} (hl : xs.length ≤ 7) (h : Aw D w xs) : ∀ k, k < xs.length → Wd D (k * (w + 4)) (at_ (tanL xs) k) ∧ Wd D (k * (w + 4) + 1) (sqs (at_ (tanL xs)) k) := by
  intro k
  induction k using Nat.strongRecOn with
  | ind k ih =>
    intro hk
    have t : Wd D (k * (w + 4)) (at_ (tanL xs) k) := by
      rw [tanL_at hk]
      split
      · exact Wd.zero
      · next z =>
        obtain ⟨m, rfl⟩ : ∃ m, k = m + 1 := ⟨k - 1, by omega⟩
        have f : Wd D (w + 1 + (m * (w + 4) + 1) + 1) (fo (wtd (at_ xs)) (sqs (at_ (tanL xs))) (m + 1)) := fo_w g.ge (by omega) (fun i _ _ => wtd_w g (by omega) (h i)) fun i hi => ((ih i hi (by omega)).2).mono g.one (by
          have : i * (w + 4) ≤ m * (w + 4) := Nat.mul_le_mul_right _ (by omega)
          omega)
        refine (f.mul (g.inv z (by omega))).mono g.one ?_
        rw [Nat.succ_mul]; omega
    refine ⟨t, ?_⟩
    unfold sqs
    split
    · exact Wd.one g.one
    · next z =>
      refine Wd.sm g.ge (by omega) fun i hi => ?_
      have ta : ∀ j, j ≤ k → Wd D (j * (w + 4)) (at_ (tanL xs) j) := fun j hj => by
        by_cases e : j = k
        · subst e; exact t
        · exact (ih j (by omega) (by omega)).1
      refine ((ta (i + 1) (by omega)).mul (ta (k - (i + 1)) (by omega))).mono g.one ?_
      rw [← Nat.add_mul]
      exact Nat.mul_le_mul_right _ (by omega)
theorem tanL_W {D M w : Nat} (g : Good D M) {xs : List Rat} (hl : xs.length ≤ 7) (h : Aw D w xs) : Aw D (6 * (w + 4)) (tanL xs) := Aw.of fun k hk => by
  rw [tanL_len] at hk
  exact ((tanL_w g hl h k hk).1).mono g.one (Nat.mul_le_mul_right _ (by omega))
end Ser

set_option maxHeartbeats 400000
set_option linter.all false
/-! # Common bottoms. Plain Lean. -/
namespace Ser
def stp (b d : Nat) : Nat := b / Nat.gcd b d * d
theorem stp_lcm (b d : Nat) : stp b d = Nat.lcm b d := by
  unfold stp Nat.lcm
  rw [Nat.div_mul_right_comm (Nat.gcd_dvd_left b d)]
def lcmL (xs : List Rat) : Nat := xs.foldl (fun b q => stp b q.den) 1
theorem lcmL_snoc (xs : List Rat) (q : Rat) : lcmL (xs ++ [q]) = stp (lcmL xs) q.den := by unfold lcmL; rw [List.foldl_append]; rfl
theorem fold_ok : ∀ (xs : List Rat) (b N : Nat), 0 < b → 0 < N → b ∣ N → (∀ q ∈ xs, q.den ∣ N) → 0 < xs.foldl (fun b q => stp b q.den) b ∧ b ∣ xs.foldl (fun b q => stp b q.den) b ∧ (∀ q ∈ xs, q.den ∣ xs.foldl (fun b q => stp b q.den) b) ∧ xs.foldl (fun b q => stp b q.den) b ∣ N
  | [], b, N, h0, hN, h, _ => ⟨h0, Nat.dvd_refl _, fun _ h => (by cases h), h⟩
  | q :: xs, b, N, h0, hN, h, hs => by
    have hq : q.den ∣ N := hs q List.mem_cons_self
    have e := stp_lcm b q.den
    have p : 0 < stp b q.den := by rw [e]; exact Nat.lcm_pos h0 (Nat.pos_of_ne_zero q.den_nz)
    have d : stp b q.den ∣ N := by rw [e]; exact Nat.lcm_dvd h hq
    obtain ⟨k1, k2, k3, k4⟩ := fold_ok xs (stp b q.den) N p hN d fun x hx => hs x (List.mem_cons_of_mem _ hx)
    refine ⟨k1, Nat.dvd_trans (by rw [e]; exact Nat.dvd_lcm_left _ _) k2, fun x hx => ?_, k4⟩
    rcases List.mem_cons.mp hx with rfl | hx
    · exact Nat.dvd_trans (by rw [e]; exact Nat.dvd_lcm_right _ _) k2
    · exact k3 x hx
theorem Wd.den {D w : Nat} {x : Rat} (hD : 1 ≤ D) (h : Wd D w x) : x.den ∣ D ^ w := by
  obtain ⟨m, h1, h2⟩ := h
  have hd0 : (x.den : Rat) ≠ 0 := by intro z; exact x.den_nz (by exact_mod_cast z)
  have e : x = (x.num : Rat) / (x.den : Rat) := by
    have := Rat.num_divInt_den x
    rw [Rat.divInt_eq_div] at this
    exact this.symm
  have e2 : (x.num : Rat) * ((D ^ w : Nat) : Rat) = (m : Rat) * (x.den : Rat) := by
    have key : ∀ (N d : Rat), d ≠ 0 → x = N / d → x * d = N := fun N d hd h => by rw [h]; grind
    have := key _ _ hd0 e
    rw [← this, ← h1]; grind
  have e3 : x.num * ((D ^ w : Nat) : Int) = m * (x.den : Int) := by exact_mod_cast e2
  have e4 : x.num.natAbs * D ^ w = m.natAbs * x.den := by
    have := congrArg Int.natAbs e3
    rwa [Int.natAbs_mul, Int.natAbs_mul, Int.natAbs_natCast, Int.natAbs_natCast] at this
  have : x.den ∣ x.num.natAbs * D ^ w := ⟨m.natAbs, by rw [e4, Nat.mul_comm]⟩
  exact Nat.Coprime.dvd_of_dvd_mul_left (Nat.Coprime.symm x.reduced) this
theorem lcmL_ok {D w : Nat} {xs : List Rat} (hD : 1 ≤ D) (h : ∀ q ∈ xs, Wd D w q) : 0 < lcmL xs ∧ (∀ q ∈ xs, q.den ∣ lcmL xs) ∧ lcmL xs ≤ D ^ w := by
  obtain ⟨h1, _, h3, h4⟩ := fold_ok xs 1 (D ^ w) (by decide) (pw1 hD) (Nat.one_dvd _) fun q hq => (h q hq).den hD
  exact ⟨h1, h3, Nat.le_of_dvd (pw1 hD) h4⟩
def scl (B : Nat) (q : Rat) : Int := q.num * ((B / q.den : Nat) : Int)
theorem scl_eq {B : Nat} {q : Rat} (h : q.den ∣ B) : ((scl B q : Int) : Rat) = q * (B : Rat) := by
  obtain ⟨c, rfl⟩ := h
  have hd : 0 < q.den := Nat.pos_of_ne_zero q.den_nz
  have hd0 : (q.den : Rat) ≠ 0 := by intro z; exact q.den_nz (by exact_mod_cast z)
  unfold scl
  rw [Nat.mul_div_cancel_left _ hd]
  have e : q = (q.num : Rat) / (q.den : Rat) := by
    have := Rat.num_divInt_den q
    rw [Rat.divInt_eq_div] at this
    exact this.symm
  have key : ∀ (N d : Rat), d ≠ 0 → q = N / d → q * d = N := fun N d hd h => by rw [h]; grind
  have k := key _ _ hd0 e
  push_cast
  rw [← k]; grind
theorem sum_sm (f : Nat → Int) : ∀ n, ((((List.range n).map f).sum : Int) : Rat) = sm (fun i => ((f i : Int) : Rat)) n
  | 0 => rfl
  | n + 1 => by
    rw [List.range_succ, List.map_append, List.sum_append]
    push_cast
    rw [sum_sm f n]
    show _ + (([f n] : List Int).sum : Rat) = sm _ n + _
    simp
theorem sm_natAbs {f : Nat → Int} {b : Nat} : ∀ {n : Nat}, (∀ i, i < n → (f i).natAbs ≤ b) → (((List.range n).map f).sum).natAbs ≤ n * b
  | 0, _ => by simp
  | n + 1, h => by
    rw [List.range_succ, List.map_append, List.sum_append]
    have h1 := sm_natAbs (n := n) fun i hi => h i (by omega)
    have h2 := h n (by omega)
    have h3 := Int.natAbs_add_le ((List.range n).map f).sum (([n].map f).sum)
    have h4 : (([n].map f).sum) = f n := by simp
    rw [h4] at h3
    rw [Nat.succ_mul]
    rw [h4]
    omega
/-- number k of a product by common bottoms -/
theorem cv_scl {xs ys : List Rat} {B C k : Nat} (hB : 0 < B) (hC : 0 < C) (hx : ∀ q ∈ xs, q.den ∣ B) (hy : ∀ q ∈ ys, q.den ∣ C) (f : Nat → Int) (hk : k < xs.length) (hk' : k < ys.length) (hf : ∀ i, i ≤ k → f i = scl B (at_ xs i) * scl C (at_ ys (k - i))) :
    Rat.divInt (((List.range (k + 1)).map f).sum) ((B : Int) * (C : Int)) = cv (at_ xs) (at_ ys) k := by
  have hb : (B : Rat) ≠ 0 := by intro h; have : B = 0 := by exact_mod_cast h
                                omega
  have hc : (C : Rat) ≠ 0 := by intro h; have : C = 0 := by exact_mod_cast h
                                omega
  rw [Rat.divInt_eq_div, sum_sm]
  have mem : ∀ {zs : List Rat} {i : Nat}, i < zs.length → at_ zs i ∈ zs := fun {zs i} hi => by simp [at_, List.getD_eq_getElem?_getD, hi]
  have e : sm (fun i => ((f i : Int) : Rat)) (k + 1) = cv (at_ xs) (at_ ys) k * ((B : Rat) * (C : Rat)) := by
    unfold cv
    rw [← sm_mulr]
    refine sm_congr fun i hi => ?_
    rw [hf i (by omega)]
    push_cast
    rw [scl_eq (hx _ (mem (by omega))), scl_eq (hy _ (mem (by omega)))]
    grind
  rw [e]; push_cast; grind
end Ser

set_option Elab.async false
set_option linter.all false
set_option maxRecDepth 100000
/-! # The text of the law k08 and what stands where behind the top -/
namespace Y8
open PySem L2 Y
def topS (i : Nat) : Stmt := PySem.Challenge.pw_callsleft_k08_whole_series_undo_one_anot.main.body.getD i (.Pass ⟨0, 0, 0, 0⟩)
/-! BadNumber.__init__: slots 0 self 1 why -/
abbrev s_BadNumber_init : Stmt := inClass (topS 3) 0
theorem sc_BadNumber_init : FnScope ["self", "why"] ["self", "why"] (defScope s_BadNumber_init) := ⟨rfl, rfl, rfl, by decide +kernel, rfl, by decide +kernel, by decide +kernel⟩
/-! _is_whole: slots 0 value -/
abbrev s__is_whole : Stmt := topS 9
theorem sc__is_whole : FnScope ["value"] ["value"] (defScope s__is_whole) := ⟨rfl, rfl, rfl, by decide +kernel, rfl, by decide +kernel, by decide +kernel⟩
/-! Ratio.__init__: slots 0 self 1 top 2 bottom 3 shared -/
abbrev s_Ratio_init : Stmt := inClass (topS 11) 0
theorem sc_Ratio_init : FnScope ["self", "top", "bottom", "shared"] ["self", "top", "bottom"] (defScope s_Ratio_init) := ⟨rfl, rfl, rfl, by decide +kernel, rfl, by decide +kernel, by decide +kernel⟩
/-! low: slots 0 top 1 bottom 2 shared -/
abbrev s_low : Stmt := topS 15
theorem sc_low : FnScope ["top", "bottom", "shared"] ["top", "bottom"] (defScope s_low) := ⟨rfl, rfl, rfl, by decide +kernel, rfl, by decide +kernel, by decide +kernel⟩
/-! add: slots 0 a 1 b -/
abbrev s_add : Stmt := topS 16
theorem sc_add : FnScope ["a", "b"] ["a", "b"] (defScope s_add) := ⟨rfl, rfl, rfl, by decide +kernel, rfl, by decide +kernel, by decide +kernel⟩
/-! sub: slots 0 a 1 b -/
abbrev s_sub : Stmt := topS 17
theorem sc_sub : FnScope ["a", "b"] ["a", "b"] (defScope s_sub) := ⟨rfl, rfl, rfl, by decide +kernel, rfl, by decide +kernel, by decide +kernel⟩
/-! mul: slots 0 a 1 b -/
abbrev s_mul : Stmt := topS 18
theorem sc_mul : FnScope ["a", "b"] ["a", "b"] (defScope s_mul) := ⟨rfl, rfl, rfl, by decide +kernel, rfl, by decide +kernel, by decide +kernel⟩
/-! div: slots 0 a 1 b -/
abbrev s_div : Stmt := topS 19
theorem sc_div : FnScope ["a", "b"] ["a", "b"] (defScope s_div) := ⟨rfl, rfl, rfl, by decide +kernel, rfl, by decide +kernel, by decide +kernel⟩
/-! of_number: slots 0 number -/
abbrev s_of_number : Stmt := topS 20
theorem sc_of_number : FnScope ["number"] ["number"] (defScope s_of_number) := ⟨rfl, rfl, rfl, by decide +kernel, rfl, by decide +kernel, by decide +kernel⟩
/-! pairs_of: slots 0 numbers 1 number -/
abbrev s_pairs_of : Stmt := topS 21
theorem sc_pairs_of : FnScope ["numbers", "number"] ["numbers"] (defScope s_pairs_of) := ⟨rfl, rfl, rfl, by decide +kernel, rfl, by decide +kernel, by decide +kernel⟩
/-! ratios_of: slots 0 pairs 1 top 2 bottom -/
abbrev s_ratios_of : Stmt := topS 22
theorem sc_ratios_of : FnScope ["pairs", "top", "bottom"] ["pairs"] (defScope s_ratios_of) := ⟨rfl, rfl, rfl, by decide +kernel, rfl, by decide +kernel, by decide +kernel⟩
/-! constant_row: slots 0 pair 1 terms 2 at -/
abbrev s_constant_row : Stmt := topS 24
theorem sc_constant_row : FnScope ["pair", "terms", "at"] ["pair", "terms"] (defScope s_constant_row) := ⟨rfl, rfl, rfl, by decide +kernel, rfl, by decide +kernel, by decide +kernel⟩
/-! plus: slots 0 a 1 b 2 one 3 other -/
abbrev s_plus : Stmt := topS 25
theorem sc_plus : FnScope ["a", "b", "one", "other"] ["a", "b"] (defScope s_plus) := ⟨rfl, rfl, rfl, by decide +kernel, rfl, by decide +kernel, by decide +kernel⟩
/-! minus: slots 0 a 1 b 2 one 3 other -/
abbrev s_minus : Stmt := topS 26
theorem sc_minus : FnScope ["a", "b", "one", "other"] ["a", "b"] (defScope s_minus) := ⟨rfl, rfl, rfl, by decide +kernel, rfl, by decide +kernel, by decide +kernel⟩
/-! shared_row: slots 0 row 1 bottom 2 pair -/
abbrev s_shared_row : Stmt := topS 27
theorem sc_shared_row : FnScope ["row", "bottom", "pair"] ["row"] (defScope s_shared_row) := ⟨rfl, rfl, rfl, by decide +kernel, rfl, by decide +kernel, by decide +kernel⟩
/-! folded: slots 0 a 1 b 2 at 3 total 4 k -/
abbrev s_folded : Stmt := topS 28
theorem sc_folded : FnScope ["a", "b", "at", "total", "k"] ["a", "b", "at"] (defScope s_folded) := ⟨rfl, rfl, rfl, by decide +kernel, rfl, by decide +kernel, by decide +kernel⟩
/-! times: slots 0 a 1 b 2 first 3 bottom 4 second 5 under 6 at 7 k -/
abbrev s_times : Stmt := topS 29
theorem sc_times : FnScope ["a", "b", "first", "bottom", "second", "under", "at", "k"] ["a", "b"] (defScope s_times) := ⟨rfl, rfl, rfl, by decide +kernel, rfl, by decide +kernel, by decide +kernel⟩
/-! over: slots 0 a 1 b 2 found 3 at -/
abbrev s_over : Stmt := topS 31
theorem sc_over : FnScope ["a", "b", "found", "at"] ["a", "b"] (defScope s_over) := ⟨rfl, rfl, rfl, by decide +kernel, rfl, by decide +kernel, by decide +kernel⟩
/-! slope_row: slots 0 a 1 k 2 _ -/
abbrev s_slope_row : Stmt := topS 33
theorem sc_slope_row : FnScope ["a", "k", "_"] ["a"] (defScope s_slope_row) := ⟨rfl, rfl, rfl, by decide +kernel, rfl, by decide +kernel, by decide +kernel⟩
/-! summed_slopes: slots 0 slopes 1 k -/
abbrev s_summed_slopes : Stmt := topS 34
theorem sc_summed_slopes : FnScope ["slopes", "k"] ["slopes"] (defScope s_summed_slopes) := ⟨rfl, rfl, rfl, by decide +kernel, rfl, by decide +kernel, by decide +kernel⟩
/-! weighted: slots 0 a 1 k 2 entry -/
abbrev s_weighted : Stmt := topS 35
theorem sc_weighted : FnScope ["a", "k", "entry"] ["a"] (defScope s_weighted) := ⟨rfl, rfl, rfl, by decide +kernel, rfl, by decide +kernel, by decide +kernel⟩
/-! check_first: slots 0 a 1 pair -/
abbrev s_check_first : Stmt := topS 36
theorem sc_check_first : FnScope ["a", "pair"] ["a", "pair"] (defScope s_check_first) := ⟨rfl, rfl, rfl, by decide +kernel, rfl, by decide +kernel, by decide +kernel⟩
/-! exp_of: slots 0 a 1 slopes 2 found 3 at -/
abbrev s_exp_of : Stmt := topS 37
theorem sc_exp_of : FnScope ["a", "slopes", "found", "at"] ["a"] (defScope s_exp_of) := ⟨rfl, rfl, rfl, by decide +kernel, rfl, by decide +kernel, by decide +kernel⟩
/-! log_of: slots 0 a -/
abbrev s_log_of : Stmt := topS 38
theorem sc_log_of : FnScope ["a"] ["a"] (defScope s_log_of) := ⟨rfl, rfl, rfl, by decide +kernel, rfl, by decide +kernel, by decide +kernel⟩
/-! tan_of: slots 0 a 1 slopes 2 found 3 squares 4 at -/
abbrev s_tan_of : Stmt := topS 39
theorem sc_tan_of : FnScope ["a", "slopes", "found", "squares", "at"] ["a"] (defScope s_tan_of) := ⟨rfl, rfl, rfl, by decide +kernel, rfl, by decide +kernel, by decide +kernel⟩
/-! atan_of: slots 0 a -/
abbrev s_atan_of : Stmt := topS 40
theorem sc_atan_of : FnScope ["a"] ["a"] (defScope s_atan_of) := ⟨rfl, rfl, rfl, by decide +kernel, rfl, by decide +kernel, by decide +kernel⟩
/-! power_of: slots 0 a 1 pair 2 slopes 3 found 4 at 5 total 6 entry -/
abbrev s_power_of : Stmt := topS 41
theorem sc_power_of : FnScope ["a", "pair", "slopes", "found", "at", "total", "entry"] ["a", "pair"] (defScope s_power_of) := ⟨rfl, rfl, rfl, by decide +kernel, rfl, by decide +kernel, by decide +kernel⟩
/-! arcs_of: slots 0 a 1 b -/
abbrev s_arcs_of : Stmt := topS 42
theorem sc_arcs_of : FnScope ["a", "b"] ["a", "b"] (defScope s_arcs_of) := ⟨rfl, rfl, rfl, by decide +kernel, rfl, by decide +kernel, by decide +kernel⟩
/-! times2: slots 0 a 1 b -/
abbrev s_times2 : Stmt := topS 44
theorem sc_times2 : FnScope ["a", "b"] ["a", "b"] (defScope s_times2) := ⟨rfl, rfl, rfl, by decide +kernel, rfl, by decide +kernel, by decide +kernel⟩
/-! over2: slots 0 a 1 b -/
abbrev s_over2 : Stmt := topS 46
theorem sc_over2 : FnScope ["a", "b"] ["a", "b"] (defScope s_over2) := ⟨rfl, rfl, rfl, by decide +kernel, rfl, by decide +kernel, by decide +kernel⟩
/-! exp_series: slots 0 a -/
abbrev s_exp_series : Stmt := topS 48
theorem sc_exp_series : FnScope ["a"] ["a"] (defScope s_exp_series) := ⟨rfl, rfl, rfl, by decide +kernel, rfl, by decide +kernel, by decide +kernel⟩
/-! log_series: slots 0 a -/
abbrev s_log_series : Stmt := topS 49
theorem sc_log_series : FnScope ["a"] ["a"] (defScope s_log_series) := ⟨rfl, rfl, rfl, by decide +kernel, rfl, by decide +kernel, by decide +kernel⟩
/-! tan_series: slots 0 a -/
abbrev s_tan_series : Stmt := topS 50
theorem sc_tan_series : FnScope ["a"] ["a"] (defScope s_tan_series) := ⟨rfl, rfl, rfl, by decide +kernel, rfl, by decide +kernel, by decide +kernel⟩
/-! atan_series: slots 0 a -/
abbrev s_atan_series : Stmt := topS 51
theorem sc_atan_series : FnScope ["a"] ["a"] (defScope s_atan_series) := ⟨rfl, rfl, rfl, by decide +kernel, rfl, by decide +kernel, by decide +kernel⟩
/-! power_series: slots 0 a 1 number -/
abbrev s_power_series : Stmt := topS 52
theorem sc_power_series : FnScope ["a", "number"] ["a", "number"] (defScope s_power_series) := ⟨rfl, rfl, rfl, by decide +kernel, rfl, by decide +kernel, by decide +kernel⟩
/-! arcs_added: slots 0 a 1 b -/
abbrev s_arcs_added : Stmt := topS 53
theorem sc_arcs_added : FnScope ["a", "b"] ["a", "b"] (defScope s_arcs_added) := ⟨rfl, rfl, rfl, by decide +kernel, rfl, by decide +kernel, by decide +kernel⟩
/-! _law_jar: slots 0 script 1 mixed 2 cell -/
abbrev s__law_jar : Stmt := topS 55
theorem sc__law_jar : FnScope ["script", "mixed", "cell"] ["script"] (defScope s__law_jar) := ⟨rfl, rfl, rfl, by decide +kernel, rfl, by decide +kernel, by decide +kernel⟩
/-! _law_draw: slots 0 jar 1 many 2 cell 3 digit -/
abbrev s__law_draw : Stmt := topS 56
theorem sc__law_draw : FnScope ["jar", "many", "cell", "digit"] ["jar", "many"] (defScope s__law_draw) := ⟨rfl, rfl, rfl, by decide +kernel, rfl, by decide +kernel, by decide +kernel⟩
/-! _law_pick: slots 0 jar 1 menu -/
abbrev s__law_pick : Stmt := topS 57
theorem sc__law_pick : FnScope ["jar", "menu"] ["jar", "menu"] (defScope s__law_pick) := ⟨rfl, rfl, rfl, by decide +kernel, rfl, by decide +kernel, by decide +kernel⟩
/-! _law_low: slots 0 top 1 bottom 2 a 3 b -/
abbrev s__law_low : Stmt := topS 58
theorem sc__law_low : FnScope ["top", "bottom", "a", "b"] ["top", "bottom"] (defScope s__law_low) := ⟨rfl, rfl, rfl, by decide +kernel, rfl, by decide +kernel, by decide +kernel⟩
/-! _law_plus: slots 0 u 1 v -/
abbrev s__law_plus : Stmt := topS 59
theorem sc__law_plus : FnScope ["u", "v"] ["u", "v"] (defScope s__law_plus) := ⟨rfl, rfl, rfl, by decide +kernel, rfl, by decide +kernel, by decide +kernel⟩
/-! _law_minus: slots 0 u 1 v -/
abbrev s__law_minus : Stmt := topS 60
theorem sc__law_minus : FnScope ["u", "v"] ["u", "v"] (defScope s__law_minus) := ⟨rfl, rfl, rfl, by decide +kernel, rfl, by decide +kernel, by decide +kernel⟩
/-! _law_by: slots 0 u 1 v -/
abbrev s__law_by : Stmt := topS 61
theorem sc__law_by : FnScope ["u", "v"] ["u", "v"] (defScope s__law_by) := ⟨rfl, rfl, rfl, by decide +kernel, rfl, by decide +kernel, by decide +kernel⟩
/-! _law_part: slots 0 u 1 v -/
abbrev s__law_part : Stmt := topS 62
theorem sc__law_part : FnScope ["u", "v"] ["u", "v"] (defScope s__law_part) := ⟨rfl, rfl, rfl, by decide +kernel, rfl, by decide +kernel, by decide +kernel⟩
/-! _law_whole: slots 0 told -/
abbrev s__law_whole : Stmt := topS 63
theorem sc__law_whole : FnScope ["told"] ["told"] (defScope s__law_whole) := ⟨rfl, rfl, rfl, by decide +kernel, rfl, by decide +kernel, by decide +kernel⟩
/-! _law_like: slots 0 told 1 due 2 k -/
abbrev s__law_like : Stmt := topS 64
theorem sc__law_like : FnScope ["told", "due", "k"] ["told", "due"] (defScope s__law_like) := ⟨rfl, rfl, rfl, by decide +kernel, rfl, by decide +kernel, by decide +kernel⟩
/-! _law_ratio: slots 0 told 1 u -/
abbrev s__law_ratio : Stmt := topS 65
theorem sc__law_ratio : FnScope ["told", "u"] ["told", "u"] (defScope s__law_ratio) := ⟨rfl, rfl, rfl, by decide +kernel, rfl, by decide +kernel, by decide +kernel⟩
/-! _law_ratios: slots 0 told 1 due 2 k -/
abbrev s__law_ratios : Stmt := topS 66
theorem sc__law_ratios : FnScope ["told", "due", "k"] ["told", "due"] (defScope s__law_ratios) := ⟨rfl, rfl, rfl, by decide +kernel, rfl, by decide +kernel, by decide +kernel⟩
/-! _law_dot: slots 0 a 1 b 2 high 3 k 4 made 5 i -/
abbrev s__law_dot : Stmt := topS 67
theorem sc__law_dot : FnScope ["a", "b", "high", "k", "made", "i"] ["a", "b", "high", "k"] (defScope s__law_dot) := ⟨rfl, rfl, rfl, by decide +kernel, rfl, by decide +kernel, by decide +kernel⟩
/-! _law_xmul: slots 0 a 1 b 2 k -/
abbrev s__law_xmul : Stmt := topS 68
theorem sc__law_xmul : FnScope ["a", "b", "k"] ["a", "b"] (defScope s__law_xmul) := ⟨rfl, rfl, rfl, by decide +kernel, rfl, by decide +kernel, by decide +kernel⟩
/-! _law_xmix: slots 0 a 1 s 2 b 3 t 4 k -/
abbrev s__law_xmix : Stmt := topS 69
theorem sc__law_xmix : FnScope ["a", "s", "b", "t", "k"] ["a", "s", "b", "t"] (defScope s__law_xmix) := ⟨rfl, rfl, rfl, by decide +kernel, rfl, by decide +kernel, by decide +kernel⟩
/-! _law_xdiv: slots 0 a 1 b 2 made 3 k -/
abbrev s__law_xdiv : Stmt := topS 70
theorem sc__law_xdiv : FnScope ["a", "b", "made", "k"] ["a", "b"] (defScope s__law_xdiv) := ⟨rfl, rfl, rfl, by decide +kernel, rfl, by decide +kernel, by decide +kernel⟩
/-! _law_xrated: slots 0 a 1 k -/
abbrev s__law_xrated : Stmt := topS 71
theorem sc__law_xrated : FnScope ["a", "k"] ["a"] (defScope s__law_xrated) := ⟨rfl, rfl, rfl, by decide +kernel, rfl, by decide +kernel, by decide +kernel⟩
/-! _law_xsummed: slots 0 a 1 k -/
abbrev s__law_xsummed : Stmt := topS 72
theorem sc__law_xsummed : FnScope ["a", "k"] ["a"] (defScope s__law_xsummed) := ⟨rfl, rfl, rfl, by decide +kernel, rfl, by decide +kernel, by decide +kernel⟩
/-! _law_xexp: slots 0 a 1 d 2 made 3 k -/
abbrev s__law_xexp : Stmt := topS 73
theorem sc__law_xexp : FnScope ["a", "d", "made", "k"] ["a"] (defScope s__law_xexp) := ⟨rfl, rfl, rfl, by decide +kernel, rfl, by decide +kernel, by decide +kernel⟩
/-! _law_xtan: slots 0 a 1 d 2 made 3 ones 4 k -/
abbrev s__law_xtan : Stmt := topS 74
theorem sc__law_xtan : FnScope ["a", "d", "made", "ones", "k"] ["a"] (defScope s__law_xtan) := ⟨rfl, rfl, rfl, by decide +kernel, rfl, by decide +kernel, by decide +kernel⟩
/-! _law_xlog: slots 0 a -/
abbrev s__law_xlog : Stmt := topS 75
theorem sc__law_xlog : FnScope ["a"] ["a"] (defScope s__law_xlog) := ⟨rfl, rfl, rfl, by decide +kernel, rfl, by decide +kernel, by decide +kernel⟩
/-! _law_xatan: slots 0 a 1 ones 2 k -/
abbrev s__law_xatan : Stmt := topS 76
theorem sc__law_xatan : FnScope ["a", "ones", "k"] ["a"] (defScope s__law_xatan) := ⟨rfl, rfl, rfl, by decide +kernel, rfl, by decide +kernel, by decide +kernel⟩
/-! _law_numbers: slots 0 jar 1 size 2 made 3 k -/
abbrev s__law_numbers : Stmt := topS 77
theorem sc__law_numbers : FnScope ["jar", "size", "made", "k"] ["jar", "size"] (defScope s__law_numbers) := ⟨rfl, rfl, rfl, by decide +kernel, rfl, by decide +kernel, by decide +kernel⟩
/-! _law_handed: slots 0 jar 1 row 2 u -/
abbrev s__law_handed : Stmt := topS 78
theorem sc__law_handed : FnScope ["jar", "row", "u"] ["jar", "row"] (defScope s__law_handed) := ⟨rfl, rfl, rfl, by decide +kernel, rfl, by decide +kernel, by decide +kernel⟩
/-! _law_called_so: slots 0 way 1 a 2 b 3 number 4 e -/
abbrev s__law_called_so : Stmt := topS 79
theorem sc__law_called_so : FnScope ["way", "a", "b", "number", "e"] ["way", "a", "b", "number"] (defScope s__law_called_so) := ⟨rfl, rfl, rfl, by decide +kernel, rfl, by decide +kernel, by decide +kernel⟩
/-! _law_due: slots 0 way 1 a 2 b 3 number 4 made 5 bottom 6 k -/
abbrev s__law_due : Stmt := topS 80
theorem sc__law_due : FnScope ["way", "a", "b", "number", "made", "bottom", "k"] ["way", "a", "b", "number"] (defScope s__law_due) := ⟨rfl, rfl, rfl, by decide +kernel, rfl, by decide +kernel, by decide +kernel⟩
/-! _law_kept: slots 0 given 1 row 2 k 3 one -/
abbrev s__law_kept : Stmt := topS 81
theorem sc__law_kept : FnScope ["given", "row", "k", "one"] ["given", "row"] (defScope s__law_kept) := ⟨rfl, rfl, rfl, by decide +kernel, rfl, by decide +kernel, by decide +kernel⟩
/-! _law_fits_due: slots 0 told 1 due -/
abbrev s__law_fits_due : Stmt := topS 82
theorem sc__law_fits_due : FnScope ["told", "due"] ["told", "due"] (defScope s__law_fits_due) := ⟨rfl, rfl, rfl, by decide +kernel, rfl, by decide +kernel, by decide +kernel⟩
/-! law: slots 0 script 1 jar 2 size 3 a 4 b 5 number 6 way 7 u 8 v 9 one 10 two 11 factor 12 due 13 told 14 both 15 base -/
abbrev s_law : Stmt := topS 83
theorem sc_law : FnScope ["script", "jar", "size", "a", "b", "number", "way", "u", "v", "one", "two", "factor", "due", "told", "both", "base"] ["script"] (defScope s_law) := ⟨rfl, rfl, rfl, by decide +kernel, rfl, by decide +kernel, by decide +kernel⟩
/-- a def of the text: where it stands -/
structure DefG (K : PySem.W.Frag) (py qual : Str) (st : Stmt) (ps : List Str) where
  a : Addr
  fd : FuncData
  F : Fun K py qual st a fd
  b : Binds K fd ps []
/-- a def with one default: where it stands -/
structure DefD (K : PySem.W.Frag) (py qual : Str) (st : Stmt) (ps : List Str) (dvs : List V) where
  a : Addr
  fd : FuncData
  F : FunD K py qual (defArgs st) (defBody st) (defScope st) dvs [] a fd
  b : Binds K fd ps []
set_option maxHeartbeats 0 in
/-- what stands behind the top -/
structure Txt (K : PySem.W.Frag) (mg : Str → Option Value) where
  d_BadNumber_init : DefG K "__init__" "BadNumber.__init__" s_BadNumber_init ["self", "why"]
  d__is_whole : DefG K "_is_whole" "_is_whole" s__is_whole ["value"]
  g__is_whole : mg "_is_whole" = some (.ref d__is_whole.a)
  d_Ratio_init : DefD K "__init__" "Ratio.__init__" s_Ratio_init ["self", "top", "bottom"] [.int 1]
  d_low : DefG K "low" "low" s_low ["top", "bottom"]
  g_low : mg "low" = some (.ref d_low.a)
  d_add : DefG K "add" "add" s_add ["a", "b"]
  g_add : mg "add" = some (.ref d_add.a)
  d_sub : DefG K "sub" "sub" s_sub ["a", "b"]
  g_sub : mg "sub" = some (.ref d_sub.a)
  d_mul : DefG K "mul" "mul" s_mul ["a", "b"]
  g_mul : mg "mul" = some (.ref d_mul.a)
  d_div : DefG K "div" "div" s_div ["a", "b"]
  g_div : mg "div" = some (.ref d_div.a)
  d_of_number : DefG K "of_number" "of_number" s_of_number ["number"]
  g_of_number : mg "of_number" = some (.ref d_of_number.a)
  d_pairs_of : DefG K "pairs_of" "pairs_of" s_pairs_of ["numbers"]
  g_pairs_of : mg "pairs_of" = some (.ref d_pairs_of.a)
  d_ratios_of : DefG K "ratios_of" "ratios_of" s_ratios_of ["pairs"]
  g_ratios_of : mg "ratios_of" = some (.ref d_ratios_of.a)
  d_constant_row : DefG K "constant_row" "constant_row" s_constant_row ["pair", "terms"]
  g_constant_row : mg "constant_row" = some (.ref d_constant_row.a)
  d_plus : DefG K "plus" "plus" s_plus ["a", "b"]
  g_plus : mg "plus" = some (.ref d_plus.a)
  d_minus : DefG K "minus" "minus" s_minus ["a", "b"]
  g_minus : mg "minus" = some (.ref d_minus.a)
  d_shared_row : DefG K "shared_row" "shared_row" s_shared_row ["row"]
  g_shared_row : mg "shared_row" = some (.ref d_shared_row.a)
  d_folded : DefG K "folded" "folded" s_folded ["a", "b", "at"]
  g_folded : mg "folded" = some (.ref d_folded.a)
  d_times : DefG K "times" "times" s_times ["a", "b"]
  g_times_coefs : mg "times_coefs" = some (.ref d_times.a)
  d_over : DefG K "over" "over" s_over ["a", "b"]
  g_over_coefs : mg "over_coefs" = some (.ref d_over.a)
  d_slope_row : DefG K "slope_row" "slope_row" s_slope_row ["a"]
  g_slope_row : mg "slope_row" = some (.ref d_slope_row.a)
  d_summed_slopes : DefG K "summed_slopes" "summed_slopes" s_summed_slopes ["slopes"]
  g_summed_slopes : mg "summed_slopes" = some (.ref d_summed_slopes.a)
  d_weighted : DefG K "weighted" "weighted" s_weighted ["a"]
  g_weighted : mg "weighted" = some (.ref d_weighted.a)
  d_check_first : DefG K "check_first" "check_first" s_check_first ["a", "pair"]
  g_check_first : mg "check_first" = some (.ref d_check_first.a)
  d_exp_of : DefG K "exp_of" "exp_of" s_exp_of ["a"]
  g_exp_of : mg "exp_of" = some (.ref d_exp_of.a)
  d_log_of : DefG K "log_of" "log_of" s_log_of ["a"]
  g_log_of : mg "log_of" = some (.ref d_log_of.a)
  d_tan_of : DefG K "tan_of" "tan_of" s_tan_of ["a"]
  g_tan_of : mg "tan_of" = some (.ref d_tan_of.a)
  d_atan_of : DefG K "atan_of" "atan_of" s_atan_of ["a"]
  g_atan_of : mg "atan_of" = some (.ref d_atan_of.a)
  d_power_of : DefG K "power_of" "power_of" s_power_of ["a", "pair"]
  g_power_of : mg "power_of" = some (.ref d_power_of.a)
  d_arcs_of : DefG K "arcs_of" "arcs_of" s_arcs_of ["a", "b"]
  g_arcs_of : mg "arcs_of" = some (.ref d_arcs_of.a)
  d_times2 : DefG K "times" "times" s_times2 ["a", "b"]
  g_times_series : mg "times_series" = some (.ref d_times2.a)
  d_over2 : DefG K "over" "over" s_over2 ["a", "b"]
  g_over_series : mg "over_series" = some (.ref d_over2.a)
  d_exp_series : DefG K "exp_series" "exp_series" s_exp_series ["a"]
  g_exp_series : mg "exp_series" = some (.ref d_exp_series.a)
  d_log_series : DefG K "log_series" "log_series" s_log_series ["a"]
  g_log_series : mg "log_series" = some (.ref d_log_series.a)
  d_tan_series : DefG K "tan_series" "tan_series" s_tan_series ["a"]
  g_tan_series : mg "tan_series" = some (.ref d_tan_series.a)
  d_atan_series : DefG K "atan_series" "atan_series" s_atan_series ["a"]
  g_atan_series : mg "atan_series" = some (.ref d_atan_series.a)
  d_power_series : DefG K "power_series" "power_series" s_power_series ["a", "number"]
  g_power_series : mg "power_series" = some (.ref d_power_series.a)
  d_arcs_added : DefG K "arcs_added" "arcs_added" s_arcs_added ["a", "b"]
  g_arcs_added : mg "arcs_added" = some (.ref d_arcs_added.a)
  d__law_jar : DefG K "_law_jar" "_law_jar" s__law_jar ["script"]
  g__law_jar : mg "_law_jar" = some (.ref d__law_jar.a)
  d__law_draw : DefG K "_law_draw" "_law_draw" s__law_draw ["jar", "many"]
  g__law_draw : mg "_law_draw" = some (.ref d__law_draw.a)
  d__law_pick : DefG K "_law_pick" "_law_pick" s__law_pick ["jar", "menu"]
  g__law_pick : mg "_law_pick" = some (.ref d__law_pick.a)
  d__law_low : DefG K "_law_low" "_law_low" s__law_low ["top", "bottom"]
  g__law_low : mg "_law_low" = some (.ref d__law_low.a)
  d__law_plus : DefG K "_law_plus" "_law_plus" s__law_plus ["u", "v"]
  g__law_plus : mg "_law_plus" = some (.ref d__law_plus.a)
  d__law_minus : DefG K "_law_minus" "_law_minus" s__law_minus ["u", "v"]
  g__law_minus : mg "_law_minus" = some (.ref d__law_minus.a)
  d__law_by : DefG K "_law_by" "_law_by" s__law_by ["u", "v"]
  g__law_by : mg "_law_by" = some (.ref d__law_by.a)
  d__law_part : DefG K "_law_part" "_law_part" s__law_part ["u", "v"]
  g__law_part : mg "_law_part" = some (.ref d__law_part.a)
  d__law_whole : DefG K "_law_whole" "_law_whole" s__law_whole ["told"]
  g__law_whole : mg "_law_whole" = some (.ref d__law_whole.a)
  d__law_like : DefG K "_law_like" "_law_like" s__law_like ["told", "due"]
  g__law_like : mg "_law_like" = some (.ref d__law_like.a)
  d__law_ratio : DefG K "_law_ratio" "_law_ratio" s__law_ratio ["told", "u"]
  g__law_ratio : mg "_law_ratio" = some (.ref d__law_ratio.a)
  d__law_ratios : DefG K "_law_ratios" "_law_ratios" s__law_ratios ["told", "due"]
  g__law_ratios : mg "_law_ratios" = some (.ref d__law_ratios.a)
  d__law_dot : DefG K "_law_dot" "_law_dot" s__law_dot ["a", "b", "high", "k"]
  g__law_dot : mg "_law_dot" = some (.ref d__law_dot.a)
  d__law_xmul : DefG K "_law_xmul" "_law_xmul" s__law_xmul ["a", "b"]
  g__law_xmul : mg "_law_xmul" = some (.ref d__law_xmul.a)
  d__law_xmix : DefG K "_law_xmix" "_law_xmix" s__law_xmix ["a", "s", "b", "t"]
  g__law_xmix : mg "_law_xmix" = some (.ref d__law_xmix.a)
  d__law_xdiv : DefG K "_law_xdiv" "_law_xdiv" s__law_xdiv ["a", "b"]
  g__law_xdiv : mg "_law_xdiv" = some (.ref d__law_xdiv.a)
  d__law_xrated : DefG K "_law_xrated" "_law_xrated" s__law_xrated ["a"]
  g__law_xrated : mg "_law_xrated" = some (.ref d__law_xrated.a)
  d__law_xsummed : DefG K "_law_xsummed" "_law_xsummed" s__law_xsummed ["a"]
  g__law_xsummed : mg "_law_xsummed" = some (.ref d__law_xsummed.a)
  d__law_xexp : DefG K "_law_xexp" "_law_xexp" s__law_xexp ["a"]
  g__law_xexp : mg "_law_xexp" = some (.ref d__law_xexp.a)
  d__law_xtan : DefG K "_law_xtan" "_law_xtan" s__law_xtan ["a"]
  g__law_xtan : mg "_law_xtan" = some (.ref d__law_xtan.a)
  d__law_xlog : DefG K "_law_xlog" "_law_xlog" s__law_xlog ["a"]
  g__law_xlog : mg "_law_xlog" = some (.ref d__law_xlog.a)
  d__law_xatan : DefG K "_law_xatan" "_law_xatan" s__law_xatan ["a"]
  g__law_xatan : mg "_law_xatan" = some (.ref d__law_xatan.a)
  d__law_numbers : DefG K "_law_numbers" "_law_numbers" s__law_numbers ["jar", "size"]
  g__law_numbers : mg "_law_numbers" = some (.ref d__law_numbers.a)
  d__law_handed : DefG K "_law_handed" "_law_handed" s__law_handed ["jar", "row"]
  g__law_handed : mg "_law_handed" = some (.ref d__law_handed.a)
  d__law_called_so : DefG K "_law_called_so" "_law_called_so" s__law_called_so ["way", "a", "b", "number"]
  g__law_called_so : mg "_law_called_so" = some (.ref d__law_called_so.a)
  d__law_due : DefG K "_law_due" "_law_due" s__law_due ["way", "a", "b", "number"]
  g__law_due : mg "_law_due" = some (.ref d__law_due.a)
  d__law_kept : DefG K "_law_kept" "_law_kept" s__law_kept ["given", "row"]
  g__law_kept : mg "_law_kept" = some (.ref d__law_kept.a)
  d__law_fits_due : DefG K "_law_fits_due" "_law_fits_due" s__law_fits_due ["told", "due"]
  g__law_fits_due : mg "_law_fits_due" = some (.ref d__law_fits_due.a)
  d_law : DefG K "law" "law" s_law ["script"]
  g_law : mg "law" = some (.ref d_law.a)
  cR : Addr
  g_Ratio : mg "Ratio" = some (.ref cR)
  cl : Cls K cR
  noT : NoAttr K cR "top"
  noB : NoAttr K cR "bottom"
  mk_Ratio : Mk K cR d_Ratio_init.a
  haR : PySem.W.findIn K (.ref cR) "__class__" = some (some (.builtin "object.__class__"))
  hnR : PySem.W.specialIn K (.builtin "object.__class__") "__get__" = some (some (.builtin "getset_descriptor.__get__"))
  htR : PySem.W.takesIn K (.builtin "object.__class__") = some true
  hmR : PySem.W.mroIn K cR (.type "object") = some true
  kIR : PySem.W.kitOne K (.type "int") (.ref cR) = some false
  cN : Addr
  g_BadNumber : mg "BadNumber" = some (.ref cN)
  oxN : OexC K cN
  xfN : XfC K cN
  iN : PySem.W.findIn K (.ref cN) "__init__" = some (some (.ref d_BadNumber_init.a))
  tN : PySem.W.typeIn K (.ref d_BadNumber_init.a) = some (.type "function")
  nCode : PySem.W.findIn K (.ref cN) "code" = some none
  nWhy : PySem.W.findIn K (.ref cN) "why" = some none
  vV : PySem.W.findCls K (.type "ValueError") (.type "type") "__init__" = some (.val (.builtin "ValueError.__init__"))
  teN : PySem.W.exmOne K (.ref cN) (.ref cN) = some true
  aZ : Addr
  g_ZERO : mg "ZERO" = some (.ref aZ)
  zZ : ∀ H, SqT K H aZ [.int 0, .int 1]
  aO : Addr
  g_ONE : mg "ONE" = some (.ref aO)
  zO : ∀ H, SqT K H aO [.int 1, .int 1]
  g_gcd : mg "gcd" = some (.builtin "math.gcd")
  n_isinstance : mg "isinstance" = none
  n_int : mg "int" = none
  n_bool : mg "bool" = none
  n_str : mg "str" = none
  n_list : mg "list" = none
  n_tuple : mg "tuple" = none
  n_len : mg "len" = none
  n_abs : mg "abs" = none
  n_sum : mg "sum" = none
  n_range : mg "range" = none
  n_zip : mg "zip" = none
  n_enumerate : mg "enumerate" = none
  n_ValueError : mg "ValueError" = none
end Y8

set_option Elab.async false
set_option linter.all false
set_option maxRecDepth 100000
set_option maxHeartbeats 2000000
/-! # Fractions: the program's and the law's -/
namespace Y8
open PySem L2 Y
section
variable {P : Program} {w : World} {K : PySem.W.Frag} {mg : Str → Option Value} {base : Heap}
/-- one whole number, a truth back -/
def spWhole : Sp := fun vs H Q _ => ∃ Hk, Ex Hk H ∧ ∃ n : Int, vs = [.int n] ∧ Res rBl Hk H true Q
theorem e_isi {α : Type} {r : Rp α} {σ : L2.St} {Hk : Hp} {ta : TE} {x : α} {tn : Value} {c : V} {u : Value} {b : Bool} (ha : E r ta σ Hk x) (hc : ClsV c u) (ht : ∀ H v, r H v x → ∀ H', Ex H H' → TyX K H' v tn) (hk : PySem.W.kitOne K tn u = some b) :
    E rBl (tCB (rIsi K) (tCons ta (tCons (tC c) tNil))) σ Hk b := fun H a Q q => ha H a _ fun v H2 F g hv => ⟨v, c, tn, u, b, rfl, hc, ht F v hv H2 g.f, hk, q _ H2 F g rfl⟩
theorem ty_int {n : Int} : ∀ H v, rInt H v n → ∀ H', Ex H H' → TyX K H' v (.type "int") := fun _ v h _ _ => by cases h; exact .base (.int n)
theorem ty_str {n : Str} : ∀ H v, rStr H v n → ∀ H', Ex H H' → TyX K H' v (.type "str") := fun _ v h _ _ => by cases h; exact .base (.str n)
theorem ty_lst {α : Type} {r : Rp α} {n : List α} : ∀ H v, rLst r H v n → ∀ H', Ex H H' → TyX K H' v (.type "list") := fun _ v ⟨a, vs, h, h1, _⟩ _ e => by cases h; exact .base (.lst (e _ _ h1))
theorem ty_rat (T : Txt K mg) {q : Rat} : ∀ H v, rRat T.cR H v q → ∀ H', Ex H H' → TyX K H' v (.ref T.cR) := fun _ v ⟨a, dx, h, h1⟩ _ e => by cases h; exact .base (.ins (e _ _ h1) T.cl T.haR T.hnR T.htR T.hmR)
theorem kII : PySem.W.kitOne K (.type "int") (.type "int") = some true := kit_ty (by decide +kernel)
theorem kIB : PySem.W.kitOne K (.type "int") (.type "bool") = some false := kit_ty (by decide +kernel)
theorem kRR {C : Addr} : PySem.W.kitOne K (.ref C) (.ref C) = some true := by unfold PySem.W.kitOne; simp
theorem ok__is_whole (T : Txt K mg) : FnOk P w K mg base CX0 1 T.d__is_whole.a T.d__is_whole.fd ["value"] spWhole := by
  refine T.d__is_whole.F.ok sc__is_whole (fun vs H Q Ew h => ?_) (fun cdv A outer s H vs Q Ew hr h => ?_)
  · obtain ⟨_, _, n, rfl, _⟩ := h; rfl
  · obtain ⟨Hk, ex, n, rfl, q⟩ := h
    refine ⟨_, (pss_one (ps_ret (pe_and (pe_callB (c_isiK (K := K) rfl) (by rfl) T.n_isinstance (by decide +kernel) (pa_cons (pv 0) (pa_cons (pe_bltn (v := .ty "int") (by rfl) T.n_int (by decide +kernel) rfl) pa_nil))) (pe_one (pe_not (pe_callB (c_isiK (K := K) rfl) (by rfl) T.n_isinstance (by decide +kernel) (pa_cons (pv 0) (pa_cons (pe_bltn (v := .ty "bool") (by rfl) T.n_bool (by decide +kernel) rfl) pa_nil)))))))), ?_⟩
    have v0 : ∀ te, te = tVar 0 → E rInt te (L2.start ["value"] [.int n]) Hk n := fun te z => by rw [z]; exact e_var rfl rfl
    exact (e_andV (e_isi (v0 _ rfl) (.ty _) ty_int kII) fun _ => e_notV (e_isi (v0 _ rfl) (.ty _) ty_int kIB)) H ex _ fun v H2 F g hv => q v H2 F g hv
theorem ok__law_whole (T : Txt K mg) : FnOk P w K mg base CX0 1 T.d__law_whole.a T.d__law_whole.fd ["told"] spWhole := by
  refine T.d__law_whole.F.ok sc__law_whole (fun vs H Q Ew h => ?_) (fun cdv A outer s H vs Q Ew hr h => ?_)
  · obtain ⟨_, _, n, rfl, _⟩ := h; rfl
  · obtain ⟨Hk, ex, n, rfl, q⟩ := h
    refine ⟨_, (pss_one (ps_ret (pe_and (pe_callB (c_isiK (K := K) rfl) (by rfl) T.n_isinstance (by decide +kernel) (pa_cons (pv 0) (pa_cons (pe_bltn (v := .ty "int") (by rfl) T.n_int (by decide +kernel) rfl) pa_nil))) (pe_one (pe_not (pe_callB (c_isiK (K := K) rfl) (by rfl) T.n_isinstance (by decide +kernel) (pa_cons (pv 0) (pa_cons (pe_bltn (v := .ty "bool") (by rfl) T.n_bool (by decide +kernel) rfl) pa_nil)))))))), ?_⟩
    have v0 : ∀ te, te = tVar 0 → E rInt te (L2.start ["told"] [.int n]) Hk n := fun te z => by rw [z]; exact e_var rfl rfl
    exact (e_andV (e_isi (v0 _ rfl) (.ty _) ty_int kII) fun _ => e_notV (e_isi (v0 _ rfl) (.ty _) ty_int kIB)) H ex _ fun v H2 F g hv => q v H2 F g hv
/-- low(top, bottom) -/
def spLow (K : PySem.W.Frag) : Sp := fun vs H Q _ => ∃ Hk, Ex Hk H ∧ ∃ t b : Int, vs = [.int t, .int b] ∧ b ≠ 0 ∧ b.natAbs < 2 ^ 9000 ∧ Res (rQ K) Hk H (Rat.divInt t b) Q
theorem cdiv_gs {t b : Int} {i : Int} (h : b ≠ 0) (hb : b.natAbs < 2 ^ 9000) : CDivX i (gs t b) := cdivX (gs_ne h) (Nat.lt_of_le_of_lt (gs_le h) hb) (by decide) (Nat.le_refl _)
theorem ok_low (T : Txt K mg) : FnOk P w K mg base CX0 1 T.d_low.a T.d_low.fd ["top", "bottom"] (spLow K) := by
  refine T.d_low.F.ok sc_low (fun vs H Q Ew h => ?_) (fun cdv A outer s H vs Q Ew hr h => ?_)
  · obtain ⟨_, _, t, b, rfl, _⟩ := h; rfl
  · obtain ⟨Hk, ex, t, b, rfl, h0, hb, q⟩ := h
    refine ⟨_, (pss_cons (ps_set (i := 2) sc_low.nd rfl (Or.inl rfl) (pe_callBfun cr_gcd rfl T.g_gcd (pa_cons (pv 0) (pa_cons (pv 1) pa_nil))))
      (pss_cons (ps_if (pt_cmpR op_lt (pv 1) pe_int (nomark _)) (pss_one (ps_set (i := 2) sc_low.nd rfl (Or.inl rfl) (pe_un un_neg (pv 2)))) pss_nil)
      (pss_cons (ps_if (pt_cmpR op_eq (pv 2) pe_int (nomark _)) (pss_one (ps_ret (pe_tup (pa_cons (pv 0) (pa_cons (pv 1) pa_nil))))) pss_nil)
      (pss_one (ps_ret (pe_tup (pa_cons (pe_op op_fdX (pv 0) (pv 2)) (pa_cons (pe_op op_fdX (pv 1) (pv 2)) pa_nil)))))))), ?_⟩
    refine (e_gcd (e_var (x := t) rfl rfl) (e_var (x := b) rfl rfl)) H ex _ fun v H1 F g hv => ?_
    cases hv
    refine s_ifset (H := H1) (K := Hk) (n := gs t b) (b := decide (b < 0)) (t_test (e_b0 (p := fun i j => decide (i < j)) (e_var (x := b) rfl rfl) e_int)) g.kh
      (fun hb => (e_un (f := fun i => -i) (e_var (x := ((Nat.gcd t.natAbs b.natAbs : Nat) : Int)) rfl rfl)).as (by unfold gs; rw [if_pos (of_decide_eq_true hb)]))
      (fun hb => by show some (some (V.int _)) = some (some (V.int _)); unfold gs; rw [if_neg (of_decide_eq_false hb)]) fun H2 e2 => ?_
    refine s_if (H := H2) (K := Hk) (b := decide (gs t b = 1)) (t_test (e_eqI (e_var (x := gs t b) rfl rfl) e_int)) (g.kh.trans e2) (fun c H3 e3 => ?_) (fun c H3 e3 => ?_)
    · have o := low_one h0 (of_decide_eq_true c)
      exact (e_pair (q := Rat.divInt t b) (e_var (x := t) rfl rfl) (e_var (x := b) rfl rfl) o.1 o.2) H3 ((g.kh.trans e2).trans e3) _ fun v H4 F4 g4 hv => q v H4 F4 ((Grow.of ex ((g.h.trans e2).trans e3)).trans g4) hv
    · have o := low_both (t := t) h0
      exact (e_pair (q := Rat.divInt t b) (e_i (e_var (x := t) rfl rfl) (e_var (x := gs t b) rfl rfl) (cdiv_gs h0 hb)) (e_i (e_var (x := b) rfl rfl) (e_var (x := gs t b) rfl rfl) (cdiv_gs h0 hb)) o.1 o.2) H3 ((g.kh.trans e2).trans e3) _ fun v H4 F4 g4 hv => q v H4 F4 ((Grow.of ex ((g.h.trans e2).trans e3)).trans g4) hv
theorem e_low {σ : L2.St} {Hk : Hp} {ta tb : TE} {t b : Int} {q : Rat} {Ew : XK} (ha : E rInt ta σ Hk t) (hb : E rInt tb σ Hk b) (h0 : b ≠ 0) (hs : b.natAbs < 2 ^ 9000) (he : Rat.divInt t b = q) :
    E (rQ K) (tCall (spLow K) [] Ew (tCons ta (tCons tb tNil))) σ Hk q :=
  e_call (ea_cons ha (ea_cons hb ea_nil)) fun F H vs Q ex hp r => by
    obtain ⟨v, ws, rfl, hv, v2, ws2, rfl, hv2, hn⟩ := hp
    cases hv; cases hv2; cases hn
    exact ⟨F, ex, t, b, rfl, h0, hs, by rw [he]; exact r⟩
/-- two fractions, a fraction back -/
def spQQ (K : PySem.W.Frag) (f : Rat → Rat → Rat) (pre : Rat → Rat → Prop) : Sp := fun vs H Q _ => ∃ Hk, Ex Hk H ∧ ∃ va vb a b, vs = [va, vb] ∧ rQ K Hk va a ∧ rQ K Hk vb b ∧ S4 a ∧ S4 b ∧ pre a b ∧ Res (rQ K) Hk H (f a b) Q
theorem spQQ_len {f : Rat → Rat → Rat} {pre : Rat → Rat → Prop} {p1 p2 : Str} (vs : List V) (H : Hp) (Q : VK) (Ew : XK) (h : spQQ K f pre vs H Q Ew) : vs.length = [p1, p2].length := by
  obtain ⟨_, _, _, _, _, _, rfl, _⟩ := h; rfl
theorem e_QQ {f : Rat → Rat → Rat} {pre : Rat → Rat → Prop} {σ : L2.St} {Hk : Hp} {ta tb : TE} {a b : Rat} {Ew : XK} (ha : E (rQ K) ta σ Hk a) (hb : E (rQ K) tb σ Hk b) (h1 : S4 a) (h2 : S4 b) (hp : pre a b) :
    E (rQ K) (tCall (spQQ K f pre) [] Ew (tCons ta (tCons tb tNil))) σ Hk (f a b) :=
  e_call (ea_cons ha (ea_cons hb ea_nil)) fun F H vs Q ex hv r => by
    obtain ⟨v, ws, rfl, hv, v2, ws2, rfl, hv2, hn⟩ := hv
    cases hn
    exact ⟨F, ex, v, v2, a, b, rfl, hv, hv2, h1, h2, hp, r⟩
local macro_rules | `(tactic| walk_at "e") => `(tactic| first
  | exact e_int | exact e_bl | exact e_str | exact e_var rfl rfl | exact e_var (by assumption) rfl
  | (refine e_top ?_; walk_at "e") | (refine e_bot ?_; walk_at "e")
  | (refine e_i0 ?_ ?_ <;> walk_at "e")
  | (refine e_i ?_ ?_ ?_; rotate_right; all_goals walk_at "e")
  | (refine e_eqI ?_ ?_ <;> walk_at "e") | (refine e_neI ?_ ?_ <;> walk_at "e") | (refine e_b0 ?_ ?_ <;> walk_at "e")
  | (refine t_test ?_; walk_at "e"))
theorem mul4 {a b : Rat} (h1 : S4 a) (h2 : S4 b) : CMulW a.num b.num ∧ CMulW a.num b.den ∧ CMulW b.num a.den ∧ CMulW a.den b.den ∧ CMulW a.den b.num ∧ ((a.den : Int) * b.den).natAbs < 2 ^ 9000 := by
  have d1 := S4.den h1
  have d2 := S4.den h2
  have l : ∀ {i j : Int}, i.natAbs < 2 ^ 4000 → j.natAbs < 2 ^ 4000 → (i * j).natAbs < 2 ^ 9000 := fun h k => Nat.lt_of_lt_of_le (abs_mul h k) (Nat.pow_le_pow_right (by decide) (by decide))
  exact ⟨mulOk h1.1 h2.1 (by decide) (by decide) (by decide), mulOk h1.1 d2 (by decide) (by decide) (by decide), mulOk h2.1 d1 (by decide) (by decide) (by decide), mulOk d1 d2 (by decide) (by decide) (by decide), mulOk d1 h2.1 (by decide) (by decide) (by decide), l d1 d2⟩
theorem div9 {a b : Rat} (h1 : S4 a) (h2 : b.num.natAbs < 2 ^ 4000) : ((a.den : Int) * b.num).natAbs < 2 ^ 9000 := Nat.lt_of_lt_of_le (abs_mul (S4.den h1) h2) (Nat.pow_le_pow_right (by decide) (by decide))
abbrev pD : Rat → Rat → Prop := fun _ b => b ≠ 0 ∧ b.num.natAbs < 2 ^ 4000
theorem pow49 {n : Nat} (h : n < 2 ^ 4000) : n < 2 ^ 9000 := Nat.lt_of_lt_of_le h (Nat.pow_le_pow_right (by decide) (by decide))
theorem den_mul0 (a b : Rat) : (a.den : Int) * b.den ≠ 0 := Int.mul_ne_zero (den0 a) (den0 b)
abbrev pT : Rat → Rat → Prop := fun _ _ => True
theorem ok_add (T : Txt K mg) : FnOk P w K mg base CX0 2 T.d_add.a T.d_add.fd ["a", "b"] (spQQ K (· + ·) pT) := by
  refine T.d_add.F.ok sc_add spQQ_len (fun cdv A outer s H vs Q Ew hr h => ?_)
  obtain ⟨Hk, ex, va, vb, a, b, rfl, ha, hb, h1, h2, _, q⟩ := h
  obtain ⟨m1, m2, m3, m4, m5, m6⟩ := mul4 h1 h2
  refine ⟨_, (pss_cons (ps_if (pt_cmpR op_eq (pe_ix (ix_tupK (K := K) rfl) (pv 0) pe_int (fun _ _ => rfl)) (pe_ix (ix_tupK (K := K) rfl) (pv 1) pe_int (fun _ _ => rfl)) (nomark _)) (pss_one (ps_ret (pe_call (ok_low T) (hr.mono (by decide)) (by rfl) T.g_low T.d_low.F.kp T.d_low.b .nil pass0 (pa_cons (pe_op op_add (pe_ix (ix_tupK (K := K) rfl) (pv 0) pe_int (fun _ _ => rfl)) (pe_ix (ix_tupK (K := K) rfl) (pv 1) pe_int (fun _ _ => rfl))) (pa_cons (pe_ix (ix_tupK (K := K) rfl) (pv 0) pe_int (fun _ _ => rfl)) pa_nil))))) pss_nil)
      (pss_one (ps_ret (pe_call (ok_low T) (hr.mono (by decide)) (by rfl) T.g_low T.d_low.F.kp T.d_low.b .nil pass0 (pa_cons (pe_op op_add (pe_op op_mulW (pe_ix (ix_tupK (K := K) rfl) (pv 0) pe_int (fun _ _ => rfl)) (pe_ix (ix_tupK (K := K) rfl) (pv 1) pe_int (fun _ _ => rfl))) (pe_op op_mulW (pe_ix (ix_tupK (K := K) rfl) (pv 1) pe_int (fun _ _ => rfl)) (pe_ix (ix_tupK (K := K) rfl) (pv 0) pe_int (fun _ _ => rfl)))) (pa_cons (pe_op op_mulW (pe_ix (ix_tupK (K := K) rfl) (pv 0) pe_int (fun _ _ => rfl)) (pe_ix (ix_tupK (K := K) rfl) (pv 1) pe_int (fun _ _ => rfl))) pa_nil)))))), ?_⟩
  refine s_if (K := Hk) (b := decide ((a.den : Int) = b.den)) (by walk_at "e") ex (fun c H3 e3 => ?_) (fun c H3 e3 => ?_)
  · exact (e_low (by walk_at "e") (by walk_at "e") (den0 a) (pow49 (S4.den h1)) (q_add1 a b (of_decide_eq_true c))) H3 (ex.trans e3) _ fun v H4 F g hv => q v H4 F ((Grow.of ex e3).trans g) hv
  · exact (e_low (e_i0 (e_i (e_top (e_var ha rfl)) (e_bot (e_var hb rfl)) m2) (e_i (e_top (e_var hb rfl)) (e_bot (e_var ha rfl)) m3)) (e_i (e_bot (e_var ha rfl)) (e_bot (e_var hb rfl)) m4) (den_mul0 a b) m6 (q_add a b)) H3 (ex.trans e3) _ fun v H4 F g hv => q v H4 F ((Grow.of ex e3).trans g) hv
theorem ok_sub (T : Txt K mg) : FnOk P w K mg base CX0 2 T.d_sub.a T.d_sub.fd ["a", "b"] (spQQ K (· - ·) pT) := by
  refine T.d_sub.F.ok sc_sub spQQ_len (fun cdv A outer s H vs Q Ew hr h => ?_)
  obtain ⟨Hk, ex, va, vb, a, b, rfl, ha, hb, h1, h2, _, q⟩ := h
  obtain ⟨m1, m2, m3, m4, m5, m6⟩ := mul4 h1 h2
  refine ⟨_, (pss_cons (ps_if (pt_cmpR op_eq (pe_ix (ix_tupK (K := K) rfl) (pv 0) pe_int (fun _ _ => rfl)) (pe_ix (ix_tupK (K := K) rfl) (pv 1) pe_int (fun _ _ => rfl)) (nomark _)) (pss_one (ps_ret (pe_call (ok_low T) (hr.mono (by decide)) (by rfl) T.g_low T.d_low.F.kp T.d_low.b .nil pass0 (pa_cons (pe_op op_sub (pe_ix (ix_tupK (K := K) rfl) (pv 0) pe_int (fun _ _ => rfl)) (pe_ix (ix_tupK (K := K) rfl) (pv 1) pe_int (fun _ _ => rfl))) (pa_cons (pe_ix (ix_tupK (K := K) rfl) (pv 0) pe_int (fun _ _ => rfl)) pa_nil))))) pss_nil)
      (pss_one (ps_ret (pe_call (ok_low T) (hr.mono (by decide)) (by rfl) T.g_low T.d_low.F.kp T.d_low.b .nil pass0 (pa_cons (pe_op op_sub (pe_op op_mulW (pe_ix (ix_tupK (K := K) rfl) (pv 0) pe_int (fun _ _ => rfl)) (pe_ix (ix_tupK (K := K) rfl) (pv 1) pe_int (fun _ _ => rfl))) (pe_op op_mulW (pe_ix (ix_tupK (K := K) rfl) (pv 1) pe_int (fun _ _ => rfl)) (pe_ix (ix_tupK (K := K) rfl) (pv 0) pe_int (fun _ _ => rfl)))) (pa_cons (pe_op op_mulW (pe_ix (ix_tupK (K := K) rfl) (pv 0) pe_int (fun _ _ => rfl)) (pe_ix (ix_tupK (K := K) rfl) (pv 1) pe_int (fun _ _ => rfl))) pa_nil)))))), ?_⟩
  refine s_if (K := Hk) (b := decide ((a.den : Int) = b.den)) (by walk_at "e") ex (fun c H3 e3 => ?_) (fun c H3 e3 => ?_)
  · exact (e_low (by walk_at "e") (by walk_at "e") (den0 a) (pow49 (S4.den h1)) (q_sub1 a b (of_decide_eq_true c))) H3 (ex.trans e3) _ fun v H4 F g hv => q v H4 F ((Grow.of ex e3).trans g) hv
  · exact (e_low (e_i0 (e_i (e_top (e_var ha rfl)) (e_bot (e_var hb rfl)) m2) (e_i (e_top (e_var hb rfl)) (e_bot (e_var ha rfl)) m3)) (e_i (e_bot (e_var ha rfl)) (e_bot (e_var hb rfl)) m4) (den_mul0 a b) m6 (q_sub a b)) H3 (ex.trans e3) _ fun v H4 F g hv => q v H4 F ((Grow.of ex e3).trans g) hv
theorem ok_mul (T : Txt K mg) : FnOk P w K mg base CX0 2 T.d_mul.a T.d_mul.fd ["a", "b"] (spQQ K (· * ·) pT) := by
  refine T.d_mul.F.ok sc_mul spQQ_len (fun cdv A outer s H vs Q Ew hr h => ?_)
  obtain ⟨Hk, ex, va, vb, a, b, rfl, ha, hb, h1, h2, _, q⟩ := h
  obtain ⟨m1, m2, m3, m4, m5, m6⟩ := mul4 h1 h2
  refine ⟨_, (pss_one (ps_ret (pe_call (ok_low T) (hr.mono (by decide)) (by rfl) T.g_low T.d_low.F.kp T.d_low.b .nil pass0 (pa_cons (pe_op op_mulW (pe_ix (ix_tupK (K := K) rfl) (pv 0) pe_int (fun _ _ => rfl)) (pe_ix (ix_tupK (K := K) rfl) (pv 1) pe_int (fun _ _ => rfl))) (pa_cons (pe_op op_mulW (pe_ix (ix_tupK (K := K) rfl) (pv 0) pe_int (fun _ _ => rfl)) (pe_ix (ix_tupK (K := K) rfl) (pv 1) pe_int (fun _ _ => rfl))) pa_nil))))), ?_⟩
  exact (e_low (e_i (e_top (e_var ha rfl)) (e_top (e_var hb rfl)) m1) (e_i (e_bot (e_var ha rfl)) (e_bot (e_var hb rfl)) m4) (den_mul0 a b) m6 (q_mul a b)) H ex _ q
theorem ok_div (T : Txt K mg) : FnOk P w K mg base CX0 2 T.d_div.a T.d_div.fd ["a", "b"] (spQQ K (· / ·) pD) := by
  refine T.d_div.F.ok sc_div spQQ_len (fun cdv A outer s H vs Q Ew hr h => ?_)
  obtain ⟨Hk, ex, va, vb, a, b, rfl, ha, hb, h1, h2, h3, q⟩ := h
  obtain ⟨m1, m2, m3, m4, m5, m6⟩ := mul4 h1 h2
  refine ⟨_, (pss_one (ps_ret (pe_call (ok_low T) (hr.mono (by decide)) (by rfl) T.g_low T.d_low.F.kp T.d_low.b .nil pass0 (pa_cons (pe_op op_mulW (pe_ix (ix_tupK (K := K) rfl) (pv 0) pe_int (fun _ _ => rfl)) (pe_ix (ix_tupK (K := K) rfl) (pv 1) pe_int (fun _ _ => rfl))) (pa_cons (pe_op op_mulW (pe_ix (ix_tupK (K := K) rfl) (pv 0) pe_int (fun _ _ => rfl)) (pe_ix (ix_tupK (K := K) rfl) (pv 1) pe_int (fun _ _ => rfl))) pa_nil))))), ?_⟩
  exact (e_low (e_i (e_top (e_var ha rfl)) (e_bot (e_var hb rfl)) m2) (e_i (e_bot (e_var ha rfl)) (e_top (e_var hb rfl)) m5) (Int.mul_ne_zero (den0 a) (num_ne h3.1)) (div9 h1 h3.2) (q_div a b)) H ex _ q
end
end Y8

set_option Elab.async false
set_option linter.all false
set_option maxRecDepth 100000
set_option maxHeartbeats 2000000
/-! # Ratios, lists of fractions -/
namespace Y8
open PySem L2 Y
local macro_rules | `(tactic| walk_at "e") => `(tactic| first
  | exact e_int | exact e_bl | exact e_str | exact e_var rfl rfl | exact e_var (by assumption) rfl
  | (refine e_top ?_; walk_at "e") | (refine e_bot ?_; walk_at "e")
  | (refine e_i0 ?_ ?_ <;> walk_at "e")
  | (refine e_i ?_ ?_ ?_; rotate_right; all_goals walk_at "e")
  | (refine e_eqI ?_ ?_ <;> walk_at "e") | (refine e_neI ?_ ?_ <;> walk_at "e") | (refine e_b0 ?_ ?_ <;> walk_at "e")
  | (refine t_test ?_; walk_at "e"))
section
variable {P : Program} {w : World} {K : PySem.W.Frag} {mg : Str → Option Value} {base : Heap}
theorem e_abs {σ : L2.St} {Hk : Hp} {ta : TE} {i : Int} (h : E rInt ta σ Hk i) : E rInt (tCB rAbs (tCons ta tNil)) σ Hk (i.natAbs : Int) :=
  fun H a Q q => h H a _ fun v H2 F g hv => ⟨i, by rw [hv], q _ H2 F g (by show V.int _ = V.int _; congr 1; split <;> omega)⟩
theorem e_toInt {σ : L2.St} {Hk : Hp} {ta : TE} {i : Int} (h : E rInt ta σ Hk i) : E rInt (tCB rToInt (tCons ta tNil)) σ Hk i :=
  fun H a Q q => h H a _ fun v H2 F g hv => .inl ⟨i, by rw [hv], q _ H2 F g rfl⟩
theorem e_b2i {σ : L2.St} {Hk : Hp} {ta : TE} {b : Bool} (h : E rBl ta σ Hk b) : E rInt (tCB rToInt (tCons ta tNil)) σ Hk (if b then 1 else 0) :=
  fun H a Q q => h H a _ fun v H2 F g hv => .inr ⟨b, by rw [hv], q _ H2 F g rfl⟩
theorem fmod_nat (x y : Nat) : Int.fmod (x : Int) (y : Int) = ((x % y : Nat) : Int) := by rw [Int.fmod_eq_emod_of_nonneg _ (by omega)]; rfl
theorem ok__law_low (T : Txt K mg) : FnOk P w K mg base CX0 1 T.d__law_low.a T.d__law_low.fd ["top", "bottom"] (spLow K) := by
  refine T.d__law_low.F.ok sc__law_low (fun vs H Q Ew h => ?_) (fun cdv A outer s H vs Q Ew hr h => ?_)
  · obtain ⟨_, _, t, b, rfl, _⟩ := h; rfl
  · obtain ⟨Hk, ex, t, b, rfl, h0, hb, q⟩ := h
    refine ⟨_, (pss_cons (ps_set (i := 2) sc__law_low.nd rfl (Or.inl rfl) (pe_callB c_abs (by rfl) T.n_abs (by decide +kernel) (pa_cons (pv 0) pa_nil)))
      (pss_cons (ps_set (i := 3) sc__law_low.nd rfl (Or.inl rfl) (pe_callB c_abs (by rfl) T.n_abs (by decide +kernel) (pa_cons (pv 1) pa_nil)))
      (pss_cons (ps_while PassesOwn.never (pt_cmpR op_ne (pv 3) pe_int (nomark _)) (pss_one (ps_par (i := 2) (j := 3) (by rfl) sc__law_low.nd rfl rfl (by decide) rfl rfl (pa_cons (pv 3) (pa_cons (pe_op op_modN (pe_callTy c_toInt (by rfl) T.n_int (by decide +kernel) (pa_cons (pv 2) pa_nil)) (pv 3)) pa_nil)) (by rfl))))
      (pss_cons (ps_if (pt_cmpR op_lt (pv 1) pe_int (nomark _)) (pss_one (ps_set (i := 2) sc__law_low.nd rfl (Or.inl rfl) (pe_op op_sub pe_int (pv 2)))) pss_nil)
      (pss_one (ps_ret (pe_tup (pa_cons (pe_op op_fdX (pv 0) (pv 2)) (pa_cons (pe_op op_fdX (pv 1) (pv 2)) pa_nil))))))))), ?_⟩
    refine s_set (e_abs (e_var (x := t) rfl rfl)) ex fun v H1 F g hv => ?_
    cases hv
    refine s_set (e_abs (e_var (x := b) rfl rfl)) g.kh fun v H2 F2 g2 hv => ?_
    cases hv
    have x2 : Ex H H2 := g.h.trans g2.h
    refine s_while (fun m σ' H' => ∃ x y : Nat, σ' = [some (.int t), some (.int b), some (.int (x : Int)), some (.int (y : Int))] ∧ Nat.gcd x y = Nat.gcd t.natAbs b.natAbs ∧ m = y ∧ Ex H H') b.natAbs ⟨t.natAbs, b.natAbs, rfl, rfl, rfl, x2⟩ ?_
    rintro m σ' H' ⟨x, y, rfl, hg, rfl, e'⟩
    refine ⟨!decide ((m : Int) = 0), Hk, ex.trans e', by walk_at "e", fun c H3 e3 => ?_, fun c H3 e3 => ?_⟩
    · have hm : m ≠ 0 := by simp at c; omega
      refine two (r := rInt) (s := rInt) (x := (m : Int)) (y := ((x % m : Nat) : Int)) (e_var rfl rfl) ((e_i (C := fun _ j => j ≠ 0) (f := fun i j => i.fmod j) (e_toInt (e_var (x := (x : Int)) rfl rfl)) (e_var (x := (m : Int)) rfl rfl) (by omega)).as (fmod_nat x m)) H3 ((ex.trans e').trans e3) _ fun v w' H4 F4 g4 hv hw => ?_
      cases hv; cases hw
      exact ⟨_, _, rfl, x % m, Nat.mod_lt _ (by omega), m, x % m, rfl, by rw [← hg, Nat.gcd_comm m, ← Nat.gcd_rec, Nat.gcd_comm], rfl, (e'.trans e3).trans g4.h⟩
    · have hm : m = 0 := by simp at c; omega
      subst hm
      rw [Nat.gcd_zero_right] at hg
      subst hg
      refine s_ifset (H := H3) (K := Hk) (n := gs t b) (b := decide (b < 0)) (t_test (e_b0 (p := fun i j => decide (i < j)) (e_var (x := b) rfl rfl) e_int)) ((ex.trans e').trans e3)
        (fun hb => (e_i0 (f := fun i j => i - j) e_int (e_var (x := ((Nat.gcd t.natAbs b.natAbs : Nat) : Int)) rfl rfl)).as (by unfold gs; rw [if_pos (of_decide_eq_true hb), Int.zero_sub]))
        (fun hb => by show some (some (V.int _)) = some (some (V.int _)); unfold gs; rw [if_neg (of_decide_eq_false hb)]) fun H4 e4 => ?_
      have o := low_both (t := t) h0
      have gg : Ex H H4 := (e'.trans e3).trans e4
      exact (e_pair (q := Rat.divInt t b) (e_i (e_var (x := t) rfl rfl) (e_var (x := gs t b) rfl rfl) (cdiv_gs h0 hb)) (e_i (e_var (x := b) rfl rfl) (e_var (x := gs t b) rfl rfl) (cdiv_gs h0 hb)) o.1 o.2) H4 (ex.trans gg) _ fun v H5 F5 g5 hv => q v H5 F5 ((Grow.of ex gg).trans g5) hv
theorem ok__law_plus (T : Txt K mg) : FnOk P w K mg base CX0 2 T.d__law_plus.a T.d__law_plus.fd ["u", "v"] (spQQ K (· + ·) pT) := by
  refine T.d__law_plus.F.ok sc__law_plus spQQ_len (fun cdv A outer s H vs Q Ew hr h => ?_)
  obtain ⟨Hk, ex, va, vb, a, b, rfl, ha, hb, h1, h2, _, q⟩ := h
  obtain ⟨m1, m2, m3, m4, m5, m6⟩ := mul4 h1 h2
  refine ⟨_, (pss_one (ps_ret (pe_call (ok__law_low T) (hr.mono (by decide)) (by rfl) T.g__law_low T.d__law_low.F.kp T.d__law_low.b .nil pass0 (pa_cons (pe_op op_add (pe_op op_mulW (pe_ix (ix_tupK (K := K) rfl) (pv 0) pe_int (fun _ _ => rfl)) (pe_ix (ix_tupK (K := K) rfl) (pv 1) pe_int (fun _ _ => rfl))) (pe_op op_mulW (pe_ix (ix_tupK (K := K) rfl) (pv 1) pe_int (fun _ _ => rfl)) (pe_ix (ix_tupK (K := K) rfl) (pv 0) pe_int (fun _ _ => rfl)))) (pa_cons (pe_op op_mulW (pe_ix (ix_tupK (K := K) rfl) (pv 0) pe_int (fun _ _ => rfl)) (pe_ix (ix_tupK (K := K) rfl) (pv 1) pe_int (fun _ _ => rfl))) pa_nil))))), ?_⟩
  exact (e_low (e_i0 (e_i (e_top (e_var ha rfl)) (e_bot (e_var hb rfl)) m2) (e_i (e_top (e_var hb rfl)) (e_bot (e_var ha rfl)) m3)) (e_i (e_bot (e_var ha rfl)) (e_bot (e_var hb rfl)) m4) (den_mul0 a b) m6 (q_add a b)) H ex _ q
theorem ok__law_minus (T : Txt K mg) : FnOk P w K mg base CX0 2 T.d__law_minus.a T.d__law_minus.fd ["u", "v"] (spQQ K (· - ·) pT) := by
  refine T.d__law_minus.F.ok sc__law_minus spQQ_len (fun cdv A outer s H vs Q Ew hr h => ?_)
  obtain ⟨Hk, ex, va, vb, a, b, rfl, ha, hb, h1, h2, _, q⟩ := h
  obtain ⟨m1, m2, m3, m4, m5, m6⟩ := mul4 h1 h2
  refine ⟨_, (pss_one (ps_ret (pe_call (ok__law_low T) (hr.mono (by decide)) (by rfl) T.g__law_low T.d__law_low.F.kp T.d__law_low.b .nil pass0 (pa_cons (pe_op op_sub (pe_op op_mulW (pe_ix (ix_tupK (K := K) rfl) (pv 0) pe_int (fun _ _ => rfl)) (pe_ix (ix_tupK (K := K) rfl) (pv 1) pe_int (fun _ _ => rfl))) (pe_op op_mulW (pe_ix (ix_tupK (K := K) rfl) (pv 1) pe_int (fun _ _ => rfl)) (pe_ix (ix_tupK (K := K) rfl) (pv 0) pe_int (fun _ _ => rfl)))) (pa_cons (pe_op op_mulW (pe_ix (ix_tupK (K := K) rfl) (pv 0) pe_int (fun _ _ => rfl)) (pe_ix (ix_tupK (K := K) rfl) (pv 1) pe_int (fun _ _ => rfl))) pa_nil))))), ?_⟩
  exact (e_low (e_i0 (e_i (e_top (e_var ha rfl)) (e_bot (e_var hb rfl)) m2) (e_i (e_top (e_var hb rfl)) (e_bot (e_var ha rfl)) m3)) (e_i (e_bot (e_var ha rfl)) (e_bot (e_var hb rfl)) m4) (den_mul0 a b) m6 (q_sub a b)) H ex _ q
theorem ok__law_by (T : Txt K mg) : FnOk P w K mg base CX0 2 T.d__law_by.a T.d__law_by.fd ["u", "v"] (spQQ K (· * ·) pT) := by
  refine T.d__law_by.F.ok sc__law_by spQQ_len (fun cdv A outer s H vs Q Ew hr h => ?_)
  obtain ⟨Hk, ex, va, vb, a, b, rfl, ha, hb, h1, h2, _, q⟩ := h
  obtain ⟨m1, m2, m3, m4, m5, m6⟩ := mul4 h1 h2
  refine ⟨_, (pss_one (ps_ret (pe_call (ok__law_low T) (hr.mono (by decide)) (by rfl) T.g__law_low T.d__law_low.F.kp T.d__law_low.b .nil pass0 (pa_cons (pe_op op_mulW (pe_ix (ix_tupK (K := K) rfl) (pv 0) pe_int (fun _ _ => rfl)) (pe_ix (ix_tupK (K := K) rfl) (pv 1) pe_int (fun _ _ => rfl))) (pa_cons (pe_op op_mulW (pe_ix (ix_tupK (K := K) rfl) (pv 0) pe_int (fun _ _ => rfl)) (pe_ix (ix_tupK (K := K) rfl) (pv 1) pe_int (fun _ _ => rfl))) pa_nil))))), ?_⟩
  exact (e_low (e_i (e_top (e_var ha rfl)) (e_top (e_var hb rfl)) m1) (e_i (e_bot (e_var ha rfl)) (e_bot (e_var hb rfl)) m4) (den_mul0 a b) m6 (q_mul a b)) H ex _ q
theorem ok__law_part (T : Txt K mg) : FnOk P w K mg base CX0 2 T.d__law_part.a T.d__law_part.fd ["u", "v"] (spQQ K (· / ·) pD) := by
  refine T.d__law_part.F.ok sc__law_part spQQ_len (fun cdv A outer s H vs Q Ew hr h => ?_)
  obtain ⟨Hk, ex, va, vb, a, b, rfl, ha, hb, h1, h2, h3, q⟩ := h
  obtain ⟨m1, m2, m3, m4, m5, m6⟩ := mul4 h1 h2
  refine ⟨_, (pss_one (ps_ret (pe_call (ok__law_low T) (hr.mono (by decide)) (by rfl) T.g__law_low T.d__law_low.F.kp T.d__law_low.b .nil pass0 (pa_cons (pe_op op_mulW (pe_ix (ix_tupK (K := K) rfl) (pv 0) pe_int (fun _ _ => rfl)) (pe_ix (ix_tupK (K := K) rfl) (pv 1) pe_int (fun _ _ => rfl))) (pa_cons (pe_op op_mulW (pe_ix (ix_tupK (K := K) rfl) (pv 0) pe_int (fun _ _ => rfl)) (pe_ix (ix_tupK (K := K) rfl) (pv 1) pe_int (fun _ _ => rfl))) pa_nil))))), ?_⟩
  exact (e_low (e_i (e_top (e_var ha rfl)) (e_bot (e_var hb rfl)) m2) (e_i (e_bot (e_var ha rfl)) (e_top (e_var hb rfl)) m5) (Int.mul_ne_zero (den0 a) (num_ne h3.1)) (div9 h1 h3.2) (q_div a b)) H ex _ q
/-! ### Ratio -/
def fsQ (q : Rat) : List (Str × V) := [(("top" : Str), .int q.num), (("bottom" : Str), .int (q.den : Int))]
def spInit (C : Addr) : Sp := fun vs H Q _ => ∃ (x dx : Addr) (t b : Int), vs = [.ref x, .int t, .int b] ∧ H x = some (.ins C dx []) ∧ b ≠ 0 ∧ b.natAbs < 2 ^ 9000 ∧
  ∀ H', (∀ a o, a ≠ x → H a = some o → H' a = some o) → H' x = some (.ins C dx (fsQ (Rat.divInt t b))) → Q .non H'
theorem e_whole {σ : L2.St} {Hk : Hp} {ta : TE} {n : Int} {Ew : XK} (ha : E rInt ta σ Hk n) : E rBl (tCall spWhole [] Ew (tCons ta tNil)) σ Hk true :=
  e_call (ea_cons ha ea_nil) fun F H vs Q ex hp r => by
    obtain ⟨v, ws, rfl, hv, hn⟩ := hp
    cases hv; cases hn
    exact ⟨F, ex, n, rfl, r⟩
theorem ok_Ratio_init (T : Txt K mg) : FnOk P w K mg base CX0 2 T.d_Ratio_init.a T.d_Ratio_init.fd ["self", "top", "bottom"] (spInit T.cR) := by
  refine T.d_Ratio_init.F.ok sc_Ratio_init (fun vs H Q Ew h => ?_) (fun cdv A outer s H vs Q Ew hr h => ?_)
  · obtain ⟨_, _, _, _, rfl, _⟩ := h; rfl
  · obtain ⟨x, dx, t, b, rfl, hx, h0, hb, q⟩ := h
    refine ⟨_, (pss_cons (ps_if (PW.pt (pw_or (pt_not (pt_val (pe_call (ok__is_whole T) (hr.mono (by decide)) (by rfl) T.g__is_whole T.d__is_whole.F.kp T.d__is_whole.b .nil pass0 (pa_cons (pv 1) pa_nil)))) (pw_or1 (pt_not (pt_val (pe_call (ok__is_whole T) (hr.mono (by decide)) (by rfl) T.g__is_whole T.d__is_whole.F.kp T.d__is_whole.b .nil pass0 (pa_cons (pv 2) pa_nil))))))) (pss_one ps_never) pss_nil)
      (pss_cons (ps_if (pt_cmpR op_eq (pv 2) pe_int (nomark _)) (pss_one ps_never) pss_nil)
      (pss_cons (ps_set (i := 3) sc_Ratio_init.nd rfl (Or.inl rfl) (pe_callBfun cr_gcd rfl T.g_gcd (pa_cons (pv 1) (pa_cons (pv 2) pa_nil))))
      (pss_cons (ps_if (pt_cmpR op_lt (pv 2) pe_int (nomark _)) (pss_one (ps_set (i := 3) sc_Ratio_init.nd rfl (Or.inl rfl) (pe_un un_neg (pv 3)))) pss_nil)
      (pss_cons (ps_fld (pv 0) (pe_op op_fdX (pv 1) (pv 3)) rfl)
      (pss_one (ps_fld (pv 0) (pe_op op_fdX (pv 2) (pv 3)) rfl))))))), ?_⟩
    have ex : Ex H H := Ex.refl H
    have v1 : E rInt (tVar 1) (L2.start ["self", "top", "bottom", "shared"] [.ref x, .int t, .int b]) H t := e_var rfl rfl
    have v2 : E rInt (tVar 2) (L2.start ["self", "top", "bottom", "shared"] [.ref x, .int t, .int b]) H b := e_var rfl rfl
    refine s_if (K := H) (b := false) ((t_or (t_not (t_b (e_whole v1))) fun _ => t_not (t_b (e_whole v2))).as rfl) ex (fun c => nomatch c) (fun _ H1 e1 => ?_)
    refine s_if (K := H) (b := false) ((t_test (e_eqI v2 e_int)).as (decide_eq_false h0)) e1 (fun c => nomatch c) (fun _ H2 e2 => ?_)
    refine (e_gcd v1 v2) H2 (e1.trans e2) _ fun v H3 F g hv => ?_
    cases hv
    have e3 : Ex H H3 := g.kh
    refine s_ifset (H := H3) (K := H) (n := gs t b) (b := decide (b < 0)) (t_test (e_b0 (p := fun i j => decide (i < j)) (e_var (x := b) rfl rfl) e_int)) e3
      (fun hb => (e_un (f := fun i => -i) (e_var (x := ((Nat.gcd t.natAbs b.natAbs : Nat) : Int)) rfl rfl)).as (by unfold gs; rw [if_pos (of_decide_eq_true hb)]))
      (fun hb => by show some (some (V.int _)) = some (some (V.int _)); unfold gs; rw [if_neg (of_decide_eq_false hb)]) fun H4 e4 => ?_
    have o := low_both (t := t) h0
    have e5 := e3.trans e4
    refine (e_i (e_var (x := t) rfl rfl) (e_var (x := gs t b) rfl rfl) (cdiv_gs h0 hb)) H4 e5 _ fun v H5 F5 g5 hv => ?_
    cases hv
    have hx5 : H5 x = some (.ins T.cR dx []) := g5.h _ _ (e5 _ _ hx)
    refine ⟨_, rfl, x, T.cR, dx, [], rfl, hx5, T.cl, T.noT, by show 0 < 1000; decide, ?_⟩
    have e6 : ∀ a o, a ≠ x → H a = some o → upd H5 x (.ins T.cR dx [(("top" : Str), .int (t.fdiv (gs t b)))]) a = some o := fun a o n h => by rw [upd_ne n]; exact g5.h _ _ (e5 _ _ h)
    refine (e_i (K := fun _ => none) (e_var (x := b) rfl rfl) (e_var (x := gs t b) rfl rfl) (cdiv_gs h0 hb)) _ (fun _ _ z => nomatch z) _ fun v H6 F6 g6 hv => ?_
    cases hv
    refine ⟨_, rfl, x, T.cR, dx, _, rfl, g6.h _ _ upd_same, T.cl, T.noB, by show 1 < 1000; decide, ?_⟩
    refine q _ (fun a o n h => by rw [upd_ne n]; exact g6.h _ _ (e6 a o n h)) ?_
    rw [upd_same]
    unfold fsQ
    rw [← o.1, ← o.2]
    rfl
theorem e_ratio {C : Addr} {σ : L2.St} {Hk : Hp} {ta tb : TE} {t b : Int} {q : Rat} {Ew : XK} (ha : E rInt ta σ Hk t) (hb : E rInt tb σ Hk b) (h0 : b ≠ 0) (hs : b.natAbs < 2 ^ 9000) (he : Rat.divInt t b = q) :
    E (rRat C) (tMake C (spInit C) [] Ew (tCons ta (tCons tb tNil))) σ Hk q := fun H a Q k => two ha hb H a _ fun v w H2 F g hv hw x dx hx hdx hne => by
  cases hv; cases hw
  refine ⟨x, dx, t, b, rfl, upd_same, h0, hs, fun H' hk hx' => ⟨rfl, ?_⟩⟩
  have hF : ∀ a o, H2 a = some o → H' a = some o := fun a o h => by
    have n1 : a ≠ x := ne_of_none h hx
    have n2 : a ≠ dx := ne_of_none h hdx
    exact hk a o n1 (by rw [upd_ne n1, upd_ne n2]; exact h)
  have fx : F x = none := g.f.free hx
  refine k (.ref x) H' (upd F x (.ins C dx (fsQ q))) ⟨g.h.trans hF, g.k.trans (Ex.new fx), Ex.put (g.f.trans hF) (by rw [hx', he]), fun a h1 h2 => ?_⟩ ⟨x, dx, rfl, upd_same⟩
  by_cases z : a = x
  · subst z; exact g.h.free hx
  · rw [upd_ne z] at h2; exact g.n a h1 h2
theorem lk_top (q : Rat) : (fsQ q).lookup ("top" : Str) = some (.int q.num) := rfl
theorem lk_bot (q : Rat) : (fsQ q).lookup ("bottom" : Str) = some (.int (q.den : Int)) := rfl
theorem e_ftop (T : Txt K mg) {σ : L2.St} {Hk : Hp} {ta : TE} {q : Rat} (h : E (rRat T.cR) ta σ Hk q) : E rInt (tFld K ta ("top" : Str)) σ Hk q.num := fun H a Q k => h H a _ fun v H2 F g ⟨b, dx, hv, hb⟩ => ⟨b, T.cR, dx, fsQ q, _, hv, g.f _ _ hb, T.cl, T.noT, lk_top q, k _ H2 F g rfl⟩
theorem e_fbot (T : Txt K mg) {σ : L2.St} {Hk : Hp} {ta : TE} {q : Rat} (h : E (rRat T.cR) ta σ Hk q) : E rInt (tFld K ta ("bottom" : Str)) σ Hk (q.den : Int) := fun H a Q k => h H a _ fun v H2 F g ⟨b, dx, hv, hb⟩ => ⟨b, T.cR, dx, fsQ q, _, hv, g.f _ _ hb, T.cl, T.noB, lk_bot q, k _ H2 F g rfl⟩
/-! ### lists -/
def spOf (K : PySem.W.Frag) (C : Addr) : Sp := fun vs H Q _ => ∃ Hk, Ex Hk H ∧ ∃ v q, vs = [v] ∧ rNum C Hk v q ∧ Res (rQ K) Hk H q Q
theorem ok_of_number (T : Txt K mg) : FnOk P w K mg base CX0 1 T.d_of_number.a T.d_of_number.fd ["number"] (spOf K T.cR) := by
  refine T.d_of_number.F.ok sc_of_number (fun vs H Q Ew h => ?_) (fun cdv A outer s H vs Q Ew hr h => ?_)
  · obtain ⟨_, _, _, _, rfl, _⟩ := h; rfl
  · obtain ⟨Hk, ex, v, q, rfl, hv, k⟩ := h
    refine ⟨_, (pss_cons (ps_if (pt_val (pe_callB (c_isiK (K := K) rfl) (by rfl) T.n_isinstance (by decide +kernel) (pa_cons (pv 0) (pa_cons (pe_glob (v := .ref T.cR) rfl T.g_Ratio rfl) pa_nil)))) (pss_one (ps_ret (pe_tup (pa_cons (pe_fldK (K := K) rfl (pv 0) rfl) (pa_cons (pe_fldK (K := K) rfl (pv 0) rfl) pa_nil))))) pss_nil)
      (pss_one (ps_ret (pe_tup (pa_cons (pv 0) (pa_cons pe_int pa_nil)))))), ?_⟩
    rcases hv with ⟨rfl, hd⟩ | hv
    · refine s_if (K := Hk) (b := false) (t_b (e_isi (e_var (r := rInt) (x := q.num) rfl rfl) (.own _) ty_int T.kIR)) ex (fun c => nomatch c) (fun _ H1 e1 => ?_)
      exact (e_pair (q := q) (e_var (x := q.num) rfl rfl) e_int rfl (by omega)) H1 (ex.trans e1) _ fun v H2 F g hv => k v H2 F ((Grow.of ex e1).trans g) hv
    · refine s_if (K := Hk) (b := true) (t_b (e_isi (e_var hv rfl) (.own _) (ty_rat T) kRR)) ex (fun _ H1 e1 => ?_) (fun c => nomatch c)
      exact (e_pair (q := q) (e_ftop T (e_var hv rfl)) (e_fbot T (e_var hv rfl)) rfl rfl) H1 (ex.trans e1) _ fun v H2 F g hv => k v H2 F ((Grow.of ex e1).trans g) hv
/-- a list in, a new list out -/
def spLL {α β : Type} (r : Rp α) (s : Rp β) (f : List α → List β) (pre : List α → Prop) : Sp := fun vs H Q _ => ∃ Hk, Ex Hk H ∧ ∃ v xs, vs = [v] ∧ rLst r Hk v xs ∧ pre xs ∧ ResN s Hk H (f xs) Q
theorem spLL_len {α β : Type} {r : Rp α} {s : Rp β} {f : List α → List β} {pre : List α → Prop} {p1 : Str} (vs : List V) (H : Hp) (Q : VK) (Ew : XK) (h : spLL r s f pre vs H Q Ew) : vs.length = [p1].length := by
  obtain ⟨_, _, _, _, rfl, _⟩ := h; rfl
abbrev Sm {α : Type} (xs : List α) : Prop := xs.length ≤ 1000
theorem ok_pairs_of (T : Txt K mg) : FnOk P w K mg base CX0 2 T.d_pairs_of.a T.d_pairs_of.fd ["numbers"] (spLL (rNum T.cR) (rQ K) id Sm) := by
  refine T.d_pairs_of.F.ok sc_pairs_of spLL_len (fun cdv A outer s H vs Q Ew hr h => ?_)
  obtain ⟨Hk, ex, v, xs, rfl, hv, hl, k⟩ := h
  refine ⟨_, (pss_one (ps_ret (pe_lc (own := [("number", 1)]) (g := gName 1) rfl sc_pairs_of.nd (pi_list (pv 0)) (blkOk_by (N := ["numbers", "number"]) (sc := defScope s_pairs_of) (by decide +kernel)) (fun _ _ _ _ _ => (pg_name (i := 1) sc_pairs_of.nd rfl (Or.inl rfl) (hf := Or.inr rfl))) (fun _ _ _ _ _ => pts_nil) (fun _ _ _ _ _ => (pe_call (ok_of_number T) (hr.mono (by decide)) (by rfl) T.g_of_number T.d_of_number.F.kp T.d_of_number.b .nil pass0 (pa_cons (pv 1) pa_nil)))))), ?_⟩
  have e := en_lcL (s := rNum T.cR) (r := rQ K) (f := fun q => q) (Kf := K) (j := 1) (vs := [1]) (e_var (σ := L2.start ["numbers", "number"] [v]) (i := 0) hv rfl) (by omega) (fun _ => rfl) (te := tCall (spOf K T.cR) [] Ew (tCons (tVar 1) tNil))
    (fun y v F hy e hv => e_call (ea_cons (e_var hv rfl) ea_nil) fun F H vs Q ex hp r => by
      obtain ⟨v, ws, rfl, hv, hn⟩ := hp
      cases hn
      exact ⟨F, ex, v, y, rfl, hv, r⟩)
  exact (e.as (List.map_id' xs)) H ex _ k
theorem ok_ratios_of (T : Txt K mg) : FnOk P w K mg base CX0 4 T.d_ratios_of.a T.d_ratios_of.fd ["pairs"] (spLL (rQ K) (rRat T.cR) id fun xs => Sm xs ∧ ∀ q ∈ xs, S4 q) := by
  refine T.d_ratios_of.F.ok sc_ratios_of spLL_len (fun cdv A outer s H vs Q Ew hr h => ?_)
  obtain ⟨Hk, ex, v, xs, rfl, hv, ⟨hl, hs⟩, k⟩ := h
  refine ⟨_, (pss_one (ps_ret (pe_lc (own := [("top", 1), ("bottom", 2)]) (g := (gTup K 2 (gCons (gName 1) (gCons (gName 2) gNil)))) rfl sc_ratios_of.nd (pi_list (pv 0)) (blkOk_by (N := ["pairs", "top", "bottom"]) (sc := defScope s_ratios_of) (by decide +kernel)) (fun _ _ _ _ _ => (pg_tup rfl (pgs_cons (pg_name (i := 1) sc_ratios_of.nd rfl (Or.inl rfl) (hf := Or.inr rfl)) (pgs_cons (pg_name (i := 2) sc_ratios_of.nd rfl (Or.inl rfl) (hf := Or.inr rfl)) pgs_nil)))) (fun _ _ _ _ _ => pts_nil) (fun _ _ _ _ _ => (pe_make T.mk_Ratio (ok_Ratio_init T) (hr.mono (by decide)) rfl T.g_Ratio T.d_Ratio_init.b .nil pass0 (pa_cons (pv 1) (pa_cons (pv 2) pa_nil))))))), ?_⟩
  have e := en_lc0 (r := rRat T.cR) (f := fun i => xs.getD i 0) (vs := [1, 2]) (it_list (Kf := K) (e_var (σ := L2.start ["pairs", "top", "bottom"] [v]) (i := 0) hv rfl)) (by omega) (g := gTup K 2 (gCons (gName 1) (gCons (gName 2) gNil))) (te := tMake T.cR (spInit T.cR) [] Ew (tCons (tVar 1) (tCons (tVar 2) tNil)))
    (fun i v F hi e ⟨y, hy, a, hv, ha⟩ => by
      subst hv
      refine ⟨_, tg_two ha, rfl, ?_⟩
      rw [List.getD_eq_getElem?_getD, hy]
      exact e_ratio (e_var (x := y.num) rfl rfl) (e_var (x := (y.den : Int)) rfl rfl) (den0 y) (pow49 (S4.den (hs y (List.mem_of_getElem? hy)))) (q_def y))
  exact (e.as ((map_range (f := fun q => q) 0).trans (List.map_id' xs))) H ex _ k
end
end Y8

set_option Elab.async false
set_option linter.all false
set_option maxRecDepth 100000
set_option maxHeartbeats 2000000
/-! # The program's rows: constants, sums, products -/
namespace Y8
open PySem L2 Y Ser
local macro_rules | `(tactic| walk_at "e") => `(tactic| first
  | exact e_int | exact e_bl | exact e_str | exact e_var rfl rfl | exact e_var (by assumption) rfl
  | (refine e_top ?_; walk_at "e") | (refine e_bot ?_; walk_at "e")
  | (refine e_i0 ?_ ?_ <;> walk_at "e")
  | (refine e_i ?_ ?_ ?_; rotate_right; all_goals walk_at "e")
  | (refine e_eqI ?_ ?_ <;> walk_at "e") | (refine e_neI ?_ ?_ <;> walk_at "e") | (refine e_b0 ?_ ?_ <;> walk_at "e")
  | (refine t_test ?_; walk_at "e"))
section
variable {P : Program} {w : World} {K : PySem.W.Frag} {mg : Str → Option Value} {base : Heap}
theorem s4 {D M w : Nat} {x : Rat} (g : Good D M) (h : Wd D w x) (hw : w ≤ M) : S4 x := g.size h hw
theorem z_rep (T : Txt K mg) (Hk : Hp) : rQ K Hk (.ref T.aZ) 0 := ⟨T.aZ, rfl, T.zZ Hk⟩
theorem o_rep (T : Txt K mg) (Hk : Hp) : rQ K Hk (.ref T.aO) 1 := ⟨T.aO, rfl, T.zO Hk⟩
theorem at_get {xs : List Rat} {k : Nat} (h : k < xs.length) : xs[k]? = some (at_ xs k) := by simp [at_, List.getD_eq_getElem?_getD, h]
theorem get_at {xs : List Rat} {k : Nat} {x : Rat} (h : xs[k]? = some x) : at_ xs k = x ∧ k < xs.length := by
  have := (List.getElem?_eq_some_iff.mp h).1
  rw [at_get this] at h
  exact ⟨Option.some.inj h, this⟩
/-- constant_row(pair, terms) -/
def spCst (K : PySem.W.Frag) : Sp := fun vs H Q _ => ∃ Hk, Ex Hk H ∧ ∃ v q, ∃ n : Nat, vs = [v, .int (n : Int)] ∧ rQ K Hk v q ∧ n ≤ 1000 ∧ ResN (rQ K) Hk H (cstL q n) Q
theorem ok_constant_row (T : Txt K mg) : FnOk P w K mg base CX0 1 T.d_constant_row.a T.d_constant_row.fd ["pair", "terms"] (spCst K) := by
  refine T.d_constant_row.F.ok sc_constant_row (fun vs H Q Ew h => ?_) (fun cdv A outer s H vs Q Ew hr h => ?_)
  · obtain ⟨_, _, _, _, _, rfl, _⟩ := h; rfl
  · obtain ⟨Hk, ex, v, q, n, rfl, hv, hn, k⟩ := h
    refine ⟨_, (pss_one (ps_ret (pe_lc (own := [("at", 2)]) (g := gName 2) rfl sc_constant_row.nd (pi_range1 (by rfl) T.n_range (pa_cons (pv 1) pa_nil)) (blkOk_by (N := ["pair", "terms", "at"]) (sc := defScope s_constant_row) (by decide +kernel)) (fun _ _ _ _ _ => (pg_name (i := 2) sc_constant_row.nd rfl (Or.inl rfl) (hf := Or.inr rfl))) (fun _ _ _ _ _ => pts_nil) (fun _ _ _ _ _ => (pe_ifExp (pt_cmpR op_eq (pv 2) pe_int (nomark _)) (pv 0) (pe_glob (v := .ref T.aZ) rfl T.g_ZERO rfl)))))), ?_⟩
    refine s_retN ?_ ex k
    refine (en_lcR (n := (n : Int)) (f := fun i => if i = 0 then q else 0) (e_var rfl rfl) (by omega) (by omega) (fun _ => rfl) fun i F hi e => ?_).as (by unfold cstL; rw [Int.toNat_natCast])
    refine e_if (b := decide ((i : Int) = 0)) (by walk_at "e") (fun c => ?_) (fun c => ?_)
    · have : i = 0 := by have := of_decide_eq_true c; omega
      rw [if_pos this]; exact e_var (up e hv) rfl
    · have : ¬ i = 0 := by have := of_decide_eq_false c; omega
      rw [if_neg this]; exact e_c (z_rep T F)
theorem e_cst {σ : L2.St} {Hk : Hp} {ta tb : TE} {q : Rat} {n : Nat} {m : Int} {Ew : XK} (ha : E (rQ K) ta σ Hk q) (hb : E rInt tb σ Hk m) (hm : m = (n : Int)) (hn : n ≤ 1000) : EN (rQ K) (tCall (spCst K) [] Ew (tCons ta (tCons tb tNil))) σ Hk (cstL q n) :=
  en_call (ea_cons ha (ea_cons hb ea_nil)) fun F H vs Q ex hp r => by
    obtain ⟨v, ws, rfl, hv, v2, ws2, rfl, hv2, hn'⟩ := hp
    cases hv2; cases hn'; subst hm
    exact ⟨F, ex, v, q, n, rfl, hv, hn, r⟩
/-- two rows in, a new row out -/
def spRR (K : PySem.W.Frag) (f : List Rat → List Rat → List Rat) (pre : List Rat → List Rat → Prop) : Sp := fun vs H Q _ => ∃ Hk, Ex Hk H ∧ ∃ va vb xs ys, vs = [va, vb] ∧ rLst (rQ K) Hk va xs ∧ rLst (rQ K) Hk vb ys ∧ pre xs ys ∧ ResN (rQ K) Hk H (f xs ys) Q
theorem spRR_len {f : List Rat → List Rat → List Rat} {pre : List Rat → List Rat → Prop} {p1 p2 : Str} (vs : List V) (H : Hp) (Q : VK) (Ew : XK) (h : spRR K f pre vs H Q Ew) : vs.length = [p1, p2].length := by
  obtain ⟨_, _, _, _, _, _, rfl, _⟩ := h; rfl
theorem e_RR {f : List Rat → List Rat → List Rat} {pre : List Rat → List Rat → Prop} {σ : L2.St} {Hk : Hp} {ta tb : TE} {xs ys : List Rat} {Ew : XK} (ha : E (rLst (rQ K)) ta σ Hk xs) (hb : E (rLst (rQ K)) tb σ Hk ys) (hp : pre xs ys) :
    EN (rQ K) (tCall (spRR K f pre) [] Ew (tCons ta (tCons tb tNil))) σ Hk (f xs ys) :=
  en_call (ea_cons ha (ea_cons hb ea_nil)) fun F H vs Q ex hv r => by
    obtain ⟨v, ws, rfl, hv, v2, ws2, rfl, hv2, hn⟩ := hv
    cases hn
    exact ⟨F, ex, v, v2, xs, ys, rfl, hv, hv2, hp, r⟩
/-- rows of one length, at most seven numbers, not too great -/
def Two (c : Nat → Nat) (xs ys : List Rat) : Prop := xs.length = ys.length ∧ xs.length ≤ 7 ∧ ∃ D M w, Good D M ∧ Aw D w xs ∧ Aw D w ys ∧ c w ≤ M
theorem ok_plus (T : Txt K mg) : FnOk P w K mg base CX0 3 T.d_plus.a T.d_plus.fd ["a", "b"] (spRR K addL (Two fun w => w + 1)) := by
  refine T.d_plus.F.ok sc_plus spRR_len (fun cdv A outer s H vs Q Ew hr h => ?_)
  obtain ⟨Hk, ex, va, vb, xs, ys, rfl, ha, hb, ⟨hl, h7, D, M, wx, g, h1, h2, hw⟩, k⟩ := h
  have hw : wx + 1 ≤ M := hw
  refine ⟨_, (pss_one (ps_ret (pe_lc (own := [("one", 2), ("other", 3)]) (g := (gTup K 2 (gCons (gName 2) (gCons (gName 3) gNil)))) rfl sc_plus.nd (pi_zip (by rfl) T.n_zip (pa_cons (pv 0) (pa_cons (pv 1) pa_nil))) (blkOk_by (N := ["a", "b", "one", "other"]) (sc := defScope s_plus) (by decide +kernel)) (fun _ _ _ _ _ => (pg_tup rfl (pgs_cons (pg_name (i := 2) sc_plus.nd rfl (Or.inl rfl) (hf := Or.inr rfl)) (pgs_cons (pg_name (i := 3) sc_plus.nd rfl (Or.inl rfl) (hf := Or.inr rfl)) pgs_nil)))) (fun _ _ _ _ _ => pts_nil) (fun _ _ _ _ _ => (pe_call (ok_add T) (hr.mono (by decide)) (by rfl) T.g_add T.d_add.F.kp T.d_add.b .nil pass0 (pa_cons (pv 2) (pa_cons (pv 3) pa_nil))))))), ?_⟩
  refine s_retN (en_lc0 (f := fun i => at_ xs i + at_ ys i) (it_zip (e_var ha rfl) (e_var hb rfl) hl) (by omega) ?_) ex k
  rintro i v F hi e ⟨Tp, a, b, x, y, rfl, hT, hx, hy, rx, ry⟩
  obtain ⟨rfl, _⟩ := get_at hx
  obtain ⟨rfl, _⟩ := get_at hy
  exact ⟨_, tg_two (st_of hT), rfl, e_QQ (e_var rx rfl) (e_var ry rfl) (s4 g (h1 i) (by omega)) (s4 g (h2 i) (by omega)) trivial⟩
theorem ok_minus (T : Txt K mg) : FnOk P w K mg base CX0 3 T.d_minus.a T.d_minus.fd ["a", "b"] (spRR K subL (Two fun w => w + 1)) := by
  refine T.d_minus.F.ok sc_minus spRR_len (fun cdv A outer s H vs Q Ew hr h => ?_)
  obtain ⟨Hk, ex, va, vb, xs, ys, rfl, ha, hb, ⟨hl, h7, D, M, wx, g, h1, h2, hw⟩, k⟩ := h
  have hw : wx + 1 ≤ M := hw
  refine ⟨_, (pss_one (ps_ret (pe_lc (own := [("one", 2), ("other", 3)]) (g := (gTup K 2 (gCons (gName 2) (gCons (gName 3) gNil)))) rfl sc_minus.nd (pi_zip (by rfl) T.n_zip (pa_cons (pv 0) (pa_cons (pv 1) pa_nil))) (blkOk_by (N := ["a", "b", "one", "other"]) (sc := defScope s_minus) (by decide +kernel)) (fun _ _ _ _ _ => (pg_tup rfl (pgs_cons (pg_name (i := 2) sc_minus.nd rfl (Or.inl rfl) (hf := Or.inr rfl)) (pgs_cons (pg_name (i := 3) sc_minus.nd rfl (Or.inl rfl) (hf := Or.inr rfl)) pgs_nil)))) (fun _ _ _ _ _ => pts_nil) (fun _ _ _ _ _ => (pe_call (ok_sub T) (hr.mono (by decide)) (by rfl) T.g_sub T.d_sub.F.kp T.d_sub.b .nil pass0 (pa_cons (pv 2) (pa_cons (pv 3) pa_nil))))))), ?_⟩
  refine s_retN (en_lc0 (f := fun i => at_ xs i - at_ ys i) (it_zip (e_var ha rfl) (e_var hb rfl) hl) (by omega) ?_) ex k
  rintro i v F hi e ⟨Tp, a, b, x, y, rfl, hT, hx, hy, rx, ry⟩
  obtain ⟨rfl, _⟩ := get_at hx
  obtain ⟨rfl, _⟩ := get_at hy
  exact ⟨_, tg_two (st_of hT), rfl, e_QQ (e_var rx rfl) (e_var ry rfl) (s4 g (h1 i) (by omega)) (s4 g (h2 i) (by omega)) trivial⟩
/-- folded(a, b, at) -/
def spFold (K : PySem.W.Frag) : Sp := fun vs H Q _ => ∃ Hk, Ex Hk H ∧ ∃ va vb xs ys, ∃ n : Nat, vs = [va, vb, .int (n : Int)] ∧ rLst (rQ K) Hk va xs ∧ rLst (rQ K) Hk vb ys ∧ n < xs.length ∧ n ≤ ys.length ∧ n ≤ 7 ∧
  (∃ D M w w', Good D M ∧ (∀ i, 1 ≤ i → i ≤ n → Wd D w (at_ xs i)) ∧ (∀ i, i < n → Wd D w' (at_ ys i)) ∧ w + w' + 1 ≤ M) ∧ Res (rQ K) Hk H (fo (at_ xs) (at_ ys) n) Q
theorem ok_folded (T : Txt K mg) : FnOk P w K mg base CX0 3 T.d_folded.a T.d_folded.fd ["a", "b", "at"] (spFold K) := by
  refine T.d_folded.F.ok sc_folded (fun vs H Q Ew h => ?_) (fun cdv A outer s H vs Q Ew hr h => ?_)
  · obtain ⟨_, _, _, _, _, _, _, rfl, _⟩ := h; rfl
  · obtain ⟨Hk, ex, va, vb, xs, ys, n, rfl, ha, hb, hx, hy, h7, ⟨D, M, w1, w2, g, h1, h2, hw⟩, q⟩ := h
    refine ⟨_, (pss_cons (ps_set (i := 3) sc_folded.nd rfl (Or.inl rfl) (pe_glob (v := .ref T.aZ) rfl T.g_ZERO rfl))
      (pss_cons (ps_for PassesOwn.never rfl (pi_range2 (by rfl) T.n_range (pa_cons pe_int (pa_cons (pe_op op_add (pv 2) pe_int) pa_nil))) (pg_name (i := 4) sc_folded.nd rfl (Or.inl rfl) (hf := Or.inr rfl))
      (pss_one (ps_if (PW.pt (pw_and (pt_cmpR op_ne (pe_ix (ix_tupK (K := K) rfl) (pe_ix (ix_listK (K := K) rfl) (pv 0) (pv 4) (fun _ _ => rfl)) pe_int (fun _ _ => rfl)) pe_int (nomark _)) (pw_and1 (pt_cmpR op_ne (pe_ix (ix_tupK (K := K) rfl) (pe_ix (ix_listK (K := K) rfl) (pv 1) (pe_op op_sub (pv 2) (pv 4)) (fun _ _ => rfl)) pe_int (fun _ _ => rfl)) pe_int (nomark _))))) (pss_one (ps_set (i := 3) sc_folded.nd rfl (Or.inl rfl) (pe_call (ok_add T) (hr.mono (by decide)) (by rfl) T.g_add T.d_add.F.kp T.d_add.b .nil pass0 (pa_cons (pv 3) (pa_cons (pe_call (ok_mul T) (hr.mono (by decide)) (by rfl) T.g_mul T.d_mul.F.kp T.d_mul.b .nil pass0 (pa_cons (pe_ix (ix_listK (K := K) rfl) (pv 0) (pv 4) (fun _ _ => rfl)) (pa_cons (pe_ix (ix_listK (K := K) rfl) (pv 1) (pe_op op_sub (pv 2) (pv 4)) (fun _ _ => rfl)) pa_nil))) pa_nil))))) pss_nil)))
      (pss_one (ps_ret (pv 3))))), ?_⟩
    refine s_set (e_c (z_rep T Hk)) ex fun v H1 F g1 hv => ?_
    have part : ∀ m, m ≤ n → Wd D (w1 + w2 + 1) (sm (fun i => at_ xs (i + 1) * at_ ys (n - (i + 1))) m) := fun m hm => fo_part g.ge (by omega) hm h1 h2
    refine s_forR2 (K := F) (lo := 1) (n := (n : Int) + 1) e_int (e_i0 (e_var rfl rfl) e_int) (by omega) (by omega) g1.f
      (fun i σ' H' => i ≤ n ∧ ∃ F' vt v4, Grow Hk H F' H' ∧ σ' = [some va, some vb, some (.int (n : Int)), some vt, v4] ∧ rQ K F' vt (sm (fun i => at_ xs (i + 1) * at_ ys (n - (i + 1))) i))
      (fun H2 e2 => ⟨Nat.zero_le _, F, v, none, g1.trans (Grow.of g1.f e2), rfl, hv⟩) ?_ ?_
    · rintro i σ' H' hi ⟨_, F', vt, v4, g2, rfl, ht⟩
      have hi' : i < n := by omega
      have ea : ∀ σ, σ = [some va, some vb, some (V.int (n : Int)), some vt, some (V.int (1 + (i : Int)))] → E (rQ K) (tOp (rIxL K) (tVar 0) (tVar 4)) σ F' (at_ xs (i + 1)) := fun σ z => by
        subst z
        exact e_at (k := 1 + (i : Int)) (e_var (up g2.k ha) rfl) (e_var rfl rfl) (by omega) (by rw [show (1 + (i : Int)).toNat = i + 1 by omega]; exact at_get (by omega))
      have eb : ∀ σ, σ = [some va, some vb, some (V.int (n : Int)), some vt, some (V.int (1 + (i : Int)))] → E (rQ K) (tOp (rIxL K) (tVar 1) (tOp (rI0 fun i j => .int (i - j)) (tVar 2) (tVar 4))) σ F' (at_ ys (n - (i + 1))) := fun σ z => by
        subst z
        exact e_at (k := (n : Int) - (1 + (i : Int))) (e_var (up g2.k hb) rfl) (e_i0 (e_var rfl rfl) (e_var rfl rfl)) (by omega) (by rw [show ((n : Int) - (1 + (i : Int))).toNat = n - (i + 1) by omega]; exact at_get (by omega))
      refine s_if (K := F') (t_and (t_test (e_neI (e_top (ea _ rfl)) e_int)) fun _ => t_test (e_neI (e_top (eb _ rfl)) e_int)) g2.f (fun c H3 e3 => ?_) (fun c H3 e3 => ?_)
      · have p1 := h1 (i + 1) (by omega) (by omega)
        have p2 := h2 (n - (i + 1)) (by omega)
        refine s_set (e_QQ (e_var ht rfl) (e_QQ (ea _ rfl) (eb _ rfl) (s4 g p1 (by omega)) (s4 g p2 (by omega)) trivial) (s4 g (part i (by omega)) hw) (s4 g (p1.mul p2) (by omega)) trivial) (g2.f.trans e3) fun v5 H5 F5 g5 hv5 => ?_
        exact ⟨by omega, F5, v5, _, g2.trans ((Grow.of g2.f e3).trans g5), rfl, hv5⟩
      · refine ⟨by omega, F', vt, _, g2.trans (Grow.of g2.f e3), rfl, ?_⟩
        have z : at_ xs (i + 1) * at_ ys (n - (i + 1)) = 0 := by
          simp only [Bool.and_eq_false_iff, Bool.not_eq_false', decide_eq_true_eq] at c
          rcases c with c | c
          · rw [show at_ xs (i + 1) = 0 from Classical.byContradiction fun h => num_ne h c]; grind
          · rw [show at_ ys (n - (i + 1)) = 0 from Classical.byContradiction fun h => num_ne h c]; grind
        show rQ K F' vt (sm _ i + at_ xs (i + 1) * at_ ys (n - (i + 1)))
        rw [z, show ∀ x : Rat, x + 0 = x by intro x; grind]
        exact ht
    · rintro σ' H' ⟨_, F', vt, v4, g2, rfl, ht⟩
      rw [show ((n : Int) + 1 - 1).toNat = n by omega] at ht
      exact s_ret (e_var ht rfl) g2.f (Res.from g2 q)
end
end Y8

set_option Elab.async false
set_option linter.all false
set_option maxRecDepth 100000
set_option maxHeartbeats 2000000
/-! # The program's rows: products by common bottoms, slopes -/
namespace Y8
open PySem L2 Y Ser
section
variable {P : Program} {w : World} {K : PySem.W.Frag} {mg : Str → Option Value} {base : Heap}
/-- a list of whole numbers and a whole number -/
def rSh : Rp (List Int × Int) := fun H v p => ∃ T a, v = .ref T ∧ H T = some (.tup [.ref a, .int p.2]) ∧ rLst rInt H (.ref a) p.1
instance : Mono rSh := ⟨fun e ⟨T, a, h1, h2, h3⟩ => ⟨T, a, h1, e _ _ h2, up e h3⟩⟩
theorem e_sh {σ : L2.St} {Hk : Hp} {ta tb : TE} {ns : List Int} {b : Int} (ha : E (rLst rInt) ta σ Hk ns) (hb : E rInt tb σ Hk b) : E rSh (tTup (tCons ta (tCons tb tNil))) σ Hk (ns, b) :=
  fun H a Q k => two ha hb H a _ fun v w H2 F g ⟨c, vs, hv, hc, hp⟩ hw => ⟨two_le, fun p hp' => by
    have g2 := g.new (o := .tup [v, w]) hp'
    have e : Ex F (upd F p (.tup [v, w])) := Ex.new (g.f.free hp')
    cases hw
    exact k (.ref p) _ _ g2 ⟨p, c, rfl, by rw [upd_same, hv], c, vs, rfl, e _ _ hc, p_up e hp⟩⟩
def spSh (K : PySem.W.Frag) : Sp := fun vs H Q _ => ∃ Hk, Ex Hk H ∧ ∃ v xs, vs = [v] ∧ rLst (rQ K) Hk v xs ∧ xs.length ≤ 7 ∧ (∃ D M w, Good D M ∧ Aw D w xs ∧ w ≤ M) ∧ Res rSh Hk H (xs.map (scl (lcmL xs)), (lcmL xs : Int)) Q
theorem fdiv_nat (a b : Nat) : Int.fdiv (a : Int) (b : Int) = ((a / b : Nat) : Int) := by rw [Int.fdiv_eq_ediv_of_nonneg _ (by omega)]; rfl
theorem lcmL_take {xs : List Rat} {i : Nat} (h : i < xs.length) : lcmL (xs.take (i + 1)) = stp (lcmL (xs.take i)) (at_ xs i).den := by
  rw [List.take_succ, at_get h]; exact lcmL_snoc _ _
theorem ok_shared_row (T : Txt K mg) : FnOk P w K mg base CX0 1 T.d_shared_row.a T.d_shared_row.fd ["row"] (spSh K) := by
  refine T.d_shared_row.F.ok sc_shared_row (fun vs H Q Ew h => ?_) (fun cdv A outer s H vs Q Ew hr h => ?_)
  · obtain ⟨_, _, _, _, rfl, _⟩ := h; rfl
  · obtain ⟨Hk, ex, v, xs, rfl, hv, h7, ⟨D, M, wx, g, hx, hw⟩, q⟩ := h
    refine ⟨_, (pss_cons (ps_set (i := 1) sc_shared_row.nd rfl (Or.inr rfl) pe_int)
      (pss_cons (ps_for PassesOwn.never rfl (pi_list (pv 0)) (pg_name (i := 2) sc_shared_row.nd rfl (Or.inl rfl) (hf := Or.inr rfl))
      (pss_one (ps_set (i := 1) sc_shared_row.nd rfl (Or.inr rfl) (pe_op op_mulW (pe_op op_fdX (pv 1) (pe_callBfun cr_gcd rfl T.g_gcd (pa_cons (pv 1) (pa_cons (pe_ix (ix_tupK (K := K) rfl) (pv 2) pe_int (fun _ _ => rfl)) pa_nil)))) (pe_ix (ix_tupK (K := K) rfl) (pv 2) pe_int (fun _ _ => rfl))))))
      (pss_one (ps_ret (pe_tup (pa_cons (pe_lc (own := [("pair", 2)]) (g := gName 2) rfl sc_shared_row.nd (pi_list (pv 0)) (blkOk_by (N := ["row", "bottom", "pair"]) (sc := defScope s_shared_row) (by decide +kernel)) (fun _ _ _ _ _ => (pg_name (i := 2) sc_shared_row.nd rfl (Or.inl rfl) (hf := Or.inr rfl))) (fun _ _ _ _ _ => pts_nil) (fun _ _ _ _ _ => (pe_op op_mulW (pe_ix (ix_tupK (K := K) rfl) (pv 2) pe_int (fun _ _ => rfl)) (pe_op op_fdX (pv 1) (pe_ix (ix_tupK (K := K) rfl) (pv 2) pe_int (fun _ _ => rfl)))))) (pa_cons (pv 1) pa_nil))))))), ?_⟩
    have part : ∀ i, 0 < lcmL (xs.take i) ∧ lcmL (xs.take i) < 2 ^ 4000 := fun i => by
      obtain ⟨p1, p2, p3⟩ := lcmL_ok g.one (xs := xs.take i) fun q hq => (hx.at (List.mem_of_mem_take hq)).mono g.one hw
      exact ⟨p1, Nat.lt_of_le_of_lt p3 g.lt⟩
    obtain ⟨b0, bd, bl⟩ := lcmL_ok g.one (xs := xs) fun q hq => (hx.at hq).mono g.one hw
    have bl' := Nat.lt_of_le_of_lt bl g.lt
    refine s_set e_int ex fun v1 H1 F1 g1 hv1 => ?_
    cases hv1
    refine s_for (K := Hk) (it_list (e_var hv rfl)) g1.kh (fun F i σ' H' => Ex F H' ∧ Grow Hk H F H' ∧ ∃ v2, σ' = [some v, some (.int (lcmL (xs.take i) : Int)), v2]) (fun F H2 g2 => ⟨g2.f, (Grow.of ex g1.h).trans g2, none, rfl⟩) (fun F i σ' H' h => h.1) ?_ ?_
    · rintro F i vi σ' H' H'' hi ⟨eF, gF, v2, rfl⟩ hy
      obtain ⟨F4, g4, x, hxi, hvi⟩ := hy F (Ex.refl F) eF
      obtain ⟨rfl, _⟩ := get_at hxi
      have d4 : ((at_ xs i).den : Int).natAbs < 2 ^ 4000 := S4.den (s4 g (hx i) hw)
      obtain ⟨p1, p2⟩ := part i
      have gp : 0 < Nat.gcd (lcmL (xs.take i)) (at_ xs i).den := Nat.gcd_pos_of_pos_left _ p1
      have gl : Nat.gcd (lcmL (xs.take i)) (at_ xs i).den ≤ lcmL (xs.take i) := Nat.gcd_le_left _ p1
      refine s_set (r := rInt) (x := (lcmL (xs.take (i + 1)) : Int)) (K := F4) ((e_i (e_i (e_var rfl rfl) (e_gcd (e_var rfl rfl) (e_bot (e_var hvi rfl))) (cdivX (by simp only [Int.natAbs_natCast]; omega) (b := 4000) (by simp only [Int.natAbs_natCast]; omega) (by decide) (by decide))) (e_bot (e_var hvi rfl)) ?_).as ?_) g4.f fun v5 H5 F5 g5 hv5 => ?_
      · rw [Int.natAbs_natCast, Int.natAbs_natCast, fdiv_nat]
        exact mulOk (a := 4000) (b := 4000) (by rw [Int.natAbs_natCast]; exact Nat.lt_of_le_of_lt (Nat.div_le_self _ _) p2) d4 (by decide) (by decide) (by decide)
      · rw [Int.natAbs_natCast, Int.natAbs_natCast, fdiv_nat, lcmL_take hi]; unfold stp; push_cast; rfl
      · cases hv5
        exact ⟨eF.trans (g4.h.trans g5.h), (gF.trans (Grow.of gF.f (g4.h.trans g5.h))), some vi, rfl⟩
    · rintro F σ' H' ⟨eF, gF, v2, rfl⟩
      rw [List.take_length]
      have e1 : EN rInt (tLc (iList K (tVar 0)) (gName 2) tYes (tOp (rI CMulW fun i j => .int (i * j)) (tOp (rIxT K) (tVar 2) (tC (.int 0))) (tOp (rI CDivX fun i j => .int (i.fdiv j)) (tVar 1) (tOp (rIxT K) (tVar 2) (tC (.int 1))))) [2]) [some v, some (.int (lcmL xs : Int)), v2] F (xs.map (scl (lcmL xs))) := by
        refine en_lcL (s := rQ K) (e_var (up gF.k hv) rfl) (by omega) (fun _ => rfl) fun y vy F2 hy e2 hvy => ?_
        have d4 : (y.den : Int).natAbs < 2 ^ 4000 := S4.den (s4 g (hx.at hy) hw)
        refine (e_i (e_top (e_var hvy rfl)) (e_i (e_var rfl rfl) (e_bot (e_var hvy rfl)) (cdivX (den0 y) d4 (by decide) (by decide))) ?_).as ?_
        · rw [fdiv_nat]
          exact mulOk (a := 100000) (b := 4000) (s4 g (hx.at hy) hw).1 (by rw [Int.natAbs_natCast]; exact Nat.lt_of_le_of_lt (Nat.div_le_self _ _) bl') (by decide) (by decide) (by decide)
        · rw [fdiv_nat]; rfl
      exact s_ret (e_sh e1.e (e_var rfl rfl)) gF.f (Res.from gF q)
theorem pint {F : Hp} : ∀ {vs : List V} {ns : List Int}, Paired (rInt F) vs ns → vs = ns.map V.int
  | _, _, .nil => rfl
  | _, _, .cons h t => by cases h; rw [pint t]; rfl
theorem e_sum {σ : L2.St} {Hk : Hp} {ta : TE} {ns : List Int} (h : E (rLst rInt) ta σ Hk ns) : E rInt (tCB (rSum K) (tCons ta tNil)) σ Hk ns.sum :=
  fun H a Q q => h H a _ fun v H2 F g ⟨b, vs, hv, hb, hp⟩ => ⟨b, ns, by rw [hv], by rw [← pint hp]; exact sq_of (g.f _ _ hb), q _ H2 F g rfl⟩
theorem scl_small {D M w : Nat} {xs : List Rat} (g : Good D M) (hx : Aw D w xs) (hw : w ≤ M) (i : Nat) : (scl (lcmL xs) (at_ xs i)).natAbs < 2 ^ 104000 := by
  obtain ⟨b0, bd, bl⟩ := lcmL_ok g.one (xs := xs) fun q hq => (hx.at hq).mono g.one hw
  unfold scl
  refine Nat.lt_of_lt_of_le (abs_mul (s4 g (hx i) hw).1 (b := 4000) ?_) (Nat.pow_le_pow_right (by decide) (by decide))
  rw [Int.natAbs_natCast]
  exact Nat.lt_of_le_of_lt (Nat.div_le_self _ _) (Nat.lt_of_le_of_lt bl g.lt)
theorem map_get {xs : List Rat} {f : Rat → Int} {k : Nat} (h : k < xs.length) : (xs.map f)[k]? = some (f (at_ xs k)) := by rw [List.getElem?_map, at_get h]; rfl
theorem ok_times (T : Txt K mg) : FnOk P w K mg base CX0 2 T.d_times.a T.d_times.fd ["a", "b"] (spRR K mulL (Two fun w => w + w + 1)) := by
  refine T.d_times.F.ok sc_times spRR_len (fun cdv A outer s H vs Q Ew hr h => ?_)
  obtain ⟨Hk, ex, va, vb, xs, ys, rfl, ha, hb, ⟨hl, h7, D, M, wx, g, h1, h2, hw⟩, k⟩ := h
  have hw : wx + wx + 1 ≤ M := hw
  refine ⟨_, (pss_cons (ps_asg (pe_call (ok_shared_row T) (hr.mono (by decide)) (by rfl) T.g_shared_row T.d_shared_row.F.kp T.d_shared_row.b .nil pass0 (pa_cons (pv 0) pa_nil)) (pg_tup rfl (pgs_cons (pg_name (i := 2) sc_times.nd rfl (Or.inr rfl) (hf := Or.inl rfl)) (pgs_cons (pg_name (i := 3) sc_times.nd rfl (Or.inr rfl) (hf := Or.inl rfl)) pgs_nil))))
      (pss_cons (ps_asg (pe_call (ok_shared_row T) (hr.mono (by decide)) (by rfl) T.g_shared_row T.d_shared_row.F.kp T.d_shared_row.b .nil pass0 (pa_cons (pv 1) pa_nil)) (pg_tup rfl (pgs_cons (pg_name (i := 4) sc_times.nd rfl (Or.inr rfl) (hf := Or.inl rfl)) (pgs_cons (pg_name (i := 5) sc_times.nd rfl (Or.inr rfl) (hf := Or.inl rfl)) pgs_nil))))
      (pss_one (ps_ret (pe_lc (own := [("at", 6)]) (g := gName 6) rfl sc_times.nd (pi_range1 (by rfl) T.n_range (pa_cons (pe_callB (c_lenK (K := K) rfl) (by rfl) T.n_len (by decide +kernel) (pa_cons (pv 0) pa_nil)) pa_nil)) (blkOk_by (N := ["a", "b", "first", "bottom", "second", "under", "at", "k"]) (sc := defScope s_times) (by decide +kernel)) (fun _ _ _ _ _ => (pg_name (i := 6) sc_times.nd rfl (Or.inr rfl) (hf := Or.inl rfl))) (fun _ _ _ _ _ => pts_nil) (fun _ _ _ _ _ => (pe_call (ok_low T) (hr.mono (by decide)) (by rfl) T.g_low T.d_low.F.kp T.d_low.b .nil pass0 (pa_cons (pe_callB (c_sumK (K := K) rfl rfl) (by rfl) T.n_sum (by decide +kernel) (pa_cons (pe_lc (own := [("k", 7)]) (g := gName 7) rfl sc_times.nd (pi_range1 (by rfl) T.n_range (pa_cons (pe_op op_add (pv 6) pe_int) pa_nil)) (blkOk_by (N := ["a", "b", "first", "bottom", "second", "under", "at", "k"]) (sc := inScope (retLcScope (defBody s_times) 2) (defScope s_times)) (by decide +kernel)) (fun _ _ _ _ _ => (pg_name (i := 7) sc_times.nd rfl (Or.inl rfl) (hf := Or.inr rfl))) (fun _ _ _ _ _ => pts_nil) (fun _ _ _ _ _ => (pe_op op_mulW (pe_ix (ix_listK (K := K) rfl) (pv 2) (pv 7) (fun _ _ => rfl)) (pe_ix (ix_listK (K := K) rfl) (pv 4) (pe_op op_sub (pv 6) (pv 7)) (fun _ _ => rfl))))) pa_nil)) (pa_cons (pe_op op_mulW (pv 3) (pv 5)) pa_nil))))))))), ?_⟩
  have sh : ∀ {σ : L2.St} {Hk : Hp} {ta : TE} {xs : List Rat} {Ew : XK}, E (rLst (rQ K)) ta σ Hk xs → xs.length ≤ 7 → Aw D wx xs → E rSh (tCall (spSh K) [] Ew (tCons ta tNil)) σ Hk (xs.map (scl (lcmL xs)), (lcmL xs : Int)) := fun h hl hx =>
    e_call (ea_cons h ea_nil) fun F H vs Q ex hp r => by
      obtain ⟨v, ws, rfl, hv, hn⟩ := hp
      cases hn
      exact ⟨F, ex, v, _, rfl, hv, hl, ⟨D, M, wx, g, hx, by omega⟩, r⟩
  refine sh (xs := xs) (e_var ha rfl) h7 h1 H ex _ ?_
  rintro v1 H1 F1 g1 ⟨T1, a1, rfl, ht1, hl1⟩
  refine ⟨T1, _, rfl, st_of (g1.f _ _ ht1), rfl, _, _, rfl, _, _, rfl, rfl, ?_⟩
  refine sh (xs := ys) (e_var (up g1.k hb) rfl) (by omega) h2 H1 g1.f _ ?_
  rintro v2 H2 F2 g2 ⟨T2, a2, rfl, ht2, hl2⟩
  refine ⟨T2, _, rfl, st_of (g2.f _ _ ht2), rfl, _, _, rfl, _, _, rfl, rfl, ?_⟩
  have gg := g1.trans g2
  obtain ⟨x0, xd, xl⟩ := lcmL_ok g.one (xs := xs) fun q hq => (h1.at hq).mono g.one (show wx ≤ M by omega)
  obtain ⟨y0, yd, yl⟩ := lcmL_ok g.one (xs := ys) fun q hq => (h2.at hq).mono g.one (show wx ≤ M by omega)
  have xl' := Nat.lt_of_le_of_lt xl g.lt
  have yl' := Nat.lt_of_le_of_lt yl g.lt
  refine s_retN (r := rQ K) (K := F2) ((en_lcR (n := (xs.length : Int)) (f := fun i => cv (at_ xs) (at_ ys) i) (e_len (e_var (up gg.k ha) rfl)) (by omega) (by omega) (fun _ => rfl) fun i F hi e => ?_).as (by unfold mulL; rw [Int.toNat_natCast])) gg.f (ResN.from gg k)
  have hi' : i < xs.length := by omega
  refine e_low (e_sum (ns := (List.range (i + 1)).map fun k => scl (lcmL xs) (at_ xs k) * scl (lcmL ys) (at_ ys (i - k))) (EN.e (K := F) ?_)) (e_i (e_var rfl rfl) (e_var rfl rfl) (mulOk (a := 4000) (b := 4000) (by rw [Int.natAbs_natCast]; exact xl') (by rw [Int.natAbs_natCast]; exact yl') (by decide) (by decide) (by decide))) (Int.mul_ne_zero (by omega) (by omega))
    (Nat.lt_of_lt_of_le (abs_mul (a := 4000) (b := 4000) (by rw [Int.natAbs_natCast]; exact xl') (by rw [Int.natAbs_natCast]; exact yl')) (Nat.pow_le_pow_right (by decide) (by decide))) (cv_scl x0 y0 xd yd _ hi' (by omega) fun j hj => rfl)
  refine (en_lcR (n := (i : Int) + 1) (f := fun k => scl (lcmL xs) (at_ xs k) * scl (lcmL ys) (at_ ys (i - k))) (e_i0 (e_var rfl rfl) e_int) (by omega) (by omega) (fun _ => rfl) fun j F' hj e' => ?_).as (by rw [show ((i : Int) + 1).toNat = i + 1 by omega])
  have ee : Ex F2 F' := e.trans e'
  refine e_i (e_at (k := (j : Int)) (e_var (up (g2.k.trans ee) hl1) rfl) (e_var rfl rfl) (by omega) (by rw [Int.toNat_natCast]; exact map_get (by omega))) (e_at (k := (i : Int) - (j : Int)) (e_var (up ee hl2) rfl) (e_i0 (e_var rfl rfl) (e_var rfl rfl)) (by omega) (by rw [show ((i : Int) - (j : Int)).toNat = i - j by omega]; exact map_get (by omega))) (mulOk (scl_small g h1 (by omega) _) (scl_small g h2 (by omega) _) (by decide) (by decide) (by decide))
end
end Y8

set_option Elab.async false
set_option linter.all false
set_option maxRecDepth 100000
set_option maxHeartbeats 2000000
/-! # The program's rows: slopes, sums of slopes, weights -/
namespace Y8
open PySem L2 Y Ser
section
variable {P : Program} {w : World} {K : PySem.W.Frag} {mg : Str → Option Value} {base : Heap}
theorem inv_parts {k : Nat} (h : k ≠ 0) : (1 : Int) = (1 / (k : Rat)).num ∧ (k : Int) = ((1 / (k : Rat)).den : Int) := by
  have e : Rat.divInt 1 (k : Int) = 1 / (k : Rat) := by rw [Rat.divInt_eq_div]; push_cast; rfl
  rw [← e]
  obtain ⟨h1, h2⟩ := low_spec (t := 1) (b := (k : Int)) (n := 1) (d := (k : Int)) (s := 1) (by decide) (by decide) (by omega) (by omega) (by show Nat.Coprime 1 _; exact Nat.coprime_one_left _)
  exact ⟨h1.symm, h2.symm⟩
/-- (k, 1) -/
theorem e_k1 {σ : L2.St} {Hk : Hp} {ta : TE} {n : Int} {k : Nat} (ha : E rInt ta σ Hk n) (h : n = (k : Int)) : E (rQ K) (tTup (tCons ta (tCons (tC (.int 1)) tNil))) σ Hk (k : Rat) := e_pair ha e_int h rfl
/-- (1, k) -/
theorem e_1k {σ : L2.St} {Hk : Hp} {ta : TE} {n : Int} {k : Nat} (ha : E rInt ta σ Hk n) (h : n = (k : Int)) (h0 : k ≠ 0) : E (rQ K) (tTup (tCons (tC (.int 1)) (tCons ta tNil))) σ Hk (1 / (k : Rat)) := e_pair e_int ha (inv_parts h0).1 (h.trans (inv_parts h0).2)
theorem nat4 {k : Nat} (h : k ≤ 8) : S4 (k : Rat) := ⟨Nat.lt_of_le_of_lt (show ((k : Int)).natAbs ≤ 8 by omega) (Nat.lt_of_lt_of_le (show 8 < 2 ^ 4 by decide) (Nat.pow_le_pow_right (by decide) (by decide))), Nat.one_lt_pow (by decide) (by decide)⟩
theorem inv4 {k : Nat} (h0 : k ≠ 0) (h : k ≤ 8) : S4 (1 / (k : Rat)) := by
  obtain ⟨h1, h2⟩ := inv_parts h0
  refine ⟨by rw [← h1]; exact Nat.one_lt_pow (by decide) (by decide), Nat.lt_of_le_of_lt (show _ ≤ 8 by omega) (Nat.lt_of_lt_of_le (show 8 < 2 ^ 4 by decide) (Nat.pow_le_pow_right (by decide) (by decide)))⟩
abbrev One7 (xs : List Rat) : Prop := xs.length ≤ 7 ∧ ∀ k, S4 (at_ xs k)
theorem slp_split (xs : List Rat) : (List.range (xs.length - 1)).map (fun i => at_ xs (i + 1) * ((i + 1 : Nat) : Rat)) ++ (xs.take 1).map (fun _ => (0 : Rat)) = slpL xs := by
  unfold slpL
  cases h : xs.length with
  | zero => rw [List.eq_nil_of_length_eq_zero h]; rfl
  | succ n =>
    rw [List.range_succ, List.map_append]
    congr 1
    · refine List.map_congr_left fun i hi => ?_
      rw [if_pos (by have := List.mem_range.mp hi; omega)]
    · obtain ⟨x, t, rfl⟩ : ∃ x t, xs = x :: t := by cases xs with
        | nil => cases h
        | cons x t => exact ⟨x, t, rfl⟩
      show [(0 : Rat)] = [if n + 1 < n + 1 then _ else 0]
      rw [if_neg (by omega)]
theorem ok_slope_row (T : Txt K mg) : FnOk P w K mg base CX0 3 T.d_slope_row.a T.d_slope_row.fd ["a"] (spLL (rQ K) (rQ K) slpL One7) := by
  refine T.d_slope_row.F.ok sc_slope_row spLL_len (fun cdv A outer s H vs Q Ew hr h => ?_)
  obtain ⟨Hk, ex, v, xs, rfl, hv, ⟨h7, h4⟩, k⟩ := h
  refine ⟨_, (pss_one (ps_ret (pe_op op_cat (pe_lc (own := [("k", 1)]) (g := gName 1) rfl sc_slope_row.nd (pi_range2 (by rfl) T.n_range (pa_cons pe_int (pa_cons (pe_callB (c_lenK (K := K) rfl) (by rfl) T.n_len (by decide +kernel) (pa_cons (pv 0) pa_nil)) pa_nil))) (blkOk_by (N := ["a", "k", "_"]) (sc := defScope s_slope_row) (by decide +kernel)) (fun _ _ _ _ _ => (pg_name (i := 1) sc_slope_row.nd rfl (Or.inl rfl) (hf := Or.inr rfl))) (fun _ _ _ _ _ => pts_nil) (fun _ _ _ _ _ => (pe_call (ok_mul T) (hr.mono (by decide)) (by rfl) T.g_mul T.d_mul.F.kp T.d_mul.b .nil pass0 (pa_cons (pe_ix (ix_listK (K := K) rfl) (pv 0) (pv 1) (fun _ _ => rfl)) (pa_cons (pe_tup (pa_cons (pv 1) (pa_cons pe_int pa_nil))) pa_nil))))) (pe_lc (own := [("_", 2)]) (g := gName 2) rfl sc_slope_row.nd (pi_list (pe_slice (sl_listK (K := K) rfl) (pv 0) po_none (po_some pe_int))) (blkOk_by (N := ["a", "k", "_"]) (sc := defScope s_slope_row) (by decide +kernel)) (fun _ _ _ _ _ => (pg_name (i := 2) sc_slope_row.nd rfl (Or.inl rfl) (hf := Or.inr rfl))) (fun _ _ _ _ _ => pts_nil) (fun _ _ _ _ _ => (pe_glob (v := .ref T.aZ) rfl T.g_ZERO rfl)))))), ?_⟩
  refine s_retN ((en_cat (r := rQ K) (xs := (List.range (xs.length - 1)).map fun i => at_ xs (i + 1) * ((i + 1 : Nat) : Rat)) (ys := (xs.take 1).map fun _ => (0 : Rat)) (EN.e ?_) (EN.e ?_) (by simp; omega)).as (slp_split xs)) ex k
  · refine (en_lc0 (f := fun i => at_ xs (i + 1) * ((i + 1 : Nat) : Rat)) (it_range2 (lo := 1) (n := (xs.length : Int)) e_int (e_len (e_var hv rfl)) (by omega) (by omega)) (by omega) fun i vi F hi e hv' => ?_).as (by rw [show ((xs.length : Int) - 1).toNat = xs.length - 1 by omega])
    cases hv'
    refine ⟨_, tg_name, rfl, ?_⟩
    exact e_QQ (e_at (k := 1 + (i : Int)) (e_var (up e hv) rfl) (e_var rfl rfl) (by omega) (by rw [show (1 + (i : Int)).toNat = i + 1 by omega]; exact at_get (by omega))) (e_k1 (e_var rfl rfl) (by omega)) (h4 _) (nat4 (by omega)) trivial
  · refine en_lcL (s := rQ K) (f := fun _ => (0 : Rat)) ((EN.e (en_slice (e_var hv rfl) eo_none (eo_some e_int))).as (cutL_to xs 1)) (by simp; omega) (fun _ => rfl) fun y vy F hy e hvy => e_c (z_rep T F)
theorem ok_summed_slopes (T : Txt K mg) : FnOk P w K mg base CX0 3 T.d_summed_slopes.a T.d_summed_slopes.fd ["slopes"] (spLL (rQ K) (rQ K) smdL One7) := by
  refine T.d_summed_slopes.F.ok sc_summed_slopes spLL_len (fun cdv A outer s H vs Q Ew hr h => ?_)
  obtain ⟨Hk, ex, v, xs, rfl, hv, ⟨h7, h4⟩, k⟩ := h
  refine ⟨_, (pss_one (ps_ret (pe_lc (own := [("k", 1)]) (g := gName 1) rfl sc_summed_slopes.nd (pi_range1 (by rfl) T.n_range (pa_cons (pe_callB (c_lenK (K := K) rfl) (by rfl) T.n_len (by decide +kernel) (pa_cons (pv 0) pa_nil)) pa_nil)) (blkOk_by (N := ["slopes", "k"]) (sc := defScope s_summed_slopes) (by decide +kernel)) (fun _ _ _ _ _ => (pg_name (i := 1) sc_summed_slopes.nd rfl (Or.inl rfl) (hf := Or.inr rfl))) (fun _ _ _ _ _ => pts_nil) (fun _ _ _ _ _ => (pe_ifExp (pt_cmpR op_eq (pv 1) pe_int (nomark _)) (pe_glob (v := .ref T.aZ) rfl T.g_ZERO rfl) (pe_call (ok_mul T) (hr.mono (by decide)) (by rfl) T.g_mul T.d_mul.F.kp T.d_mul.b .nil pass0 (pa_cons (pe_ix (ix_listK (K := K) rfl) (pv 0) (pe_op op_sub (pv 1) pe_int) (fun _ _ => rfl)) (pa_cons (pe_tup (pa_cons pe_int (pa_cons (pv 1) pa_nil))) pa_nil)))))))), ?_⟩
  refine s_retN ((en_lcR (n := (xs.length : Int)) (f := fun k => if k = 0 then 0 else at_ xs (k - 1) * (1 / (k : Rat))) (e_len (e_var hv rfl)) (by omega) (by omega) (fun _ => rfl) fun i F hi e => ?_).as (by unfold smdL; rw [Int.toNat_natCast])) ex k
  refine e_if (b := decide ((i : Int) = 0)) (t_test (e_eqI (e_var rfl rfl) e_int)) (fun c => ?_) (fun c => ?_)
  · have : i = 0 := by have := of_decide_eq_true c; omega
    rw [if_pos this]; exact e_c (z_rep T F)
  · have : ¬ i = 0 := by have := of_decide_eq_false c; omega
    rw [if_neg this]
    exact e_QQ (e_at (k := (i : Int) - 1) (e_var (up e hv) rfl) (e_i0 (e_var rfl rfl) e_int) (by omega) (by rw [show ((i : Int) - 1).toNat = i - 1 by omega]; exact at_get (by omega))) (e_1k (e_var rfl rfl) rfl this) (h4 _) (inv4 this (by omega)) trivial
theorem ok_weighted (T : Txt K mg) : FnOk P w K mg base CX0 3 T.d_weighted.a T.d_weighted.fd ["a"] (spLL (rQ K) (rQ K) wtdL One7) := by
  refine T.d_weighted.F.ok sc_weighted spLL_len (fun cdv A outer s H vs Q Ew hr h => ?_)
  obtain ⟨Hk, ex, v, xs, rfl, hv, ⟨h7, h4⟩, k⟩ := h
  refine ⟨_, (pss_one (ps_ret (pe_lc (own := [("k", 1), ("entry", 2)]) (g := (gTup K 2 (gCons (gName 1) (gCons (gName 2) gNil)))) rfl sc_weighted.nd (pi_enum (by rfl) T.n_enumerate (pa_cons (pv 0) pa_nil)) (blkOk_by (N := ["a", "k", "entry"]) (sc := defScope s_weighted) (by decide +kernel)) (fun _ _ _ _ _ => (pg_tup rfl (pgs_cons (pg_name (i := 1) sc_weighted.nd rfl (Or.inl rfl) (hf := Or.inr rfl)) (pgs_cons (pg_name (i := 2) sc_weighted.nd rfl (Or.inl rfl) (hf := Or.inr rfl)) pgs_nil)))) (fun _ _ _ _ _ => pts_nil) (fun _ _ _ _ _ => (pe_call (ok_mul T) (hr.mono (by decide)) (by rfl) T.g_mul T.d_mul.F.kp T.d_mul.b .nil pass0 (pa_cons (pv 2) (pa_cons (pe_tup (pa_cons (pv 1) (pa_cons pe_int pa_nil))) pa_nil))))))), ?_⟩
  refine s_retN ((en_lc0 (f := fun k => at_ xs k * (k : Rat)) (it_enum (r := rQ K) (e_var hv rfl)) (by omega) fun i vi F hi e hR => ?_).as rfl) ex k
  obtain ⟨T1, b, x, rfl, hT, hx, hb⟩ := hR
  obtain ⟨rfl, _⟩ := get_at hx
  exact ⟨_, tg_two (st_of hT), rfl, e_QQ (e_var hb rfl) (e_k1 (e_var rfl rfl) rfl) (h4 _) (nat4 (by omega)) trivial⟩
theorem e_LL {α β : Type} {r : Rp α} {s : Rp β} [Mono r] {f : List α → List β} {pre : List α → Prop} {σ : L2.St} {Hk : Hp} {ta : TE} {xs : List α} {Ew : XK} (ha : E (rLst r) ta σ Hk xs) (hp : pre xs) :
    EN s (tCall (spLL r s f pre) [] Ew (tCons ta tNil)) σ Hk (f xs) :=
  en_call (ea_cons ha ea_nil) fun F H vs Q ex hv k => by
    obtain ⟨v, ws, rfl, hv, hn⟩ := hv
    cases hn
    exact ⟨F, ex, v, xs, rfl, hv, hp, k⟩
end
end Y8

set_option Elab.async false
set_option linter.all false
set_option maxRecDepth 100000
set_option maxHeartbeats 2000000
/-! # What raises BadNumber: the first numbers, quotients -/
namespace Y8
open PySem L2 Y Ser
section
variable {P : Program} {w : World} {K : PySem.W.Frag} {mg : Str → Option Value} {base : Heap}
theorem pass00 {X : Cx} {E : XK} : Passes CX0 X E := fun _ _ _ _ _ _ _ h => h.elim
def fsB (z : Str) : List (Str × V) := [(("why" : Str), .str z), (("code" : Str), .str ("BadNumber" : Str))]
def spBad (C : Addr) : Sp := fun vs H Q _ => ∃ (a : Addr) (z : Str), vs = [.ref a, .str z] ∧ H a = some (exo a C none) ∧
  ∀ dx H', H dx = none → H' a = some (exo a C (some dx)) → H' dx = some (exd dx (fsB z)) → (∀ b, b ≠ a → b ≠ dx → H' b = H b) → Q .non H'
theorem ok_BadNumber_init (T : Txt K mg) : FnOk P w K mg base CX0 1 T.d_BadNumber_init.a T.d_BadNumber_init.fd ["self", "why"] (spBad T.cN) := by
  refine T.d_BadNumber_init.F.ok sc_BadNumber_init (fun vs H Q Ew h => ?_) (fun cdv A outer s H vs Q Ew hr h => ?_)
  · obtain ⟨_, _, rfl, _⟩ := h; rfl
  · obtain ⟨a, z, rfl, ha, q⟩ := h
    refine ⟨_, (pss_cons (ps_expr (pe_veinit (by rfl) T.n_ValueError T.vV (pa_cons (pv 0) (pa_cons pe_str pa_nil))))
      (pss_cons (ps_ost (pv 0) pe_str)
      (pss_one (ps_ost (pv 0) (pv 1))))), ?_⟩
    refine ⟨_, rfl, a, T.cN, _, rfl, by show 1 ≤ 1000; omega, T.oxN, ha, ?_⟩
    refine ⟨_, rfl, a, T.cN, rfl, T.oxN, T.nCode, .inl ⟨ha, fun dx hd ne => ?_⟩⟩
    refine ⟨_, rfl, _, rfl, a, T.cN, rfl, T.oxN, T.nWhy, .inr ⟨dx, _, upd_same, by rw [upd_ne ne, upd_same], by show 1 ≤ 900; omega, ?_⟩⟩
    refine q dx _ hd (by rw [upd_ne (Ne.symm ne), upd_same]) upd_same fun b h1 h2 => by rw [upd_ne h2, upd_ne h1, upd_ne h2]
theorem s_bad {C : Addr} {σ : L2.St} {Hk H : Hp} {ta : TA} {z : Str} {E : XK} (ha : EA (pCons rStr z pNil) ta σ Hk) (hz : z ≠ ("" : Str)) (ex : Ex Hk H) (q : ResX C Hk H E) : tMkO C (spBad C) [] ta σ H fun cls d H' => E cls d H' :=
  ha H ex _ fun vs H1 F g hp => by
    obtain ⟨v, ws, rfl, hv, hn⟩ := hp
    cases hv; cases hn
    refine ⟨by show 1 ≤ 1000; omega, fun a hfa => ⟨a, z, rfl, upd_same, fun dx H' hd h1 h2 hk => ⟨rfl, dx, _, h1, h2, ?_, ?_⟩⟩⟩
    · by_cases e : dx = a
      · subst e; exact hfa
      · rw [upd_ne e] at hd; exact hd
    · have na : dx ≠ a := fun e => by subst e; rw [upd_same] at hd; cases hd
      rw [upd_ne na] at hd
      have exH : Ex H1 (upd (L2.del H' a) dx (.xd (fsB z))) := fun b o hb => by
        have b1 : b ≠ a := ne_of_none hb hfa
        have b2 : b ≠ dx := ne_of_none hb hd
        rw [upd_ne b2, L2.del_ne b1, hk b b1 b2, upd_ne b1]
        exact hb
      have fd : F dx = none := g.f.free hd
      refine q dx _ (upd F dx (.xd (fsB z))) ⟨g.h.trans exH, g.k.trans (Ex.new fd), fun b o hb => ?_, fun b h3 h4 => ?_⟩ ⟨fsB z, upd_same, rfl, z, rfl, hz⟩
      · by_cases e : b = dx
        · subst e; rw [upd_same] at hb; rw [upd_same]; exact hb
        · rw [upd_ne e] at hb; exact exH _ _ (g.f _ _ hb)
      · by_cases e : b = dx
        · subst e; exact g.h.free hd
        · rw [upd_ne e] at h4; exact g.n b h3 h4
/-- check_first(a, pair) -/
def okF (xs : List Rat) (p : Rat) : Prop := 0 < xs.length → at_ xs 0 = p
def spChk (K : PySem.W.Frag) (C : Addr) : Sp := fun vs H Q E => ∃ Hk, Ex Hk H ∧ ∃ va vp xs p, vs = [va, vp] ∧ rLst (rQ K) Hk va xs ∧ rQ K Hk vp p ∧ xs.length ≤ 7 ∧
  ((okF xs p ∧ Res rNon Hk H () Q) ∨ (¬ okF xs p ∧ ResX C Hk H E))
theorem e_at0 {σ : L2.St} {Hk : Hp} {ta : TE} {xs : List Rat} (h : E (rLst (rQ K)) ta σ Hk xs) (h0 : 0 < xs.length) : E (rQ K) (tOp (rIxL K) ta (tC (.int 0))) σ Hk (at_ xs 0) := e_at (k := 0) h e_int (by omega) (at_get h0)
theorem t_len0 {σ : L2.St} {Hk : Hp} {ta : TE} {xs : List Rat} (h : E (rLst (rQ K)) ta σ Hk xs) : T (tTest (tOp (rI0 fun i j => .bl (decide (i > j))) (tCB (rLen K) (tCons ta tNil)) (tC (.int 0)))) σ Hk (decide (0 < xs.length)) :=
  (t_test (e_b0 (p := fun i j => decide (i > j)) (e_len h) e_int)).as (by simp)
theorem ok_check_first (T : Txt K mg) : FnOk P w K mg base (L2N.CX P w) 3 T.d_check_first.a T.d_check_first.fd ["a", "pair"] (spChk K T.cN) := by
  refine T.d_check_first.F.okN sc_check_first (fun vs H Q Ew h => ?_) (fun cdv A outer s H vs Q Ew hr h => ?_)
  · obtain ⟨_, _, _, _, _, _, rfl, _⟩ := h; rfl
  · obtain ⟨Hk, ex, va, vp, xs, p, rfl, ha, hp, h7, q⟩ := h
    refine ⟨_, (pss_one (ps_if (PW.pt (pw_and (pt_cmpR op_gt (pe_callB (c_lenK (K := K) rfl) (by rfl) T.n_len (by decide +kernel) (pa_cons (pv 0) pa_nil)) pe_int (nomark _)) (pw_and1 (pt_cmpR (op_neD hr.units) (pe_ix (ix_listK (K := K) rfl) (pv 0) pe_int (fun _ _ => rfl)) (pv 1) (nomark _))))) (pss_one (L2N.ps_raise rfl (L2N.takes_of rfl rfl rfl rfl) (pmkN T.oxN T.iN T.tN (ok_BadNumber_init T) (hr.mono (by decide)) T.d_BadNumber_init.b .nil pass00 (by rfl) T.g_BadNumber (pa_cons pe_str pa_nil)))) pss_nil)), ?_⟩
    refine s_if (K := Hk) (b := decide (0 < xs.length) && !decide (at_ xs 0 = p)) (t_and (t_len0 (e_var ha rfl)) fun c => t_test (e_neQ (e_at0 (e_var ha rfl) (of_decide_eq_true c)) (e_var hp rfl))) ex (fun c H1 e1 => ?_) (fun c H1 e1 => ?_)
    · rcases q with ⟨o, _⟩ | ⟨_, q⟩
      · simp at c; exact absurd (o c.1) c.2
      · exact s_bad (ea_cons e_str ea_nil) (by decide) (ex.trans e1) (q.from (Grow.of ex e1))
    · rcases q with ⟨_, q⟩ | ⟨o, _⟩
      · exact q _ _ _ (Grow.of ex e1) rfl
      · refine absurd (fun h => ?_) o
        rw [decide_eq_true h, Bool.true_and, Bool.not_eq_false'] at c
        exact of_decide_eq_true c
/-- a row in, a new row out, or BadNumber -/
def spLX {α β : Type} (C : Addr) (r : Rp α) (s : Rp β) (f : List α → List β) (pre ok : List α → Prop) : Sp := fun vs H Q E => ∃ Hk, Ex Hk H ∧ ∃ v xs, vs = [v] ∧ rLst r Hk v xs ∧ pre xs ∧ ((ok xs ∧ ResN s Hk H (f xs) Q) ∨ (¬ ok xs ∧ ResX C Hk H E))
theorem spLX_len {α β : Type} {C : Addr} {r : Rp α} {s : Rp β} {f : List α → List β} {pre ok : List α → Prop} {p1 : Str} (vs : List V) (H : Hp) (Q : VK) (Ew : XK) (h : spLX C r s f pre ok vs H Q Ew) : vs.length = [p1].length := by
  obtain ⟨_, _, _, _, rfl, _⟩ := h; rfl
theorem e_LX {α β : Type} {C : Addr} {r : Rp α} {s : Rp β} [Mono r] {f : List α → List β} {pre ok : List α → Prop} {σ : L2.St} {Hk : Hp} {ta : TE} {xs : List α} {Ew : XK} (ha : E (rLst r) ta σ Hk xs) (hp : pre xs) (ho : ok xs) :
    EN s (tCall (spLX C r s f pre ok) [] Ew (tCons ta tNil)) σ Hk (f xs) :=
  en_call (ea_cons ha ea_nil) fun F H vs Q ex hv k => by
    obtain ⟨v, ws, rfl, hv, hn⟩ := hv
    cases hn
    exact ⟨F, ex, v, xs, rfl, hv, hp, .inl ⟨ho, k⟩⟩
theorem x_LX {α β : Type} {C : Addr} {r : Rp α} {s : Rp β} [Mono r] {f : List α → List β} {pre ok : List α → Prop} {σ : L2.St} {Hk : Hp} {ta : TE} {xs : List α} {Ew : XK} (ha : E (rLst r) ta σ Hk xs) (hp : pre xs) (ho : ¬ ok xs) :
    XX C (tCall (spLX C r s f pre ok) [] Ew (tCons ta tNil)) σ Hk Ew :=
  xx_call (ea_cons ha ea_nil) fun F H vs Q ex hv k => by
    obtain ⟨v, ws, rfl, hv, hn⟩ := hv
    cases hn
    exact ⟨F, ex, v, xs, rfl, hv, hp, .inr ⟨ho, k⟩⟩
/-- two rows in -/
def spRX {α β γ : Type} (C : Addr) (r : Rp α) (r' : Rp γ) (s : Rp β) (f : List α → γ → List β) (pre ok : List α → γ → Prop) : Sp := fun vs H Q E => ∃ Hk, Ex Hk H ∧ ∃ va vb xs ys, vs = [va, vb] ∧ rLst r Hk va xs ∧ r' Hk vb ys ∧ pre xs ys ∧ ((ok xs ys ∧ ResN s Hk H (f xs ys) Q) ∨ (¬ ok xs ys ∧ ResX C Hk H E))
theorem spRX_len {α β γ : Type} {C : Addr} {r : Rp α} {r' : Rp γ} {s : Rp β} {f : List α → γ → List β} {pre ok : List α → γ → Prop} {p1 p2 : Str} (vs : List V) (H : Hp) (Q : VK) (Ew : XK) (h : spRX C r r' s f pre ok vs H Q Ew) : vs.length = [p1, p2].length := by
  obtain ⟨_, _, _, _, _, _, rfl, _⟩ := h; rfl
theorem e_RX {α β γ : Type} {C : Addr} {r : Rp α} {r' : Rp γ} {s : Rp β} [Mono r] [Mono r'] {f : List α → γ → List β} {pre ok : List α → γ → Prop} {σ : L2.St} {Hk : Hp} {ta tb : TE} {xs : List α} {ys : γ} {Ew : XK} (ha : E (rLst r) ta σ Hk xs) (hb : E r' tb σ Hk ys) (hp : pre xs ys) (ho : ok xs ys) :
    EN s (tCall (spRX C r r' s f pre ok) [] Ew (tCons ta (tCons tb tNil))) σ Hk (f xs ys) :=
  en_call (ea_cons ha (ea_cons hb ea_nil)) fun F H vs Q ex hv k => by
    obtain ⟨v, ws, rfl, hv, v2, ws2, rfl, hv2, hn⟩ := hv
    cases hn
    exact ⟨F, ex, v, v2, xs, ys, rfl, hv, hv2, hp, .inl ⟨ho, k⟩⟩
theorem x_RX {α β γ : Type} {C : Addr} {r : Rp α} {r' : Rp γ} {s : Rp β} [Mono r] [Mono r'] {f : List α → γ → List β} {pre ok : List α → γ → Prop} {σ : L2.St} {Hk : Hp} {ta tb : TE} {xs : List α} {ys : γ} {Ew : XK} (ha : E (rLst r) ta σ Hk xs) (hb : E r' tb σ Hk ys) (hp : pre xs ys) (ho : ¬ ok xs ys) :
    XX C (tCall (spRX C r r' s f pre ok) [] Ew (tCons ta (tCons tb tNil))) σ Hk Ew :=
  xx_call (ea_cons ha (ea_cons hb ea_nil)) fun F H vs Q ex hv k => by
    obtain ⟨v, ws, rfl, hv, v2, ws2, rfl, hv2, hn⟩ := hv
    cases hn
    exact ⟨F, ex, v, v2, xs, ys, rfl, hv, hv2, hp, .inr ⟨ho, k⟩⟩
/-- folded(a, b, at) as a reading -/
theorem e_fold {σ : L2.St} {Hk : Hp} {ta tb tc : TE} {xs ys : List Rat} {m : Int} {n D M w w' : Nat} {Ew : XK} (ha : E (rLst (rQ K)) ta σ Hk xs) (hb : E (rLst (rQ K)) tb σ Hk ys) (hc : E rInt tc σ Hk m) (hm : m = (n : Int)) (hx : n < xs.length) (hy : n ≤ ys.length) (h7 : n ≤ 7)
    (g : Good D M) (h1 : ∀ i, 1 ≤ i → i ≤ n → Wd D w (at_ xs i)) (h2 : ∀ i, i < n → Wd D w' (at_ ys i)) (hw : w + w' + 1 ≤ M) : E (rQ K) (tCall (spFold K) [] Ew (tCons ta (tCons tb (tCons tc tNil)))) σ Hk (fo (at_ xs) (at_ ys) n) :=
  e_call (ea_cons ha (ea_cons hb (ea_cons hc ea_nil))) fun F H vs Q ex hv k => by
    obtain ⟨v, ws, rfl, hv, v2, ws2, rfl, hv2, v3, ws3, rfl, hv3, hn⟩ := hv
    cases hn; cases hv3; subst hm
    exact ⟨F, ex, v, v2, xs, ys, n, rfl, hv, hv2, hx, hy, h7, ⟨D, M, w, w', g, h1, h2, hw⟩, k⟩
theorem num_small {D M w : Nat} {x : Rat} (g : Good D M) (h : Wd D w x) (hw : 2 * w ≤ M) : x.num.natAbs < 2 ^ 4000 :=
  Nat.lt_of_le_of_lt (Nat.le_trans (h.size g.one).2 (Nat.pow_le_pow_right (by have := g.one; omega) hw)) g.lt
end
end Y8

set_option Elab.async false
set_option linter.all false
set_option maxRecDepth 100000
set_option maxHeartbeats 2000000
/-! # Quotients, exp, log -/
namespace Y8
open PySem L2 Y Ser
section
variable {P : Program} {w : World} {K : PySem.W.Frag} {mg : Str → Option Value} {base : Heap}
theorem Grow_mut {K H F H' : Hp} {o : Addr} {u : HO} (g : Grow K H F H') (fo : F o = none) (ho : H o = none) : Grow K H F (upd H' o u) := ⟨g.h.mut ho, g.k, g.f.mut fo, g.n⟩
/-- an own list that grows by an item at each turn -/
theorem s_grow {D : Ends} {step : List Rat → Rat} {n : Int} {i j : Nat} {o : Addr} {H0 Hk H : Hp} {ta te : TE} (St : Option V → L2.St) (x0 : Option V) (hj : ∀ x z, (St x).set j z = St z) (hi : ∀ x, (St x)[i]? = some (some (.ref o)))
    (hn : E rInt ta (St x0) Hk n) (h0 : 0 ≤ n) (h1 : n ≤ 1000) {Hk0 : Hp} (g0 : Grow Hk0 H0 Hk H) (hk : Hk o = none) (hH0 : H0 o = none) (ho : H o = some (.lst []))
    (hs : ∀ (k : Nat) F vs, (k : Int) < n → Ex Hk F → F o = none → Paired (rQ K F) vs (grow step k) → E (rQ K) te (St (some (.int (k : Int)))) (upd F o (.lst vs)) (step (grow step k)))
    (hd : ∀ x F vs H', Grow Hk0 H0 F H' → Ex Hk F → F o = none → H' o = some (.lst vs) → Paired (rQ K F) vs (grow step n.toNat) → D.nx (St x) H') :
    tFor (iRng1 (tCons ta tNil)) (gName j) (tDrop (tBM K "list" rAppend (tVar i) (tCons te tNil))) D (St x0) H := by
  refine s_forR1 hn h0 (by omega) g0.f (fun k σ' H' => ∃ x F vs, σ' = St x ∧ Grow Hk0 H0 F H' ∧ Ex Hk F ∧ F o = none ∧ H' o = some (.lst vs) ∧ vs.length = k ∧ Paired (rQ K F) vs (grow step k))
    (fun H1 e1 => ⟨x0, Hk, [], rfl, g0.trans (Grow.of g0.f e1), Ex.refl _, hk, e1 _ _ ho, rfl, .nil⟩) ?_ ?_
  · rintro k σ' H' hk' ⟨x, F, vs, rfl, g, ek, fo, ho', hl, hp⟩
    rw [hj]
    refine s_app_own (K := F) (r := rQ K) (hi _) fo ho' (by omega) g.f (hs k F vs hk' ek fo hp) fun v H2 F2 g2 hv fo2 => ?_
    refine ⟨_, F2, vs ++ [v], rfl, Grow_mut (g.trans g2) fo2 hH0, ek.trans g2.k, fo2, upd_same, by rw [List.length_append, hl]; rfl, ?_⟩
    exact p_app (p_up g2.k hp) (.cons hv .nil)
  · rintro σ' H' ⟨x, F, vs, rfl, g, ek, fo, ho', hl, hp⟩
    exact hd x F vs H' g ek fo ho' hp
theorem own_lst {F : Hp} {o : Addr} {vs : List V} {xs : List Rat} (fo : F o = none) (hp : Paired (rQ K F) vs xs) : rLst (rQ K) (upd F o (.lst vs)) (.ref o) xs := ⟨o, vs, rfl, upd_same, p_up (Ex.new fo) hp⟩
/-- return an own list -/
theorem s_retO {D : Ends} {i : Nat} {o : Addr} {H0 Hk F H : Hp} {σ : L2.St} {vs : List V} {xs : List Rat} {Q : VK} (hi : σ[i]? = some (some (.ref o))) (g : Grow Hk H0 F H) (fo : F o = none) (h0 : H0 o = none) (ho : H o = some (.lst vs)) (hp : Paired (rQ K F) vs xs) (q : ResN (rQ K) Hk H0 xs Q) (hD : D.rt = Q) : tRet (tVar i) D σ H :=
  ⟨.ref o, hi, by rw [hD]; exact q o vs H F g fo h0 ho hp⟩
/-! ### over -/
def PreD (xs ys : List Rat) : Prop := xs.length = ys.length ∧ xs.length ≤ 7 ∧ ∃ D M wa wb wi, Good D M ∧ Aw D wa xs ∧ Aw D wb ys ∧ (at_ ys 0 ≠ 0 → Wd D wi (1 / at_ ys 0)) ∧ wa + 7 * (wb + wi + 3) ≤ M
abbrev okD (xs ys : List Rat) : Prop := 0 < xs.length → at_ ys 0 ≠ 0
theorem ok_over (T : Txt K mg) : FnOk P w K mg base (L2N.CX P w) 4 T.d_over.a T.d_over.fd ["a", "b"] (spRX T.cN (rQ K) (rLst (rQ K)) (rQ K) divL PreD okD) := by
  refine T.d_over.F.okN sc_over spRX_len (fun cdv A outer s H vs Q Ew hr h => ?_)
  obtain ⟨Hk, ex, va, vb, xs, ys, rfl, ha, hb, ⟨hl, h7, D, M, wa, wb, wi, g, h1, h2, h3, hw⟩, q⟩ := h
  refine ⟨_, (pss_cons (ps_if (PW.pt (pw_and (pt_cmpR op_gt (pe_callB (c_lenK (K := K) rfl) (by rfl) T.n_len (by decide +kernel) (pa_cons (pv 1) pa_nil)) pe_int (nomark _)) (pw_and1 (pt_cmpR op_eq (pe_ix (ix_tupK (K := K) rfl) (pe_ix (ix_listK (K := K) rfl) (pv 1) pe_int (fun _ _ => rfl)) pe_int (fun _ _ => rfl)) pe_int (nomark _))))) (pss_one (L2N.ps_raise rfl (L2N.takes_of rfl rfl rfl rfl) (pmkN T.oxN T.iN T.tN (ok_BadNumber_init T) (hr.mono (by decide)) T.d_BadNumber_init.b .nil pass00 (by rfl) T.g_BadNumber (pa_cons pe_str pa_nil)))) pss_nil)
      (pss_cons (ps_set (i := 2) sc_over.nd rfl (Or.inl rfl) (pe_lst pa_nil))
      (pss_cons (ps_for (passes_of rfl) rfl (pi_range1 (by rfl) T.n_range (pa_cons (pe_callB (c_lenK (K := K) rfl) (by rfl) T.n_len (by decide +kernel) (pa_cons (pv 0) pa_nil)) pa_nil)) (pg_name (i := 3) sc_over.nd rfl (Or.inl rfl) (hf := Or.inr rfl))
      (pss_one (ps_expr (pe_bm PySem.F.plainAttrs_list PySem.F.slot_list_append PySem.F.type_list_append mt_append (pv 2) (pa_cons (pe_call (ok_div T) (hr.mono (by decide)) (by rfl) T.g_div T.d_div.F.kp T.d_div.b .nil pass0 (pa_cons (pe_call (ok_sub T) (hr.mono (by decide)) (by rfl) T.g_sub T.d_sub.F.kp T.d_sub.b .nil pass0 (pa_cons (pe_ix (ix_listK (K := K) rfl) (pv 0) (pv 3) (fun _ _ => rfl)) (pa_cons (pe_call (ok_folded T) (hr.mono (by decide)) (by rfl) T.g_folded T.d_folded.F.kp T.d_folded.b .nil pass0 (pa_cons (pv 1) (pa_cons (pv 2) (pa_cons (pv 3) pa_nil)))) pa_nil))) (pa_cons (pe_ix (ix_listK (K := K) rfl) (pv 1) pe_int (fun _ _ => rfl)) pa_nil))) pa_nil)))))
      (pss_one (ps_ret (pv 2)))))), ?_⟩
  refine s_if (K := Hk) (b := decide (0 < ys.length) && decide ((at_ ys 0).num = 0)) (t_and (t_len0 (e_var hb rfl)) fun c => t_test (e_eqI (e_top (e_at0 (e_var hb rfl) (of_decide_eq_true c))) e_int)) ex (fun c H1 e1 => ?_) (fun c H1 e1 => ?_)
  · rw [Bool.and_eq_true, decide_eq_true_eq, decide_eq_true_eq] at c
    rcases q with ⟨o, _⟩ | ⟨_, q⟩
    · exact absurd c.2 (num_ne (o (by omega)))
    · exact s_bad (ea_cons e_str ea_nil) (by decide) (ex.trans e1) (q.from (Grow.of ex e1))
  · have o : okD xs ys := fun h z => by
      rw [decide_eq_true (show 0 < ys.length by omega), Bool.true_and] at c
      have := of_decide_eq_false c
      rw [z] at this
      exact this rfl
    rcases q with ⟨_, q⟩ | ⟨o', _⟩
    · refine s_setN (r := rQ K) en_nil (ex.trans e1) fun p vs H2 F g2 fp hp h2' hv => ?_
      cases hv
      have gr := (Grow.of ex e1).trans g2
      refine s_grow (n := (xs.length : Int)) (fun x => [some va, some vb, some (.ref p), x]) none (fun _ _ => rfl) (fun _ => rfl) (e_len (e_var (up g2.k ha) rfl)) (by omega) (by omega) gr fp (e1.free hp) h2' (step := fun found => (at_ xs found.length - fo (at_ ys) (at_ found) found.length) / at_ ys 0) (fun k F' ws hk ek fo' hp' => ?_) fun x F' ws H' g' ek fo' ho' hp' => ?_
      · have hk' : k < xs.length := by omega
        have y0 : at_ ys 0 ≠ 0 := o (by omega)
        have wi' := h3 y0
        have wf : ∀ i, i < k → Wd D (wa + 6 * (wb + wi + 3)) (at_ (grow (fun found => (at_ xs found.length - fo (at_ ys) (at_ found) found.length) / at_ ys 0) k) i) := fun i hi => by
          have := divL_w g h7 h1 h2 wi' i (by omega)
          unfold divL at this
          rw [grow_at _ hi (show k ≤ xs.length by omega)] at this
          refine this.mono g.one ?_
          have : (i + 1) * (wb + wi + 3) ≤ 6 * (wb + wi + 3) := Nat.mul_le_mul_right _ (by omega)
          omega
        have f := fo_w (k := k) g.ge (by omega) (fun i _ _ => h2 i) wf
        have exF : Ex Hk (upd F' p (.lst ws)) := (g2.k.trans ek).trans (Ex.new fo')
        show E (rQ K) _ _ _ ((at_ xs (grow _ k).length - fo (at_ ys) (at_ (grow _ k)) (grow _ k).length) / at_ ys 0)
        rw [grow_len]
        have s := Wd.sub g.ge ((h1 k).mono g.one (w' := wb + (wa + 6 * (wb + wi + 3)) + 1) (by omega)) f
        refine e_QQ (e_QQ (e_at (k := (k : Int)) (e_var (up exF ha) rfl) (e_var rfl rfl) (by omega) (by rw [Int.toNat_natCast]; exact at_get hk'))
          (e_fold (n := k) (e_var (up exF hb) rfl) (e_var (own_lst fo' hp') rfl) (e_var rfl rfl) rfl (by omega) (by rw [grow_len]; exact Nat.le_refl _) (by omega) g (fun i _ _ => h2 i) wf (by omega)) (s4 g (h1 k) (by omega)) (s4 g f (by omega)) trivial)
          (e_at0 (e_var (up exF hb) rfl) (by omega)) (s4 g s (by omega)) (s4 g (h2 0) (by omega)) ⟨y0, num_small g (h2 0) (by omega)⟩
      · refine s_retO rfl g' fo' (e1.free hp) ho' hp' ?_ rfl
        rw [Int.toNat_natCast]; exact q
    · exact absurd o o'
end
end Y8

set_option Elab.async false
set_option linter.all false
set_option maxRecDepth 100000
set_option maxHeartbeats 2000000
/-! # exp, log, atan, sums of arcs -/
namespace Y8
open PySem L2 Y Ser
section
variable {P : Program} {w : World} {K : PySem.W.Frag} {mg : Str → Option Value} {base : Heap}
abbrev Sz (c : Nat → Nat) (xs : List Rat) : Prop := xs.length ≤ 7 ∧ ∃ D M w, Good D M ∧ Aw D w xs ∧ c w ≤ M
theorem e_chk {C : Addr} {σ : L2.St} {Hk : Hp} {ta tb : TE} {xs : List Rat} {p : Rat} {Ew : XK} (ha : E (rLst (rQ K)) ta σ Hk xs) (hb : E (rQ K) tb σ Hk p) (h7 : xs.length ≤ 7) (ho : okF xs p) :
    E rNon (tCall (spChk K C) [] Ew (tCons ta (tCons tb tNil))) σ Hk () :=
  e_call (ea_cons ha (ea_cons hb ea_nil)) fun F H vs Q ex hv k => by
    obtain ⟨v, ws, rfl, hv, v2, ws2, rfl, hv2, hn⟩ := hv
    cases hn
    exact ⟨F, ex, v, v2, xs, p, rfl, hv, hv2, h7, .inl ⟨ho, k⟩⟩
theorem x_chk {C : Addr} {σ : L2.St} {Hk : Hp} {ta tb : TE} {xs : List Rat} {p : Rat} {Ew : XK} (ha : E (rLst (rQ K)) ta σ Hk xs) (hb : E (rQ K) tb σ Hk p) (h7 : xs.length ≤ 7) (ho : ¬ okF xs p) :
    XX C (tCall (spChk K C) [] Ew (tCons ta (tCons tb tNil))) σ Hk Ew :=
  xx_call (ea_cons ha (ea_cons hb ea_nil)) fun F H vs Q ex hv k => by
    obtain ⟨v, ws, rfl, hv, v2, ws2, rfl, hv2, hn⟩ := hv
    cases hn
    exact ⟨F, ex, v, v2, xs, p, rfl, hv, hv2, h7, .inr ⟨ho, k⟩⟩
theorem s_drop {α : Type} {r : Rp α} {D : Ends} {te : TE} {σ : L2.St} {Hk H : Hp} {x : α} (h : E r te σ Hk x) (ex : Ex Hk H) (k : ∀ H2 F, Grow Hk H F H2 → D.nx σ H2) : tDrop te D σ H := h H ex _ fun v H2 F g _ => k H2 F g
theorem wtd_at {xs : List Rat} {i : Nat} (h : i < xs.length) : at_ (wtdL xs) i = at_ xs i * (i : Rat) := at_range h
theorem wtdL_w {D M w : Nat} (g : Good D M) {xs : List Rat} (hl : xs.length ≤ 7) (h : Aw D w xs) : Aw D (w + 1) (wtdL xs) := Aw.of fun k hk => by
  rw [wtdL_len] at hk
  rw [wtd_at hk]
  exact (h k).mul (g.nat (by omega))
theorem one7 {D M w : Nat} (g : Good D M) {xs : List Rat} (hl : xs.length ≤ 7) (h : Aw D w xs) (hw : w ≤ M) : One7 xs := ⟨hl, fun k => s4 g (h k) hw⟩
theorem inv_one {D M : Nat} (g : Good D M) {x : Rat} (h : x = 1) : Wd D 0 (1 / x) := by
  rw [h, show (1 : Rat) / 1 = 1 by grind]; exact Wd.one g.one
/-! ### exp_of -/
theorem ok_exp_of (T : Txt K mg) : FnOk P w K mg base (L2N.CX P w) 4 T.d_exp_of.a T.d_exp_of.fd ["a"] (spLX T.cN (rQ K) (rQ K) expL (Sz fun w => 6 * (w + 3)) fun xs => okF xs 0) := by
  refine T.d_exp_of.F.okN sc_exp_of spLX_len (fun cdv A outer s H vs Q Ew hr h => ?_)
  obtain ⟨Hk, ex, va, xs, rfl, ha, ⟨h7, D, M, wx, g, h1, hw⟩, q⟩ := h
  have hw : 6 * (wx + 3) ≤ M := hw
  refine ⟨_, (pss_cons (ps_expr (pe_call (ok_check_first T) (hr.mono (by decide)) (by rfl) T.g_check_first T.d_check_first.F.kp T.d_check_first.b .nil (L2N.passes_call (L2N.takes_of rfl rfl rfl rfl) (fun _ _ _ _ h => h)) (pa_cons (pv 0) (pa_cons (pe_glob (v := .ref T.aZ) rfl T.g_ZERO rfl) pa_nil))))
      (pss_cons (ps_set (i := 1) sc_exp_of.nd rfl (Or.inl rfl) (pe_call (ok_weighted T) (hr.mono (by decide)) (by rfl) T.g_weighted T.d_weighted.F.kp T.d_weighted.b .nil pass0 (pa_cons (pv 0) pa_nil)))
      (pss_cons (ps_set (i := 2) sc_exp_of.nd rfl (Or.inl rfl) (pe_lst pa_nil))
      (pss_cons (ps_for (passes_of rfl) rfl (pi_range1 (by rfl) T.n_range (pa_cons (pe_callB (c_lenK (K := K) rfl) (by rfl) T.n_len (by decide +kernel) (pa_cons (pv 0) pa_nil)) pa_nil)) (pg_name (i := 3) sc_exp_of.nd rfl (Or.inl rfl) (hf := Or.inr rfl))
      (pss_one (ps_expr (pe_bm PySem.F.plainAttrs_list PySem.F.slot_list_append PySem.F.type_list_append mt_append (pv 2) (pa_cons (pe_ifExp (pt_cmpR op_eq (pv 3) pe_int (nomark _)) (pe_glob (v := .ref T.aO) rfl T.g_ONE rfl) (pe_call (ok_mul T) (hr.mono (by decide)) (by rfl) T.g_mul T.d_mul.F.kp T.d_mul.b .nil pass0 (pa_cons (pe_call (ok_folded T) (hr.mono (by decide)) (by rfl) T.g_folded T.d_folded.F.kp T.d_folded.b .nil pass0 (pa_cons (pv 1) (pa_cons (pv 2) (pa_cons (pv 3) pa_nil)))) (pa_cons (pe_tup (pa_cons pe_int (pa_cons (pv 3) pa_nil))) pa_nil)))) pa_nil)))))
      (pss_one (ps_ret (pv 2))))))), ?_⟩
  rcases q with ⟨o, q⟩ | ⟨o, q⟩
  · refine s_drop (e_chk (e_var ha rfl) (e_c (z_rep T Hk)) h7 o) ex fun H1 F1 g1 => ?_
    refine s_set (EN.e (e_LL (e_var (up g1.k ha) rfl) (one7 g h7 h1 (by omega)))) g1.f fun v2 H2 F2 g2 hv2 => ?_
    have g12 := g1.trans g2
    refine s_setN (r := rQ K) en_nil g12.f fun p vs H3 F3 g3 fp hp h3 hv => ?_
    cases hv
    have gr := g12.trans g3
    refine s_grow (n := (xs.length : Int)) (fun x => [some va, some v2, some (.ref p), x]) none (fun _ _ => rfl) (fun _ => rfl) (e_len (e_var (up gr.k ha) rfl)) (by omega) (by omega) gr fp (g12.h.free hp) h3 (step := fun found => if found.length = 0 then 1 else fo (wtd (at_ xs)) (at_ found) found.length * (1 / (found.length : Rat))) (fun k F' ws hk ek fo' hp' => ?_) fun x F' ws H' g' ek fo' ho' hp' => ?_
    · have hk' : k < xs.length := by omega
      show E (rQ K) _ _ _ (if (grow _ k).length = 0 then 1 else fo (wtd (at_ xs)) (at_ (grow _ k)) (grow _ k).length * (1 / ((grow _ k).length : Rat)))
      rw [grow_len]
      refine e_if (b := decide ((k : Int) = 0)) (t_test (e_eqI (e_var rfl rfl) e_int)) (fun c => ?_) (fun c => ?_)
      · have : k = 0 := by have := of_decide_eq_true c; omega
        rw [if_pos this]; exact e_c (o_rep T _)
      · have z : ¬ k = 0 := by have := of_decide_eq_false c; omega
        rw [if_neg z]
        have wf : ∀ i, i < k → Wd D (5 * (wx + 3)) (at_ (grow (fun found => if found.length = 0 then 1 else fo (wtd (at_ xs)) (at_ found) found.length * (1 / (found.length : Rat))) k) i) := fun i hi => by
          have := expL_w g h7 h1 i (by omega)
          unfold expL at this
          rw [grow_at _ hi (show k ≤ xs.length by omega)] at this
          exact this.mono g.one (Nat.mul_le_mul_right _ (by omega))
        have exF : Ex F2 (upd F' p (.lst ws)) := (g3.k.trans ek).trans (Ex.new fo')
        have wt := wtdL_w g h7 h1
        have f := fo_w (k := k) g.ge (by omega) (fun i _ _ => wt i) wf
        have e : fo (at_ (wtdL xs)) (at_ (grow (fun found => if found.length = 0 then 1 else fo (wtd (at_ xs)) (at_ found) found.length * (1 / (found.length : Rat))) k)) k = fo (wtd (at_ xs)) (at_ (grow (fun found => if found.length = 0 then 1 else fo (wtd (at_ xs)) (at_ found) found.length * (1 / (found.length : Rat))) k)) k :=
          fo_congr (fun i hi => wtd_at (by omega)) fun _ _ => rfl
        rw [← e]
        exact e_QQ (e_fold (n := k) (e_var (up exF hv2) rfl) (e_var (own_lst fo' hp') rfl) (e_var rfl rfl) rfl (by rw [wtdL_len]; omega) (by rw [grow_len]; exact Nat.le_refl _) (by omega) g (fun i _ _ => wt i) wf (by omega)) (e_1k (e_var rfl rfl) rfl z) (s4 g f (by omega)) (inv4 z (by omega)) trivial
    · refine s_retO rfl g' fo' (g12.h.free hp) ho' hp' ?_ rfl
      rw [Int.toNat_natCast]; exact q
  · exact s_dropX (x_chk (e_var ha rfl) (e_c (z_rep T Hk)) h7 o) ex q
/-! ### log_of -/
theorem ok_log_of (T : Txt K mg) : FnOk P w K mg base (L2N.CX P w) 5 T.d_log_of.a T.d_log_of.fd ["a"] (spLX T.cN (rQ K) (rQ K) logL (Sz fun w => 8 * w + 22) fun xs => okF xs 1) := by
  refine T.d_log_of.F.okN sc_log_of spLX_len (fun cdv A outer s H vs Q Ew hr h => ?_)
  obtain ⟨Hk, ex, va, xs, rfl, ha, ⟨h7, D, M, wx, g, h1, hw⟩, q⟩ := h
  have hw : 8 * wx + 22 ≤ M := hw
  refine ⟨_, (pss_cons (ps_expr (pe_call (ok_check_first T) (hr.mono (by decide)) (by rfl) T.g_check_first T.d_check_first.F.kp T.d_check_first.b .nil (L2N.passes_call (L2N.takes_of rfl rfl rfl rfl) (fun _ _ _ _ h => h)) (pa_cons (pv 0) (pa_cons (pe_glob (v := .ref T.aO) rfl T.g_ONE rfl) pa_nil))))
      (pss_one (ps_ret (pe_call (ok_summed_slopes T) (hr.mono (by decide)) (by rfl) T.g_summed_slopes T.d_summed_slopes.F.kp T.d_summed_slopes.b .nil pass0 (pa_cons (pe_call (ok_over T) (hr.mono (by decide)) (by rfl) T.g_over_coefs T.d_over.F.kp T.d_over.b .nil passLN (pa_cons (pe_call (ok_slope_row T) (hr.mono (by decide)) (by rfl) T.g_slope_row T.d_slope_row.F.kp T.d_slope_row.b .nil pass0 (pa_cons (pv 0) pa_nil)) (pa_cons (pv 0) pa_nil))) pa_nil))))), ?_⟩
  rcases q with ⟨o, q⟩ | ⟨o, q⟩
  · refine s_drop (e_chk (e_var ha rfl) (e_c (o_rep T Hk)) h7 o) ex fun H1 F1 g1 => ?_
    have h0 : 0 < xs.length → at_ xs 0 ≠ 0 := fun h => by rw [o h]; grind
    have wi : at_ xs 0 ≠ 0 → Wd D 0 (1 / at_ xs 0) := fun h => by
      by_cases hn : 0 < xs.length
      · exact inv_one g (o hn)
      · exact absurd (at_over (by omega)) h
    have ws := slpL_w g h7 h1
    have wd : Aw D (wx + 1 + 7 * (wx + 0 + 3)) (divL (slpL xs) xs) := by
      by_cases hn : 0 < xs.length
      · exact divL_W (wa := wx + 1) (wb := wx) (wi := 0) g (by rw [slpL_len]; exact h7) ws h1 (wi (h0 hn))
      · exact Aw.of fun k hk => by rw [divL_len, slpL_len] at hk; omega
    refine s_retN (e_LL (EN.e (e_RX (EN.e (e_LL (e_var (up g1.k ha) rfl) (one7 g h7 h1 (by omega)))) (e_var (up g1.k ha) rfl) ⟨slpL_len xs, by rw [slpL_len]; exact h7, D, M, wx + 1, wx, 0, g, ws, h1, wi, by omega⟩ (fun h => h0 (by rw [slpL_len] at h; exact h)))) (one7 g (by rw [divL_len, slpL_len]; exact h7) wd (by omega))) g1.f (ResN.from g1 q)
  · exact s_dropX (x_chk (e_var ha rfl) (e_c (o_rep T Hk)) h7 o) ex q
/-! ### atan_of -/
theorem ok_atan_of (T : Txt K mg) : FnOk P w K mg base (L2N.CX P w) 5 T.d_atan_of.a T.d_atan_of.fd ["a"] (spLX T.cN (rQ K) (rQ K) atanL (Sz fun w => 15 * w + 36) fun xs => okF xs 0) := by
  refine T.d_atan_of.F.okN sc_atan_of spLX_len (fun cdv A outer s H vs Q Ew hr h => ?_)
  obtain ⟨Hk, ex, va, xs, rfl, ha, ⟨h7, D, M, wx, g, h1, hw⟩, q⟩ := h
  have hw : 15 * wx + 36 ≤ M := hw
  refine ⟨_, (pss_cons (ps_expr (pe_call (ok_check_first T) (hr.mono (by decide)) (by rfl) T.g_check_first T.d_check_first.F.kp T.d_check_first.b .nil (L2N.passes_call (L2N.takes_of rfl rfl rfl rfl) (fun _ _ _ _ h => h)) (pa_cons (pv 0) (pa_cons (pe_glob (v := .ref T.aZ) rfl T.g_ZERO rfl) pa_nil))))
      (pss_one (ps_ret (pe_call (ok_summed_slopes T) (hr.mono (by decide)) (by rfl) T.g_summed_slopes T.d_summed_slopes.F.kp T.d_summed_slopes.b .nil pass0 (pa_cons (pe_call (ok_over T) (hr.mono (by decide)) (by rfl) T.g_over_coefs T.d_over.F.kp T.d_over.b .nil passLN (pa_cons (pe_call (ok_slope_row T) (hr.mono (by decide)) (by rfl) T.g_slope_row T.d_slope_row.F.kp T.d_slope_row.b .nil pass0 (pa_cons (pv 0) pa_nil)) (pa_cons (pe_call (ok_plus T) (hr.mono (by decide)) (by rfl) T.g_plus T.d_plus.F.kp T.d_plus.b .nil pass0 (pa_cons (pe_call (ok_constant_row T) (hr.mono (by decide)) (by rfl) T.g_constant_row T.d_constant_row.F.kp T.d_constant_row.b .nil pass0 (pa_cons (pe_glob (v := .ref T.aO) rfl T.g_ONE rfl) (pa_cons (pe_callB (c_lenK (K := K) rfl) (by rfl) T.n_len (by decide +kernel) (pa_cons (pv 0) pa_nil)) pa_nil))) (pa_cons (pe_call (ok_times T) (hr.mono (by decide)) (by rfl) T.g_times_coefs T.d_times.F.kp T.d_times.b .nil pass0 (pa_cons (pv 0) (pa_cons (pv 0) pa_nil))) pa_nil))) pa_nil))) pa_nil))))), ?_⟩
  rcases q with ⟨o, q⟩ | ⟨o, q⟩
  · refine s_drop (e_chk (e_var ha rfl) (e_c (z_rep T Hk)) h7 o) ex fun H1 F1 g1 => ?_
    have u0 : 0 < xs.length → at_ (addL (cstL 1 xs.length) (mulL xs xs)) 0 = 1 := fun hn => by
      rw [add_at (by rw [cstL_len]; exact hn), cst_at hn, if_pos rfl, mul_at0 hn, o hn]; grind
    have ul : (addL (cstL 1 xs.length) (mulL xs xs)).length = xs.length := by rw [addL_len, cstL_len]
    have wi : at_ (addL (cstL 1 xs.length) (mulL xs xs)) 0 ≠ 0 → Wd D 0 (1 / at_ (addL (cstL 1 xs.length) (mulL xs xs)) 0) := fun h => by
      by_cases hn : 0 < xs.length
      · exact inv_one g (u0 hn)
      · exact absurd (at_over (by rw [ul]; omega)) h
    have ws := slpL_w g h7 h1
    have wm := mulL_w g.ge h7 h1 h1
    have wc : Aw D (wx + wx + 1) (cstL 1 xs.length) := cstL_w g.one (Wd.one g.one)
    have wu := addL_w g.ge wc wm
    have h0 : 0 < xs.length → at_ (addL (cstL 1 xs.length) (mulL xs xs)) 0 ≠ 0 := fun h => by rw [u0 h]; grind
    have wd : Aw D (wx + 1 + 7 * (wx + wx + 1 + 1 + 0 + 3)) (divL (slpL xs) (addL (cstL 1 xs.length) (mulL xs xs))) := by
      by_cases hn : 0 < xs.length
      · exact divL_W (wa := wx + 1) (wb := wx + wx + 1 + 1) (wi := 0) g (by rw [slpL_len]; exact h7) ws wu (wi (h0 hn))
      · exact Aw.of fun k hk => by rw [divL_len, slpL_len] at hk; omega
    have va' : E (rLst (rQ K)) (tVar 0) (L2.start ["a"] [va]) F1 xs := e_var (up g1.k ha) rfl
    refine s_retN (e_LL (EN.e (e_RX (EN.e (e_LL va' (one7 g h7 h1 (by omega))))
      (EN.e (e_RR (EN.e (e_cst (e_c (o_rep T _)) (e_len va') rfl (by omega))) (EN.e (e_RR va' va' ⟨rfl, h7, D, M, wx, g, h1, h1, by dsimp only; omega⟩)) ⟨by rw [cstL_len, mulL_len], by rw [cstL_len]; exact h7, D, M, wx + wx + 1, g, wc, wm, by dsimp only; omega⟩))
      ⟨by rw [slpL_len, ul], by rw [slpL_len]; exact h7, D, M, wx + 1, wx + wx + 1 + 1, 0, g, ws, wu, wi, by omega⟩ (fun h => h0 (by rw [slpL_len] at h; exact h)))) (one7 g (by rw [divL_len, slpL_len]; exact h7) wd (by omega))) g1.f (ResN.from g1 q)
  · exact s_dropX (x_chk (e_var ha rfl) (e_c (z_rep T Hk)) h7 o) ex q
/-! ### arcs_of -/
def PreA (xs ys : List Rat) : Prop := xs.length = ys.length ∧ xs.length ≤ 7 ∧ ∃ D M w wi, Good D M ∧ Aw D w xs ∧ Aw D w ys ∧ (1 - at_ xs 0 * at_ ys 0 ≠ 0 → Wd D wi (1 / (1 - at_ xs 0 * at_ ys 0))) ∧ 15 * w + 7 * wi + 36 ≤ M
abbrev okA (xs ys : List Rat) : Prop := 0 < xs.length → at_ xs 0 * at_ ys 0 ≠ 1
theorem ok_arcs_of (T : Txt K mg) : FnOk P w K mg base (L2N.CX P w) 5 T.d_arcs_of.a T.d_arcs_of.fd ["a", "b"] (spRX T.cN (rQ K) (rLst (rQ K)) (rQ K) arcL PreA okA) := by
  refine T.d_arcs_of.F.okN sc_arcs_of spRX_len (fun cdv A outer s H vs Q Ew hr h => ?_)
  obtain ⟨Hk, ex, va, vb, xs, ys, rfl, ha, hb, ⟨hl, h7, D, M, wx, wi, g, h1, h2, h3, hw⟩, q⟩ := h
  refine ⟨_, (pss_one (ps_ret (pe_call (ok_over T) (hr.mono (by decide)) (by rfl) T.g_over_coefs T.d_over.F.kp T.d_over.b .nil (L2N.passes_call (L2N.takes_of rfl rfl rfl rfl) (fun _ _ _ _ h => h)) (pa_cons (pe_call (ok_plus T) (hr.mono (by decide)) (by rfl) T.g_plus T.d_plus.F.kp T.d_plus.b .nil pass0 (pa_cons (pv 0) (pa_cons (pv 1) pa_nil))) (pa_cons (pe_call (ok_minus T) (hr.mono (by decide)) (by rfl) T.g_minus T.d_minus.F.kp T.d_minus.b .nil pass0 (pa_cons (pe_call (ok_constant_row T) (hr.mono (by decide)) (by rfl) T.g_constant_row T.d_constant_row.F.kp T.d_constant_row.b .nil pass0 (pa_cons (pe_glob (v := .ref T.aO) rfl T.g_ONE rfl) (pa_cons (pe_callB (c_lenK (K := K) rfl) (by rfl) T.n_len (by decide +kernel) (pa_cons (pv 0) pa_nil)) pa_nil))) (pa_cons (pe_call (ok_times T) (hr.mono (by decide)) (by rfl) T.g_times_coefs T.d_times.F.kp T.d_times.b .nil pass0 (pa_cons (pv 0) (pa_cons (pv 1) pa_nil))) pa_nil))) pa_nil))))), ?_⟩
  have sl : (subL (cstL 1 xs.length) (mulL xs ys)).length = xs.length := by rw [subL_len, cstL_len]
  have wm := mulL_w g.ge h7 h1 h2
  have wc : Aw D (wx + wx + 1) (cstL 1 xs.length) := cstL_w g.one (Wd.one g.one)
  have wu := subL_w g.ge wc wm
  have wi' : at_ (subL (cstL 1 xs.length) (mulL xs ys)) 0 ≠ 0 → Wd D wi (1 / at_ (subL (cstL 1 xs.length) (mulL xs ys)) 0) := fun h => by
    by_cases hn : 0 < xs.length
    · rw [arc_0 hn] at h ⊢; exact h3 h
    · exact absurd (at_over (by rw [sl]; omega)) h
  have va' : E (rLst (rQ K)) (tVar 0) (L2.start ["a", "b"] [va, vb]) Hk xs := e_var ha rfl
  have vb' : E (rLst (rQ K)) (tVar 1) (L2.start ["a", "b"] [va, vb]) Hk ys := e_var hb rfl
  have one : ∀ {Ew : XK}, E (rLst (rQ K)) (tCall (spRR K addL (Two fun w => w + 1)) [] Ew (tCons (tVar 0) (tCons (tVar 1) tNil))) (L2.start ["a", "b"] [va, vb]) Hk (addL xs ys) := EN.e (e_RR va' vb' ⟨hl, h7, D, M, wx, g, h1, h2, by dsimp only; omega⟩)
  have two : ∀ {Ew1 Ew2 Ew3 : XK}, E (rLst (rQ K)) (tCall (spRR K subL (Two fun w => w + 1)) [] Ew1 (tCons (tCall (spCst K) [] Ew2 (tCons (tC (.ref T.aO)) (tCons (tCB (rLen K) (tCons (tVar 0) tNil)) tNil))) (tCons (tCall (spRR K mulL (Two fun w => w + w + 1)) [] Ew3 (tCons (tVar 0) (tCons (tVar 1) tNil))) tNil))) (L2.start ["a", "b"] [va, vb]) Hk (subL (cstL 1 xs.length) (mulL xs ys)) :=
    EN.e (e_RR (EN.e (e_cst (e_c (o_rep T _)) (e_len va') rfl (by omega))) (EN.e (e_RR va' vb' ⟨hl, h7, D, M, wx, g, h1, h2, by dsimp only; omega⟩)) ⟨by rw [cstL_len, mulL_len], by rw [cstL_len]; exact h7, D, M, wx + wx + 1, g, wc, wm, by dsimp only; omega⟩)
  have pre : PreD (addL xs ys) (subL (cstL 1 xs.length) (mulL xs ys)) := ⟨by rw [addL_len, sl], by rw [addL_len]; exact h7, D, M, wx + 1, wx + wx + 1 + 1, wi, g, addL_w g.ge h1 h2, wu, wi', by omega⟩
  rcases q with ⟨o, q⟩ | ⟨o, q⟩
  · exact s_retN (e_RX one two pre (fun h => by rw [addL_len] at h; rw [arc_0 h]; have := o h; grind)) ex q
  · refine s_retX (x_RX one two pre (fun h => o fun hn => ?_)) ex q
    have := h (by rw [addL_len]; exact hn)
    rw [arc_0 hn] at this
    grind
end
end Y8

set_option Elab.async false
set_option linter.all false
set_option maxRecDepth 100000
set_option maxHeartbeats 2000000
/-! # tan, powers -/
namespace Y8
open PySem L2 Y Ser
section
variable {P : Program} {w : World} {K : PySem.W.Frag} {mg : Str → Option Value} {base : Heap}
/-- an own list grows by what a reading tells from here -/
theorem s_appE {α : Type} {r : Rp α} {D : Ends} {te : TE} {σ : L2.St} {Hk H : Hp} {x : α} {o : Addr} {xs : List V} {i : Nat} (hi : σ[i]? = some (some (.ref o))) (hk : Hk o = none) (ho : H o = some (.lst xs)) (hz : xs.length < 100000)
    (h : ∀ Q : VK, (∀ v H2 F, Grow Hk H F H2 → r F v x → Q v H2) → te σ H Q) (k : ∀ v H2 F, Grow Hk H F H2 → r F v x → F o = none → D.nx σ (upd H2 o (.lst (xs ++ [v])))) : tDrop (tBM K "list" rAppend (tVar i) (tCons te tNil)) D σ H :=
  ⟨.ref o, hi, Or.inl ⟨rfl, xs, sq_of ho⟩, h _ fun v H2 F g hv => ⟨o, xs, v, rfl, rfl, g.h o _ ho, sz_lt hz, k v H2 F g hv (by
    cases z : F o with
    | none => rfl
    | some u => have := g.n o hk (by rw [z]; exact fun z => nomatch z); rw [ho] at this; cases this)⟩⟩
abbrev stT (xs : List Rat) : List Rat → Rat := fun found => if found.length = 0 then 0 else fo (wtd (at_ xs)) (sqs (at_ found)) found.length * (1 / (found.length : Rat))
theorem tanL_def (xs : List Rat) : tanL xs = grow (stT xs) xs.length := rfl
theorem sq_at {xs : List Rat} {n m k : Nat} (h : k < n) (hn : n ≤ m) : sqs (at_ (grow (stT xs) n)) k = sqs (at_ (grow (stT xs) m)) k := by
  unfold sqs
  split
  · rfl
  · exact fo_congr (fun i hi => (grow_at _ (by omega) hn).symm) fun i hi => (grow_at _ (by omega) hn).symm
theorem ok_tan_of (T : Txt K mg) : FnOk P w K mg base (L2N.CX P w) 4 T.d_tan_of.a T.d_tan_of.fd ["a"] (spLX T.cN (rQ K) (rQ K) tanL (Sz fun w => 13 * (w + 4)) fun xs => okF xs 0) := by
  refine T.d_tan_of.F.okN sc_tan_of spLX_len (fun cdv A outer s H vs Q Ew hr h => ?_)
  obtain ⟨Hk, ex, va, xs, rfl, ha, ⟨h7, D, M, wx, g, h1, hw⟩, q⟩ := h
  have hw : 13 * (wx + 4) ≤ M := hw
  refine ⟨_, (pss_cons (ps_expr (pe_call (ok_check_first T) (hr.mono (by decide)) (by rfl) T.g_check_first T.d_check_first.F.kp T.d_check_first.b .nil (L2N.passes_call (L2N.takes_of rfl rfl rfl rfl) (fun _ _ _ _ h => h)) (pa_cons (pv 0) (pa_cons (pe_glob (v := .ref T.aZ) rfl T.g_ZERO rfl) pa_nil))))
      (pss_cons (ps_set (i := 1) sc_tan_of.nd rfl (Or.inl rfl) (pe_call (ok_weighted T) (hr.mono (by decide)) (by rfl) T.g_weighted T.d_weighted.F.kp T.d_weighted.b .nil pass0 (pa_cons (pv 0) pa_nil)))
      (pss_cons (ps_set (i := 2) sc_tan_of.nd rfl (Or.inl rfl) (pe_lst pa_nil))
      (pss_cons (ps_set (i := 3) sc_tan_of.nd rfl (Or.inl rfl) (pe_lst pa_nil))
      (pss_cons (ps_for (passes_of rfl) rfl (pi_range1 (by rfl) T.n_range (pa_cons (pe_callB (c_lenK (K := K) rfl) (by rfl) T.n_len (by decide +kernel) (pa_cons (pv 0) pa_nil)) pa_nil)) (pg_name (i := 4) sc_tan_of.nd rfl (Or.inl rfl) (hf := Or.inr rfl))
      (pss_one (ps_if (pt_cmpR op_eq (pv 4) pe_int (nomark _)) (pss_cons (ps_expr (pe_bm PySem.F.plainAttrs_list PySem.F.slot_list_append PySem.F.type_list_append mt_append (pv 2) (pa_cons (pe_glob (v := .ref T.aZ) rfl T.g_ZERO rfl) pa_nil)))
      (pss_one (ps_expr (pe_bm PySem.F.plainAttrs_list PySem.F.slot_list_append PySem.F.type_list_append mt_append (pv 3) (pa_cons (pe_glob (v := .ref T.aO) rfl T.g_ONE rfl) pa_nil))))) (pss_cons (ps_expr (pe_bm PySem.F.plainAttrs_list PySem.F.slot_list_append PySem.F.type_list_append mt_append (pv 2) (pa_cons (pe_call (ok_mul T) (hr.mono (by decide)) (by rfl) T.g_mul T.d_mul.F.kp T.d_mul.b .nil pass0 (pa_cons (pe_call (ok_folded T) (hr.mono (by decide)) (by rfl) T.g_folded T.d_folded.F.kp T.d_folded.b .nil pass0 (pa_cons (pv 1) (pa_cons (pv 3) (pa_cons (pv 4) pa_nil)))) (pa_cons (pe_tup (pa_cons pe_int (pa_cons (pv 4) pa_nil))) pa_nil))) pa_nil)))
      (pss_one (ps_expr (pe_bm PySem.F.plainAttrs_list PySem.F.slot_list_append PySem.F.type_list_append mt_append (pv 3) (pa_cons (pe_call (ok_folded T) (hr.mono (by decide)) (by rfl) T.g_folded T.d_folded.F.kp T.d_folded.b .nil pass0 (pa_cons (pv 2) (pa_cons (pv 2) (pa_cons (pv 4) pa_nil)))) pa_nil))))))))
      (pss_one (ps_ret (pv 2)))))))), ?_⟩
  rcases q with ⟨o, q⟩ | ⟨o, q⟩
  · refine s_drop (e_chk (e_var ha rfl) (e_c (z_rep T Hk)) h7 o) ex fun H1 F1 g1 => ?_
    refine s_set (EN.e (e_LL (e_var (up g1.k ha) rfl) (one7 g h7 h1 (by omega)))) g1.f fun v2 H2 F2 g2 hv2 => ?_
    have g12 := g1.trans g2
    refine s_setN (r := rQ K) en_nil g12.f fun p vs H3 F3 g3 fp hp h3 hv => ?_
    cases hv
    refine s_setN (r := rQ K) en_nil g3.f fun p' us H4 F4 g4 fp' hp' h4 hu => ?_
    cases hu
    have pp : p ≠ p' := fun e => by subst e; rw [h3] at hp'; cases hp'
    have fp4 : F4 p = none := by
      cases z : F4 p with
      | none => rfl
      | some u => have := g4.n p fp (by rw [z]; exact fun z => nomatch z); rw [h3] at this; cases this
    have gr := (g12.trans g3).trans g4
    have p0 : H p = none := g12.h.free hp
    have p0' : H p' = none := (g12.trans g3).h.free hp'
    have wt := wtdL_w g h7 h1
    have tw := tanL_w g h7 h1
    refine s_forR1 (K := F4) (n := (xs.length : Int)) (e_len (e_var (up gr.k ha) rfl)) (by omega) (by omega) g4.f
      (fun k σ' H' => ∃ x F ws us, σ' = [some va, some v2, some (.ref p), some (.ref p'), x] ∧ Grow Hk H F H' ∧ Ex F4 F ∧ F p = none ∧ F p' = none ∧ H' p = some (.lst ws) ∧ H' p' = some (.lst us) ∧ ws.length = k ∧ us.length = k ∧ Paired (rQ K F) ws (grow (stT xs) k) ∧ Paired (rQ K F) us ((List.range k).map (sqs (at_ (tanL xs)))))
      (fun H5 e5 => ⟨none, F4, [], [], rfl, gr.trans (Grow.of gr.f e5), Ex.refl _, fp4, fp', e5 _ _ (g4.h _ _ h3), e5 _ _ h4, rfl, rfl, .nil, .nil⟩) ?_ ?_
    · rintro k σ' H' hk ⟨x, F, ws, us, rfl, gF, e4, f1, f2, o1, o2, l1, l2, r1, r2⟩
      have hk' : k < xs.length := by omega
      have e2F : Ex F2 F := (g3.k.trans g4.k).trans e4
      refine s_if (K := F) (b := decide ((k : Int) = 0)) (t_test (e_eqI (e_var rfl rfl) e_int)) gF.f (fun c H5 e5 => ?_) (fun c H5 e5 => ?_)
      · have z : k = 0 := by have := of_decide_eq_true c; omega
        subst z
        have q1 := List.eq_nil_of_length_eq_zero l1
        have q2 := List.eq_nil_of_length_eq_zero l2
        subst q1; subst q2
        refine s_app (K := F) (r := rQ K) rfl f1 (e5 _ _ o1) (by show 0 < 100000; omega) (gF.f.trans e5) (e_c (z_rep T F)) fun v6 H6 F6 g6 hv6 f6 => ?_
        have g6' := (gF.trans (Grow.of gF.f e5)).trans g6
        have f62 : F6 p' = none := by
          cases z : F6 p' with
          | none => rfl
          | some u => have := g6.n p' f2 (by rw [z]; exact fun z => nomatch z); rw [e5 _ _ o2] at this; cases this
        have g7 : Grow Hk H F6 (upd H6 p (.lst ([] ++ [v6]))) := Grow_mut g6' f6 p0
        refine s_app (K := F6) (r := rQ K) (xs := []) rfl f62 (by rw [upd_ne (Ne.symm pp)]; exact g6.h _ _ (e5 _ _ o2)) (by show 0 < 100000; omega) g7.f (e_c (o_rep T F6)) fun v8 H8 F8 g8 hv8 f8 => ?_
        have f81 : F8 p = none := by
          cases z : F8 p with
          | none => rfl
          | some u => have := g8.n p f6 (by rw [z]; exact fun z => nomatch z); rw [upd_same] at this; cases this
        refine ⟨_, F8, [] ++ [v6], [] ++ [v8], rfl, Grow_mut (g7.trans g8) f8 p0', e4.trans (g6.k.trans g8.k), f81, f8, by rw [upd_ne pp]; exact g8.h _ _ upd_same, upd_same, rfl, rfl, .cons (up g8.k hv6) .nil, .cons ?_ .nil⟩
        exact hv8
      · have z : ¬ k = 0 := by have := of_decide_eq_false c; omega
        have wf : ∀ i, i < k → Wd D (5 * (wx + 4) + 1) (at_ ((List.range k).map (sqs (at_ (tanL xs)))) i) := fun i hi => by
          rw [at_range hi]
          exact (tw i (by omega)).2.mono g.one (by
            have : i * (wx + 4) ≤ 5 * (wx + 4) := Nat.mul_le_mul_right _ (by omega)
            omega)
        have f := fo_w (k := k) g.ge (by omega) (fun i _ _ => wt i) wf
        have exF : Ex F2 (upd F p' (.lst us)) := e2F.trans (Ex.new f2)
        have st : fo (at_ (wtdL xs)) (at_ ((List.range k).map (sqs (at_ (tanL xs))))) k * (1 / (k : Rat)) = stT xs (grow (stT xs) k) := by
          show _ = if (grow (stT xs) k).length = 0 then _ else _
          rw [grow_len, if_neg z]
          congr 1
          exact fo_congr (fun i hi => wtd_at (by omega)) fun i hi => by rw [at_range hi, tanL_def]; exact (sq_at hi (by omega)).symm
        refine s_appE (Hk := F) (r := rQ K) rfl f1 (e5 _ _ o1) (by omega) (E.own (o := p') (xs := us) f2 (E.as (e_QQ (e_fold (n := k) (e_var (up exF hv2) rfl) (e_var (own_lst f2 r2) rfl) (e_var rfl rfl) rfl (by rw [wtdL_len]; omega) (by simp) (by omega) g (fun i _ _ => wt i) wf (by omega)) (e_1k (e_var rfl rfl) rfl z) (s4 g f (by omega)) (inv4 z (by omega)) trivial) st) H5 (gF.f.trans e5) (e5 _ _ o2)) fun v6 H6 F6 g6 hv6 f6 => ?_
        have g6' := (gF.trans (Grow.of gF.f e5)).trans g6
        have f62 : F6 p' = none := by
          cases z : F6 p' with
          | none => rfl
          | some u => have := g6.n p' f2 (by rw [z]; exact fun z => nomatch z); rw [e5 _ _ o2] at this; cases this
        have g7 : Grow Hk H F6 (upd H6 p (.lst (ws ++ [v6]))) := Grow_mut g6' f6 p0
        have r1' : Paired (rQ K F6) (ws ++ [v6]) (grow (stT xs) (k + 1)) := p_app (p_up g6.k r1) (.cons hv6 .nil)
        have wf2 : ∀ i, i < k + 1 → Wd D (6 * (wx + 4)) (at_ (grow (stT xs) (k + 1)) i) := fun i hi => by
          have := (tw i (by omega)).1
          rw [tanL_def, grow_at _ hi (by omega)] at this
          exact this.mono g.one (Nat.mul_le_mul_right _ (by omega))
        have sq : fo (at_ (grow (stT xs) (k + 1))) (at_ (grow (stT xs) (k + 1))) k = sqs (at_ (tanL xs)) k := by
          rw [tanL_def, ← sq_at (n := k + 1) (by omega) (by omega)]
          unfold sqs
          rw [if_neg z]
        refine s_appE (Hk := F6) (r := rQ K) (xs := us) rfl f62 (by rw [upd_ne (Ne.symm pp)]; exact g6.h _ _ (e5 _ _ o2)) (by omega) (E.own (o := p) (xs := ws ++ [v6]) f6 (E.as (e_fold (n := k) (e_var (own_lst f6 r1') rfl) (e_var (own_lst f6 r1') rfl) (e_var rfl rfl) rfl (by rw [grow_len]; omega) (by rw [grow_len]; omega) (by omega) g (fun i _ hi => wf2 i (by omega)) (fun i hi => wf2 i (by omega)) (by omega)) sq) _ g7.f upd_same) fun v8 H8 F8 g8 hv8 f8 => ?_
        have f81 : F8 p = none := by
          cases z : F8 p with
          | none => rfl
          | some u => have := g8.n p f6 (by rw [z]; exact fun z => nomatch z); rw [upd_same] at this; cases this
        refine ⟨_, F8, ws ++ [v6], us ++ [v8], rfl, Grow_mut (g7.trans g8) f8 p0', e4.trans (g6.k.trans g8.k), f81, f8, by rw [upd_ne pp]; exact g8.h _ _ upd_same, upd_same, by rw [List.length_append, l1]; rfl, by rw [List.length_append, l2]; rfl, p_up g8.k r1', ?_⟩
        rw [List.range_succ, List.map_append]
        exact p_app (p_up (g6.k.trans g8.k) r2) (.cons hv8 .nil)
    · rintro σ' H' ⟨x, F, ws, us, rfl, gF, e4, f1, f2, o1, o2, l1, l2, r1, r2⟩
      rw [Int.toNat_natCast] at r1
      exact s_retO rfl gF f1 p0 o1 r1 q rfl
  · exact s_dropX (x_chk (e_var ha rfl) (e_c (z_rep T Hk)) h7 o) ex q
end
end Y8

set_option Elab.async false
set_option linter.all false
set_option maxRecDepth 100000
set_option maxHeartbeats 2000000
/-! # powers -/
namespace Y8
open PySem L2 Y Ser
section
variable {P : Program} {w : World} {K : PySem.W.Frag} {mg : Str → Option Value} {base : Heap}
abbrev stP (xs : List Rat) (p : Rat) : List Rat → Rat := fun found => if found.length = 0 then 1 else (fo (fun i => at_ xs i * (i : Rat) * p) (at_ found) found.length - fo (at_ xs) (wtd (at_ found)) found.length) * (1 / (found.length : Rat))
theorem powL_def (xs : List Rat) (p : Rat) : powL xs p = grow (stP xs p) xs.length := rfl
def PreP (xs : List Rat) (p : Rat) : Prop := xs.length ≤ 7 ∧ ∃ D M w wp, Good D M ∧ Aw D w xs ∧ Wd D wp p ∧ 6 * (w + wp + 4) ≤ M
abbrev okP (xs : List Rat) (_ : Rat) : Prop := okF xs 1
theorem at_map {xs : List Rat} {f : Rat → Rat} {k : Nat} (h : k < xs.length) : at_ (xs.map f) k = f (at_ xs k) := by simp [at_, List.getD_eq_getElem?_getD, h]
theorem s_setE {α : Type} {r : Rp α} {D : Ends} {te : TE} {σ : L2.St} {Hk H : Hp} {x : α} {i : Nat} (h : ∀ Q : VK, (∀ v H2 F, Grow Hk H F H2 → r F v x → Q v H2) → te σ H Q) (k : ∀ v H2 F, Grow Hk H F H2 → r F v x → D.nx (σ.set i (some v)) H2) : tAsg te (gName i) D σ H := h _ k
theorem ok_power_of (T : Txt K mg) : FnOk P w K mg base (L2N.CX P w) 4 T.d_power_of.a T.d_power_of.fd ["a", "pair"] (spRX T.cN (rQ K) (rQ K) (rQ K) powL PreP okP) := by
  refine T.d_power_of.F.okN sc_power_of spRX_len (fun cdv A outer s H vs Q Ew hr h => ?_)
  obtain ⟨Hk, ex, va, vp, xs, p, rfl, ha, hp, ⟨h7, D, M, wx, wp, g, h1, h2, hw⟩, q⟩ := h
  refine ⟨_, (pss_cons (ps_expr (pe_call (ok_check_first T) (hr.mono (by decide)) (by rfl) T.g_check_first T.d_check_first.F.kp T.d_check_first.b .nil (L2N.passes_call (L2N.takes_of rfl rfl rfl rfl) (fun _ _ _ _ h => h)) (pa_cons (pv 0) (pa_cons (pe_glob (v := .ref T.aO) rfl T.g_ONE rfl) pa_nil))))
      (pss_cons (ps_setLc (i := 2) (own := [("entry", 6)]) (g := gName 6) rfl sc_power_of.nd rfl rfl (sw_true rfl rfl rfl (by decide +kernel)) (pi_list (pe_call (ok_weighted T) (hr.mono (by decide)) (by rfl) T.g_weighted T.d_weighted.F.kp T.d_weighted.b .nil pass0 (pa_cons (pv 0) pa_nil))) (blkOk_by (N := ["a", "pair", "slopes", "found", "at", "total", "entry"]) (sc := defScope s_power_of) (by decide +kernel)) (fun _ _ _ _ _ => (pg_name (i := 6) sc_power_of.nd rfl (Or.inl rfl) (hf := Or.inr rfl))) (fun _ _ _ _ _ => pts_nil) (fun _ _ _ _ _ => (pe_call (ok_mul T) (hr.mono (by decide)) (by rfl) T.g_mul T.d_mul.F.kp T.d_mul.b .nil pass0 (pa_cons (pv 6) (pa_cons (pv 1) pa_nil)))))
      (pss_cons (ps_set (i := 3) sc_power_of.nd rfl (Or.inl rfl) (pe_lst pa_nil))
      (pss_cons (ps_for (passes_of rfl) rfl (pi_range1 (by rfl) T.n_range (pa_cons (pe_callB (c_lenK (K := K) rfl) (by rfl) T.n_len (by decide +kernel) (pa_cons (pv 0) pa_nil)) pa_nil)) (pg_name (i := 4) sc_power_of.nd rfl (Or.inl rfl) (hf := Or.inr rfl))
      (pss_one (ps_if (pt_cmpR op_eq (pv 4) pe_int (nomark _)) (pss_one (ps_expr (pe_bm PySem.F.plainAttrs_list PySem.F.slot_list_append PySem.F.type_list_append mt_append (pv 3) (pa_cons (pe_glob (v := .ref T.aO) rfl T.g_ONE rfl) pa_nil)))) (pss_cons (ps_set (i := 5) sc_power_of.nd rfl (Or.inl rfl) (pe_call (ok_sub T) (hr.mono (by decide)) (by rfl) T.g_sub T.d_sub.F.kp T.d_sub.b .nil pass0 (pa_cons (pe_call (ok_folded T) (hr.mono (by decide)) (by rfl) T.g_folded T.d_folded.F.kp T.d_folded.b .nil pass0 (pa_cons (pv 2) (pa_cons (pv 3) (pa_cons (pv 4) pa_nil)))) (pa_cons (pe_call (ok_folded T) (hr.mono (by decide)) (by rfl) T.g_folded T.d_folded.F.kp T.d_folded.b .nil pass0 (pa_cons (pv 0) (pa_cons (pe_call (ok_weighted T) (hr.mono (by decide)) (by rfl) T.g_weighted T.d_weighted.F.kp T.d_weighted.b .nil pass0 (pa_cons (pv 3) pa_nil)) (pa_cons (pv 4) pa_nil)))) pa_nil))))
      (pss_one (ps_expr (pe_bm PySem.F.plainAttrs_list PySem.F.slot_list_append PySem.F.type_list_append mt_append (pv 3) (pa_cons (pe_call (ok_mul T) (hr.mono (by decide)) (by rfl) T.g_mul T.d_mul.F.kp T.d_mul.b .nil pass0 (pa_cons (pv 5) (pa_cons (pe_tup (pa_cons pe_int (pa_cons (pv 4) pa_nil))) pa_nil))) pa_nil))))))))
      (pss_one (ps_ret (pv 3))))))), ?_⟩
  rcases q with ⟨o, q⟩ | ⟨o, q⟩
  · refine s_drop (e_chk (e_var ha rfl) (e_c (o_rep T Hk)) h7 o) ex fun H1 F1 g1 => ?_
    have wt := wtdL_w g h7 h1
    have wsl : Aw D (wx + 1 + wp) ((wtdL xs).map fun y => y * p) := Aw.of fun k hk => by
      rw [List.length_map] at hk
      rw [at_map hk]; exact (wt k).mul h2
    have hp4 : S4 p := s4 g h2 (by omega)
    refine s_set (EN.e (en_lcL (s := rQ K) (r := rQ K) (f := fun y => y * p) (EN.e (e_LL (e_var (up g1.k ha) rfl) (one7 g h7 h1 (by omega)))) (by rw [wtdL_len]; omega) (fun _ => rfl) fun y vy F hy e hvy => e_QQ (e_var hvy rfl) (e_var (up (g1.k.trans e) hp) rfl) (s4 g (wt.at hy) (by omega)) hp4 trivial)) g1.f fun v2 H2 F2 g2 hv2 => ?_
    have g12 := g1.trans g2
    refine s_setN (r := rQ K) en_nil g12.f fun o1 vs H3 F3 g3 fp hp' h3 hv => ?_
    cases hv
    have gr := g12.trans g3
    have p0 : H o1 = none := g12.h.free hp'
    have pw := powL_w g h7 h1 h2
    refine s_forR1 (K := F3) (n := (xs.length : Int)) (e_len (e_var (up gr.k ha) rfl)) (by omega) (by omega) g3.f
      (fun k σ' H' => ∃ x t F ws, σ' = [some va, some vp, some v2, some (.ref o1), x, t, none] ∧ Grow Hk H F H' ∧ Ex F3 F ∧ F o1 = none ∧ H' o1 = some (.lst ws) ∧ ws.length = k ∧ Paired (rQ K F) ws (grow (stP xs p) k))
      (fun H5 e5 => ⟨none, none, F3, [], rfl, gr.trans (Grow.of gr.f e5), Ex.refl _, fp, e5 _ _ h3, rfl, .nil⟩) ?_ ?_
    · rintro k σ' H' hk ⟨x, t, F, ws, rfl, gF, e4, f1, q1, l1, r1⟩
      have hk' : k < xs.length := by omega
      have eF : Ex F2 F := g3.k.trans e4
      refine s_if (K := F) (b := decide ((k : Int) = 0)) (t_test (e_eqI (e_var rfl rfl) e_int)) gF.f (fun c H5 e5 => ?_) (fun c H5 e5 => ?_)
      · have z : k = 0 := by have := of_decide_eq_true c; omega
        subst z
        have z1 := List.eq_nil_of_length_eq_zero l1
        subst z1
        refine s_app (K := F) (r := rQ K) rfl f1 (e5 _ _ q1) (by show 0 < 100000; omega) (gF.f.trans e5) (e_c (o_rep T F)) fun v6 H6 F6 g6 hv6 f6 => ?_
        exact ⟨_, t, F6, [] ++ [v6], rfl, Grow_mut ((gF.trans (Grow.of gF.f e5)).trans g6) f6 p0, e4.trans g6.k, f6, upd_same, rfl, .cons hv6 .nil⟩
      · have z : ¬ k = 0 := by have := of_decide_eq_false c; omega
        have wf : ∀ i, i < k → Wd D (5 * (wx + wp + 4)) (at_ (grow (stP xs p) k) i) := fun i hi => by
          have := pw i (by omega)
          rw [powL_def, grow_at _ hi (show k ≤ xs.length by omega)] at this
          exact this.mono g.one (Nat.mul_le_mul_right _ (by omega))
        have l7 : (grow (stP xs p) k).length ≤ 7 := by rw [grow_len]; omega
        have aw : Aw D (5 * (wx + wp + 4)) (grow (stP xs p) k) := Aw.of fun i hi => wf i (by rw [grow_len] at hi; exact hi)
        have f := fo_w (k := k) g.ge (by omega) (fun i _ _ => wsl i) wf
        have wg : ∀ i, i < k → Wd D (5 * (wx + wp + 4) + 1) (at_ (wtdL (grow (stP xs p) k)) i) := fun i hi => wtdL_w g l7 aw i
        have f2 := fo_w (k := k) g.ge (by omega) (fun i _ _ => h1 i) wg
        have exF : Ex F2 (upd F o1 (.lst ws)) := eF.trans (Ex.new f1)
        have own : rLst (rQ K) (upd F o1 (.lst ws)) (.ref o1) (grow (stP xs p) k) := own_lst f1 r1
        have s := Wd.sub g.ge (f.mono g.one (w' := wx + wp + 2 + 5 * (wx + wp + 4)) (by omega)) (f2.mono g.one (w' := wx + wp + 2 + 5 * (wx + wp + 4)) (by omega))
        refine s_setE (Hk := F) (r := rQ K) (E.own (o := o1) (xs := ws) f1 (e_QQ
          (e_fold (n := k) (e_var (up exF hv2) rfl) (e_var own rfl) (e_var rfl rfl) rfl (by rw [List.length_map, wtdL_len]; omega) (by rw [grow_len]; exact Nat.le_refl _) (by omega) g (fun i _ _ => wsl i) wf (by omega))
          (e_fold (n := k) (e_var (up ((g1.k.trans g2.k).trans exF) ha) rfl) (EN.e (e_LL (e_var own rfl) (one7 g l7 aw (by omega)))) (e_var rfl rfl) rfl (by omega) (by rw [wtdL_len, grow_len]; exact Nat.le_refl _) (by omega) g (fun i _ _ => h1 i) wg (by omega))
          (s4 g f (by omega)) (s4 g f2 (by omega)) trivial) H5 (gF.f.trans e5) (e5 _ _ q1)) fun v6 H6 F6 g6 hv6 => ?_
        have g6' := (gF.trans (Grow.of gF.f e5)).trans g6
        have f6 : F6 o1 = none := by
          cases z : F6 o1 with
          | none => rfl
          | some u => have := g6.n o1 f1 (by rw [z]; exact fun z => nomatch z); rw [e5 _ _ q1] at this; cases this
        have st : (fo (at_ ((wtdL xs).map fun y => y * p)) (at_ (grow (stP xs p) k)) k - fo (at_ xs) (at_ (wtdL (grow (stP xs p) k))) k) * (1 / (k : Rat)) = stP xs p (grow (stP xs p) k) := by
          show _ = if (grow (stP xs p) k).length = 0 then _ else _
          rw [grow_len, if_neg z]
          rw [fo_congr (f := at_ ((wtdL xs).map fun y => y * p)) (f' := fun i => at_ xs i * (i : Rat) * p) (g := at_ (grow (stP xs p) k)) (g' := at_ (grow (stP xs p) k)) (fun i hi => by rw [at_map (by rw [wtdL_len]; omega), wtd_at (by omega)]) (fun i hi => rfl)]
          rw [fo_congr2 (f := at_ xs) (g := at_ (wtdL (grow (stP xs p) k))) (g' := wtd (at_ (grow (stP xs p) k))) (fun i hi => wtd_at (by rw [grow_len]; exact hi))]
        refine s_app (K := F6) (r := rQ K) rfl f6 (g6.h _ _ (e5 _ _ q1)) (by omega) g6.f ((e_QQ (e_var hv6 rfl) (e_1k (e_var rfl rfl) rfl z) (s4 g s (by omega)) (inv4 z (by omega)) trivial).as st) fun v8 H8 F8 g8 hv8 f8 => ?_
        refine ⟨_, _, F8, ws ++ [v8], rfl, Grow_mut (g6'.trans g8) f8 p0, e4.trans (g6.k.trans g8.k), f8, upd_same, by rw [List.length_append, l1]; rfl, ?_⟩
        exact p_app (p_up (g6.k.trans g8.k) r1) (.cons hv8 .nil)
    · rintro σ' H' ⟨x, t, F, ws, rfl, gF, e4, f1, q1, l1, r1⟩
      rw [Int.toNat_natCast] at r1
      exact s_retO rfl gF f1 p0 q1 r1 q rfl
  · exact s_dropX (x_chk (e_var ha rfl) (e_c (o_rep T Hk)) h7 o) ex q
/-! ### the series functions -/
abbrev rR (C : Addr) : Rp Rat := rRat C
theorem len4 {D M w : Nat} (g : Good D M) {xs : List Rat} (hl : xs.length ≤ 7) (h : Aw D w xs) (hw : w ≤ M) : Sm xs ∧ ∀ q ∈ xs, S4 q := ⟨by show xs.length ≤ 1000; omega, fun q hq => s4 g (h.at hq) hw⟩
/-- ratios_of(f(pairs_of(a))) -/
theorem e_wrap {T : Txt K mg} {σ : L2.St} {Hk : Hp} {te : TE} {ys : List Rat} {Ew : XK} (h : EN (rQ K) te σ Hk ys) (hs : Sm ys ∧ ∀ q ∈ ys, S4 q) : EN (rRat T.cR) (tCall (spLL (rQ K) (rRat T.cR) id fun xs => Sm xs ∧ ∀ q ∈ xs, S4 q) [] Ew (tCons te tNil)) σ Hk ys := e_LL h.e hs
theorem e_pairs {C : Addr} {σ : L2.St} {Hk : Hp} {ta : TE} {xs : List Rat} {Ew : XK} (h : E (rLst (rNum C)) ta σ Hk xs) (h7 : xs.length ≤ 7) : E (rLst (rQ K)) (tCall (spLL (rNum C) (rQ K) id Sm) [] Ew (tCons ta tNil)) σ Hk xs := (EN.e (e_LL h (show xs.length ≤ 1000 by omega)) : E (rLst (rQ K)) _ _ _ (id xs))
/-- sizes of what is told, too -/
abbrev Pre1 (f : List Rat → List Rat) (c d : Nat → Nat) (xs : List Rat) : Prop := xs.length ≤ 7 ∧ ∃ D M w, Good D M ∧ Aw D w xs ∧ c w ≤ M
theorem ok_exp_series (T : Txt K mg) : FnOk P w K mg base (L2N.CX P w) 6 T.d_exp_series.a T.d_exp_series.fd ["a"] (spLX T.cN (rNum T.cR) (rRat T.cR) expL (Sz fun w => 6 * (w + 3)) fun xs => okF xs 0) := by
  refine T.d_exp_series.F.okN sc_exp_series spLX_len (fun cdv A outer s H vs Q Ew hr h => ?_)
  obtain ⟨Hk, ex, va, xs, rfl, ha, pre, q⟩ := h
  refine ⟨_, (pss_one (ps_ret (pe_call (ok_ratios_of T) (hr.mono (by decide)) (by rfl) T.g_ratios_of T.d_ratios_of.F.kp T.d_ratios_of.b .nil pass0 (pa_cons (pe_call (ok_exp_of T) (hr.mono (by decide)) (by rfl) T.g_exp_of T.d_exp_of.F.kp T.d_exp_of.b .nil (L2N.passes_call (L2N.takes_of rfl rfl rfl rfl) (fun _ _ _ _ h => h)) (pa_cons (pe_call (ok_pairs_of T) (hr.mono (by decide)) (by rfl) T.g_pairs_of T.d_pairs_of.F.kp T.d_pairs_of.b .nil pass0 (pa_cons (pv 0) pa_nil)) pa_nil)) pa_nil)))), ?_⟩
  have pre' := pre
  obtain ⟨h7, D, M, wx, g, h1, hw⟩ := pre'
  rcases q with ⟨o, q⟩ | ⟨o, q⟩
  · exact s_retN (e_wrap (T := T) (e_LX (e_pairs (e_var ha rfl) h7) pre o) (len4 g (by rw [expL_len]; exact h7) (expL_W g h7 h1) hw)) ex q
  · exact s_retX (xx_in (xa_one (x_LX (e_pairs (e_var ha rfl) h7) pre o))) ex q
theorem ok_tan_series (T : Txt K mg) : FnOk P w K mg base (L2N.CX P w) 6 T.d_tan_series.a T.d_tan_series.fd ["a"] (spLX T.cN (rNum T.cR) (rRat T.cR) tanL (Sz fun w => 13 * (w + 4)) fun xs => okF xs 0) := by
  refine T.d_tan_series.F.okN sc_tan_series spLX_len (fun cdv A outer s H vs Q Ew hr h => ?_)
  obtain ⟨Hk, ex, va, xs, rfl, ha, pre, q⟩ := h
  refine ⟨_, (pss_one (ps_ret (pe_call (ok_ratios_of T) (hr.mono (by decide)) (by rfl) T.g_ratios_of T.d_ratios_of.F.kp T.d_ratios_of.b .nil pass0 (pa_cons (pe_call (ok_tan_of T) (hr.mono (by decide)) (by rfl) T.g_tan_of T.d_tan_of.F.kp T.d_tan_of.b .nil (L2N.passes_call (L2N.takes_of rfl rfl rfl rfl) (fun _ _ _ _ h => h)) (pa_cons (pe_call (ok_pairs_of T) (hr.mono (by decide)) (by rfl) T.g_pairs_of T.d_pairs_of.F.kp T.d_pairs_of.b .nil pass0 (pa_cons (pv 0) pa_nil)) pa_nil)) pa_nil)))), ?_⟩
  have pre' := pre
  obtain ⟨h7, D, M, wx, g, h1, hw⟩ := pre'
  have hw : 13 * (wx + 4) ≤ M := hw
  rcases q with ⟨o, q⟩ | ⟨o, q⟩
  · exact s_retN (e_wrap (T := T) (e_LX (e_pairs (e_var ha rfl) h7) pre o) (len4 g (by rw [tanL_len]; exact h7) (tanL_W g h7 h1) (by omega))) ex q
  · exact s_retX (xx_in (xa_one (x_LX (e_pairs (e_var ha rfl) h7) pre o))) ex q
theorem logL_W {D M w : Nat} (g : Good D M) {xs : List Rat} (h7 : xs.length ≤ 7) (h1 : Aw D w xs) (o : okF xs 1) : Aw D (8 * w + 23) (logL xs) := by
  by_cases hn : 0 < xs.length
  · have := smdL_w g (by rw [divL_len, slpL_len]; exact h7) (divL_W (wa := w + 1) (wb := w) (wi := 0) g (by rw [slpL_len]; exact h7) (slpL_w g h7 h1) h1 (inv_one g (o hn)))
    exact this.mono g.one (by omega)
  · exact Aw.of fun k hk => by rw [logL_len] at hk; omega
theorem atanL_W {D M w : Nat} (g : Good D M) {xs : List Rat} (h7 : xs.length ≤ 7) (h1 : Aw D w xs) (o : okF xs 0) : Aw D (15 * w + 37) (atanL xs) := by
  by_cases hn : 0 < xs.length
  · have u0 : at_ (addL (cstL 1 xs.length) (mulL xs xs)) 0 = 1 := by
      rw [add_at (by rw [cstL_len]; exact hn), cst_at hn, if_pos rfl, mul_at0 hn, o hn]; grind
    have wu := addL_w g.ge (cstL_w (n := xs.length) (q := 1) (w := w + w + 1) g.one (Wd.one g.one)) (mulL_w g.ge h7 h1 h1)
    have := smdL_w g (by rw [divL_len, slpL_len]; exact h7) (divL_W (wa := w + 1) (wb := w + w + 1 + 1) (wi := 0) g (by rw [slpL_len]; exact h7) (slpL_w g h7 h1) wu (inv_one g u0))
    exact this.mono g.one (by omega)
  · exact Aw.of fun k hk => by rw [atanL_len] at hk; omega
theorem arcL_W {D M w wi : Nat} (g : Good D M) {xs ys : List Rat} (h7 : xs.length ≤ 7) (h1 : Aw D w xs) (h2 : Aw D w ys) (h3 : 1 - at_ xs 0 * at_ ys 0 ≠ 0 → Wd D wi (1 / (1 - at_ xs 0 * at_ ys 0))) (o : okA xs ys) : Aw D (15 * w + 7 * wi + 36) (arcL xs ys) := by
  by_cases hn : 0 < xs.length
  · have wu := subL_w g.ge (cstL_w (n := xs.length) (q := 1) (w := w + w + 1) g.one (Wd.one g.one)) (mulL_w g.ge h7 h1 h2)
    have := divL_W (wa := w + 1) (wb := w + w + 1 + 1) (wi := wi) g (by rw [addL_len]; exact h7) (addL_w g.ge h1 h2) wu (by rw [arc_0 hn]; exact h3 (by have := o hn; grind))
    exact this.mono g.one (by omega)
  · exact Aw.of fun k hk => by rw [arcL_len] at hk; omega
theorem ok_log_series (T : Txt K mg) : FnOk P w K mg base (L2N.CX P w) 6 T.d_log_series.a T.d_log_series.fd ["a"] (spLX T.cN (rNum T.cR) (rRat T.cR) logL (fun xs => Sz (fun w => 8 * w + 23) xs) fun xs => okF xs 1) := by
  refine T.d_log_series.F.okN sc_log_series spLX_len (fun cdv A outer s H vs Q Ew hr h => ?_)
  obtain ⟨Hk, ex, va, xs, rfl, ha, ⟨h7, D, M, wx, g, h1, hw⟩, q⟩ := h
  have hw : 8 * wx + 23 ≤ M := hw
  refine ⟨_, (pss_one (ps_ret (pe_call (ok_ratios_of T) (hr.mono (by decide)) (by rfl) T.g_ratios_of T.d_ratios_of.F.kp T.d_ratios_of.b .nil pass0 (pa_cons (pe_call (ok_log_of T) (hr.mono (by decide)) (by rfl) T.g_log_of T.d_log_of.F.kp T.d_log_of.b .nil (L2N.passes_call (L2N.takes_of rfl rfl rfl rfl) (fun _ _ _ _ h => h)) (pa_cons (pe_call (ok_pairs_of T) (hr.mono (by decide)) (by rfl) T.g_pairs_of T.d_pairs_of.F.kp T.d_pairs_of.b .nil pass0 (pa_cons (pv 0) pa_nil)) pa_nil)) pa_nil)))), ?_⟩
  have pre : Sz (fun w => 8 * w + 22) xs := ⟨h7, D, M, wx, g, h1, by dsimp only; omega⟩
  rcases q with ⟨o, q⟩ | ⟨o, q⟩
  · exact s_retN (e_wrap (T := T) (e_LX (e_pairs (e_var ha rfl) h7) pre o) (len4 g (by rw [logL_len]; exact h7) (logL_W g h7 h1 o) (by omega))) ex q
  · exact s_retX (xx_in (xa_one (x_LX (e_pairs (e_var ha rfl) h7) pre o))) ex q
theorem ok_atan_series (T : Txt K mg) : FnOk P w K mg base (L2N.CX P w) 6 T.d_atan_series.a T.d_atan_series.fd ["a"] (spLX T.cN (rNum T.cR) (rRat T.cR) atanL (fun xs => Sz (fun w => 15 * w + 37) xs) fun xs => okF xs 0) := by
  refine T.d_atan_series.F.okN sc_atan_series spLX_len (fun cdv A outer s H vs Q Ew hr h => ?_)
  obtain ⟨Hk, ex, va, xs, rfl, ha, ⟨h7, D, M, wx, g, h1, hw⟩, q⟩ := h
  have hw : 15 * wx + 37 ≤ M := hw
  refine ⟨_, (pss_one (ps_ret (pe_call (ok_ratios_of T) (hr.mono (by decide)) (by rfl) T.g_ratios_of T.d_ratios_of.F.kp T.d_ratios_of.b .nil pass0 (pa_cons (pe_call (ok_atan_of T) (hr.mono (by decide)) (by rfl) T.g_atan_of T.d_atan_of.F.kp T.d_atan_of.b .nil (L2N.passes_call (L2N.takes_of rfl rfl rfl rfl) (fun _ _ _ _ h => h)) (pa_cons (pe_call (ok_pairs_of T) (hr.mono (by decide)) (by rfl) T.g_pairs_of T.d_pairs_of.F.kp T.d_pairs_of.b .nil pass0 (pa_cons (pv 0) pa_nil)) pa_nil)) pa_nil)))), ?_⟩
  have pre : Sz (fun w => 15 * w + 36) xs := ⟨h7, D, M, wx, g, h1, by dsimp only; omega⟩
  rcases q with ⟨o, q⟩ | ⟨o, q⟩
  · exact s_retN (e_wrap (T := T) (e_LX (e_pairs (e_var ha rfl) h7) pre o) (len4 g (by rw [atanL_len]; exact h7) (atanL_W g h7 h1 o) (by omega))) ex q
  · exact s_retX (xx_in (xa_one (x_LX (e_pairs (e_var ha rfl) h7) pre o))) ex q
def Pre2 (xs ys : List Rat) : Prop := xs.length = ys.length ∧ xs.length ≤ 7 ∧ ∃ D M w, Good D M ∧ Aw D w xs ∧ Aw D w ys ∧ w + w + 1 ≤ M
theorem ok_times2 (T : Txt K mg) : FnOk P w K mg base (L2N.CX P w) 6 T.d_times2.a T.d_times2.fd ["a", "b"] (spRX T.cN (rNum T.cR) (rLst (rNum T.cR)) (rRat T.cR) mulL Pre2 fun _ _ => True) := by
  refine T.d_times2.F.okN sc_times2 spRX_len (fun cdv A outer s H vs Q Ew hr h => ?_)
  obtain ⟨Hk, ex, va, vb, xs, ys, rfl, ha, hb, ⟨hl, h7, D, M, wx, g, h1, h2, hw⟩, q⟩ := h
  refine ⟨_, (pss_one (ps_ret (pe_call (ok_ratios_of T) (hr.mono (by decide)) (by rfl) T.g_ratios_of T.d_ratios_of.F.kp T.d_ratios_of.b .nil pass0 (pa_cons (pe_call (ok_times T) (hr.mono (by decide)) (by rfl) T.g_times_coefs T.d_times.F.kp T.d_times.b .nil pass0 (pa_cons (pe_call (ok_pairs_of T) (hr.mono (by decide)) (by rfl) T.g_pairs_of T.d_pairs_of.F.kp T.d_pairs_of.b .nil pass0 (pa_cons (pv 0) pa_nil)) (pa_cons (pe_call (ok_pairs_of T) (hr.mono (by decide)) (by rfl) T.g_pairs_of T.d_pairs_of.F.kp T.d_pairs_of.b .nil pass0 (pa_cons (pv 1) pa_nil)) pa_nil))) pa_nil)))), ?_⟩
  rcases q with ⟨_, q⟩ | ⟨o, _⟩
  · exact s_retN (e_wrap (T := T) (e_RR (e_pairs (e_var ha rfl) h7) (e_pairs (e_var hb rfl) (by omega)) ⟨hl, h7, D, M, wx, g, h1, h2, hw⟩) (len4 g (by rw [mulL_len]; exact h7) (mulL_w g.ge h7 h1 h2) hw)) ex q
  · exact absurd trivial o
theorem ok_over2 (T : Txt K mg) : FnOk P w K mg base (L2N.CX P w) 6 T.d_over2.a T.d_over2.fd ["a", "b"] (spRX T.cN (rNum T.cR) (rLst (rNum T.cR)) (rRat T.cR) divL PreD okD) := by
  refine T.d_over2.F.okN sc_over2 spRX_len (fun cdv A outer s H vs Q Ew hr h => ?_)
  obtain ⟨Hk, ex, va, vb, xs, ys, rfl, ha, hb, pre, q⟩ := h
  refine ⟨_, (pss_one (ps_ret (pe_call (ok_ratios_of T) (hr.mono (by decide)) (by rfl) T.g_ratios_of T.d_ratios_of.F.kp T.d_ratios_of.b .nil pass0 (pa_cons (pe_call (ok_over T) (hr.mono (by decide)) (by rfl) T.g_over_coefs T.d_over.F.kp T.d_over.b .nil (L2N.passes_call (L2N.takes_of rfl rfl rfl rfl) (fun _ _ _ _ h => h)) (pa_cons (pe_call (ok_pairs_of T) (hr.mono (by decide)) (by rfl) T.g_pairs_of T.d_pairs_of.F.kp T.d_pairs_of.b .nil pass0 (pa_cons (pv 0) pa_nil)) (pa_cons (pe_call (ok_pairs_of T) (hr.mono (by decide)) (by rfl) T.g_pairs_of T.d_pairs_of.F.kp T.d_pairs_of.b .nil pass0 (pa_cons (pv 1) pa_nil)) pa_nil))) pa_nil)))), ?_⟩
  have pre' := pre
  obtain ⟨hl, h7, D, M, wa, wb, wi, g, h1, h2, h3, hw⟩ := pre'
  rcases q with ⟨o, q⟩ | ⟨o, q⟩
  · have wd : Aw D (wa + 7 * (wb + wi + 3)) (divL xs ys) := by
      by_cases hn : 0 < xs.length
      · exact divL_W g h7 h1 h2 (h3 (o hn))
      · exact Aw.of fun k hk => by rw [divL_len] at hk; omega
    exact s_retN (e_wrap (T := T) (e_RX (e_pairs (e_var ha rfl) h7) (e_pairs (e_var hb rfl) (by omega)) pre o) (len4 g (by rw [divL_len]; exact h7) wd hw)) ex q
  · exact s_retX (xx_in (xa_one (x_RX (e_pairs (e_var ha rfl) h7) (e_pairs (e_var hb rfl) (by omega)) pre o))) ex q
theorem ok_arcs_added (T : Txt K mg) : FnOk P w K mg base (L2N.CX P w) 6 T.d_arcs_added.a T.d_arcs_added.fd ["a", "b"] (spRX T.cN (rNum T.cR) (rLst (rNum T.cR)) (rRat T.cR) arcL PreA okA) := by
  refine T.d_arcs_added.F.okN sc_arcs_added spRX_len (fun cdv A outer s H vs Q Ew hr h => ?_)
  obtain ⟨Hk, ex, va, vb, xs, ys, rfl, ha, hb, pre, q⟩ := h
  refine ⟨_, (pss_one (ps_ret (pe_call (ok_ratios_of T) (hr.mono (by decide)) (by rfl) T.g_ratios_of T.d_ratios_of.F.kp T.d_ratios_of.b .nil pass0 (pa_cons (pe_call (ok_arcs_of T) (hr.mono (by decide)) (by rfl) T.g_arcs_of T.d_arcs_of.F.kp T.d_arcs_of.b .nil (L2N.passes_call (L2N.takes_of rfl rfl rfl rfl) (fun _ _ _ _ h => h)) (pa_cons (pe_call (ok_pairs_of T) (hr.mono (by decide)) (by rfl) T.g_pairs_of T.d_pairs_of.F.kp T.d_pairs_of.b .nil pass0 (pa_cons (pv 0) pa_nil)) (pa_cons (pe_call (ok_pairs_of T) (hr.mono (by decide)) (by rfl) T.g_pairs_of T.d_pairs_of.F.kp T.d_pairs_of.b .nil pass0 (pa_cons (pv 1) pa_nil)) pa_nil))) pa_nil)))), ?_⟩
  have pre' := pre
  obtain ⟨hl, h7, D, M, wx, wi, g, h1, h2, h3, hw⟩ := pre'
  rcases q with ⟨o, q⟩ | ⟨o, q⟩
  · exact s_retN (e_wrap (T := T) (e_RX (e_pairs (e_var ha rfl) h7) (e_pairs (e_var hb rfl) (by omega)) pre o) (len4 g (by rw [arcL_len]; exact h7) (arcL_W g h7 h1 h2 h3 o) hw)) ex q
  · exact s_retX (xx_in (xa_one (x_RX (e_pairs (e_var ha rfl) h7) (e_pairs (e_var hb rfl) (by omega)) pre o))) ex q
theorem e_ofn {C : Addr} {σ : L2.St} {Hk : Hp} {ta : TE} {p : Rat} {Ew : XK} (h : E (rNum C) ta σ Hk p) : E (rQ K) (tCall (spOf K C) [] Ew (tCons ta tNil)) σ Hk p :=
  e_call (ea_cons h ea_nil) fun F H vs Q ex hv k => by
    obtain ⟨v, ws, rfl, hv, hn⟩ := hv
    cases hn
    exact ⟨F, ex, v, p, rfl, hv, k⟩
theorem ok_power_series (T : Txt K mg) : FnOk P w K mg base (L2N.CX P w) 6 T.d_power_series.a T.d_power_series.fd ["a", "number"] (spRX T.cN (rNum T.cR) (rNum T.cR) (rRat T.cR) powL PreP okP) := by
  refine T.d_power_series.F.okN sc_power_series spRX_len (fun cdv A outer s H vs Q Ew hr h => ?_)
  obtain ⟨Hk, ex, va, vp, xs, p, rfl, ha, hp, pre, q⟩ := h
  refine ⟨_, (pss_one (ps_ret (pe_call (ok_ratios_of T) (hr.mono (by decide)) (by rfl) T.g_ratios_of T.d_ratios_of.F.kp T.d_ratios_of.b .nil pass0 (pa_cons (pe_call (ok_power_of T) (hr.mono (by decide)) (by rfl) T.g_power_of T.d_power_of.F.kp T.d_power_of.b .nil (L2N.passes_call (L2N.takes_of rfl rfl rfl rfl) (fun _ _ _ _ h => h)) (pa_cons (pe_call (ok_pairs_of T) (hr.mono (by decide)) (by rfl) T.g_pairs_of T.d_pairs_of.F.kp T.d_pairs_of.b .nil pass0 (pa_cons (pv 0) pa_nil)) (pa_cons (pe_call (ok_of_number T) (hr.mono (by decide)) (by rfl) T.g_of_number T.d_of_number.F.kp T.d_of_number.b .nil pass0 (pa_cons (pv 1) pa_nil)) pa_nil))) pa_nil)))), ?_⟩
  have pre' := pre
  obtain ⟨h7, D, M, wx, wp, g, h1, h2, hw⟩ := pre'
  rcases q with ⟨o, q⟩ | ⟨o, q⟩
  · exact s_retN (e_wrap (T := T) (e_RX (e_pairs (e_var ha rfl) h7) (e_ofn (e_var hp rfl)) pre o) (len4 g (by rw [powL_len]; exact h7) (powL_W g h7 h1 h2) hw)) ex q
  · exact s_retX (xx_in (xa_one (x_RX (e_pairs (e_var ha rfl) h7) (e_ofn (e_var hp rfl)) pre o))) ex q
end
end Y8

set_option Elab.async false
set_option linter.all false
set_option maxRecDepth 100000
set_option maxHeartbeats 2000000
/-! # The law's own functions: what is compared -/
namespace Y8
open PySem L2 Y Ser
section
variable {P : Program} {w : World} {K : PySem.W.Frag} {mg : Str → Option Value} {base : Heap}
theorem e_eqS {σ : L2.St} {Hk : Hp} {ta tb : TE} {a b : Str} (ha : E rStr ta σ Hk a) (hb : E rStr tb σ Hk b) : E rBl (tOp rEq ta tb) σ Hk (decide (a = b)) :=
  fun H e Q q => two ha hb H e _ fun v w H2 F g hv hw => by
    cases hv; cases hw
    refine ⟨rfl, q _ H2 F g ?_⟩
    show V.bl _ = V.bl _
    simp
theorem e_neS {σ : L2.St} {Hk : Hp} {ta tb : TE} {a b : Str} (ha : E rStr ta σ Hk a) (hb : E rStr tb σ Hk b) : E rBl (tOp rNe ta tb) σ Hk (!decide (a = b)) :=
  fun H e Q q => two ha hb H e _ fun v w H2 F g hv hw => by
    cases hv; cases hw
    refine ⟨rfl, q _ H2 F g ?_⟩
    show V.bl _ = V.bl _
    simp
theorem kSB : PySem.W.kitOne K (.type "str") (.type "bool") = some false := kit_ty (by decide +kernel)
theorem kSI : PySem.W.kitOne K (.type "str") (.type "int") = some false := kit_ty (by decide +kernel)
theorem kSS : PySem.W.kitOne K (.type "str") (.type "str") = some true := kit_ty (by decide +kernel)
theorem kLS : PySem.W.kitOne K (.type "list") (.type "str") = some false := kit_ty (by decide +kernel)
theorem kLL : PySem.W.kitOne K (.type "list") (.type "list") = some true := kit_ty (by decide +kernel)
/-- two equal texts -/
def spLike : Sp := fun vs H Q _ => ∃ Hk, Ex Hk H ∧ ∃ z : Str, vs = [.str z, .str z] ∧ Res rBl Hk H true Q
theorem ok__law_like (T : Txt K mg) : FnOk P w K mg base CX0 2 T.d__law_like.a T.d__law_like.fd ["told", "due"] spLike := by
  refine T.d__law_like.F.ok sc__law_like (fun vs H Q Ew h => ?_) (fun cdv A outer s H vs Q Ew hr h => ?_)
  · obtain ⟨_, _, z, rfl, _⟩ := h; rfl
  · obtain ⟨Hk, ex, z, rfl, q⟩ := h
    refine ⟨_, (pss_cons (ps_if (pt_val (pe_callB (c_isiK (K := K) rfl) (by rfl) T.n_isinstance (by decide +kernel) (pa_cons (pv 1) (pa_cons (pe_bltn (v := .ty "bool") (by rfl) T.n_bool (by decide +kernel) rfl) pa_nil)))) (pss_one (ps_ret (pe_and (pe_callB (c_isiK (K := K) rfl) (by rfl) T.n_isinstance (by decide +kernel) (pa_cons (pv 0) (pa_cons (pe_bltn (v := .ty "bool") (by rfl) T.n_bool (by decide +kernel) rfl) pa_nil))) (pe_one (pe_cmpR op_eq (pv 0) (pv 1) (nomark _)))))) pss_nil)
      (pss_cons (ps_if (pt_val (pe_callB (c_isiK (K := K) rfl) (by rfl) T.n_isinstance (by decide +kernel) (pa_cons (pv 1) (pa_cons (pe_bltn (v := .ty "int") (by rfl) T.n_int (by decide +kernel) rfl) pa_nil)))) (pss_one (ps_ret (pe_and (pe_call (ok__law_whole T) (hr.mono (by decide)) (by rfl) T.g__law_whole T.d__law_whole.F.kp T.d__law_whole.b .nil pass0 (pa_cons (pv 0) pa_nil)) (pe_one (pe_cmpR op_eq (pv 0) (pv 1) (nomark _)))))) pss_nil)
      (pss_cons (ps_if (pt_val (pe_callB (c_isiK (K := K) rfl) (by rfl) T.n_isinstance (by decide +kernel) (pa_cons (pv 1) (pa_cons (pe_bltn (v := .ty "str") (by rfl) T.n_str (by decide +kernel) rfl) pa_nil)))) (pss_one (ps_ret (pe_and (pe_callB (c_isiK (K := K) rfl) (by rfl) T.n_isinstance (by decide +kernel) (pa_cons (pv 0) (pa_cons (pe_bltn (v := .ty "str") (by rfl) T.n_str (by decide +kernel) rfl) pa_nil))) (pe_one (pe_cmpR op_eq (pv 0) (pv 1) (nomark _)))))) pss_nil)
      pss_never))), ?_⟩
    have v0 : E rStr (tVar 0) (L2.start ["told", "due", "k"] [.str z, .str z]) Hk z := e_var rfl rfl
    have v1 : E rStr (tVar 1) (L2.start ["told", "due", "k"] [.str z, .str z]) Hk z := e_var rfl rfl
    refine s_if (K := Hk) (b := false) (t_b (e_isi v1 (.ty _) ty_str kSB)) ex (fun c => nomatch c) (fun _ H1 e1 => ?_)
    refine s_if (K := Hk) (b := false) (t_b (e_isi v1 (.ty _) ty_str kSI)) (ex.trans e1) (fun c => nomatch c) (fun _ H2 e2 => ?_)
    refine s_if (K := Hk) (b := true) (t_b (e_isi v1 (.ty _) ty_str kSS)) ((ex.trans e1).trans e2) (fun _ H3 e3 => ?_) (fun c => nomatch c)
    exact s_ret ((e_andV (e_isi v0 (.ty _) ty_str kSS) fun _ => e_eqS v0 v1).as (by simp)) (((ex.trans e1).trans e2).trans e3) (Res.at ex ((e1.trans e2).trans e3) q)
theorem e_like {σ : L2.St} {Hk : Hp} {ta tb : TE} {z : Str} {Ew : XK} (ha : E rStr ta σ Hk z) (hb : E rStr tb σ Hk z) : E rBl (tCall spLike [] Ew (tCons ta (tCons tb tNil))) σ Hk true :=
  e_call (ea_cons ha (ea_cons hb ea_nil)) fun F H vs Q ex hp r => by
    obtain ⟨v, ws, rfl, hv, v2, ws2, rfl, hv2, hn⟩ := hp
    cases hv; cases hv2; cases hn
    exact ⟨F, ex, z, rfl, r⟩
theorem e_lwhole {σ : L2.St} {Hk : Hp} {ta : TE} {n : Int} {Ew : XK} (ha : E rInt ta σ Hk n) : E rBl (tCall spWhole [] Ew (tCons ta tNil)) σ Hk true := e_whole ha
/-- a Ratio and its fraction -/
def spRat1 (K : PySem.W.Frag) (C : Addr) : Sp := fun vs H Q _ => ∃ Hk, Ex Hk H ∧ ∃ v u q, vs = [v, u] ∧ rRat C Hk v q ∧ rQ K Hk u q ∧ Res rBl Hk H true Q
theorem ok__law_ratio (T : Txt K mg) : FnOk P w K mg base CX0 2 T.d__law_ratio.a T.d__law_ratio.fd ["told", "u"] (spRat1 K T.cR) := by
  refine T.d__law_ratio.F.ok sc__law_ratio (fun vs H Q Ew h => ?_) (fun cdv A outer s H vs Q Ew hr h => ?_)
  · obtain ⟨_, _, _, _, _, rfl, _⟩ := h; rfl
  · obtain ⟨Hk, ex, v, u, x, rfl, hv, hu, q⟩ := h
    refine ⟨_, (pss_cons (ps_if (PW.pt (pw_or (pt_not (pt_val (pe_callB (c_isiK (K := K) rfl) (by rfl) T.n_isinstance (by decide +kernel) (pa_cons (pv 0) (pa_cons (pe_glob (v := .ref T.cR) rfl T.g_Ratio rfl) pa_nil))))) (pw_or (pt_not (pt_val (pe_call (ok__law_whole T) (hr.mono (by decide)) (by rfl) T.g__law_whole T.d__law_whole.F.kp T.d__law_whole.b .nil pass0 (pa_cons (pe_fldK (K := K) rfl (pv 0) rfl) pa_nil)))) (pw_or1 (pt_not (pt_val (pe_call (ok__law_whole T) (hr.mono (by decide)) (by rfl) T.g__law_whole T.d__law_whole.F.kp T.d__law_whole.b .nil pass0 (pa_cons (pe_fldK (K := K) rfl (pv 0) rfl) pa_nil)))))))) (pss_one (ps_ret pe_bl)) pss_nil)
      (pss_one (ps_ret (pe_and (pe_cmpR op_eq (pe_fldK (K := K) rfl (pv 0) rfl) (pe_ix (ix_tupK (K := K) rfl) (pv 1) pe_int (fun _ _ => rfl)) (nomark _)) (pe_one (pe_cmpR op_eq (pe_fldK (K := K) rfl (pv 0) rfl) (pe_ix (ix_tupK (K := K) rfl) (pv 1) pe_int (fun _ _ => rfl)) (nomark _))))))), ?_⟩
    have v0 : E (rRat T.cR) (tVar 0) (L2.start ["told", "u"] [v, u]) Hk x := e_var hv rfl
    have v1 : E (rQ K) (tVar 1) (L2.start ["told", "u"] [v, u]) Hk x := e_var hu rfl
    refine s_if (K := Hk) (b := false) ((t_or (t_not (t_b (e_isi v0 (.own _) (ty_rat T) kRR))) fun _ => t_or (t_not (t_b (e_whole (e_ftop T v0)))) fun _ => t_not (t_b (e_whole (e_fbot T v0)))).as rfl) ex (fun c => nomatch c) (fun _ H1 e1 => ?_)
    exact s_ret ((e_andV (e_eqI (e_ftop T v0) (e_top v1)) fun _ => e_eqI (e_fbot T v0) (e_bot v1)).as (by simp)) (ex.trans e1) (Res.at ex e1 q)
theorem e_rat1 {C : Addr} {σ : L2.St} {Hk : Hp} {ta tb : TE} {x : Rat} {Ew : XK} (ha : E (rRat C) ta σ Hk x) (hb : E (rQ K) tb σ Hk x) : E rBl (tCall (spRat1 K C) [] Ew (tCons ta (tCons tb tNil))) σ Hk true :=
  e_call (ea_cons ha (ea_cons hb ea_nil)) fun F H vs Q ex hp r => by
    obtain ⟨v, ws, rfl, hv, v2, ws2, rfl, hv2, hn⟩ := hp
    cases hn
    exact ⟨F, ex, v, v2, x, rfl, hv, hv2, r⟩
/-! ### [] -/
theorem sh_row (xs : List Rat) : SeqAt.shaped (.list (xs.map qD)) = true := by
  have h : PyData.canLayAll0 (xs.map qD) = true ∧ PyData.depthAll (xs.map qD) ≤ 1 := by
    induction xs with
    | nil => exact ⟨rfl, Nat.zero_le _⟩
    | cons x t ih => exact ⟨by show (true && PyData.canLayAll0 (t.map qD)) = true; rw [ih.1]; rfl, by show max 1 (PyData.depthAll (t.map qD)) ≤ 1; have := ih.2; omega⟩
  show (PyData.canLayAll0 (xs.map qD) && decide (PyData.depthAll (xs.map qD) + 1 ≤ 64)) = true
  rw [h.1, Bool.true_and, decide_eq_true_eq]
  have := h.2
  omega
theorem dp_row {H : Hp} : ∀ {vs : List V} {xs : List Rat}, Paired (rQ K H) vs xs → DpAll K H vs (xs.map qD)
  | _, _, .nil => .nil
  | _, _, .cons h t => .cons (dp_q h) (dp_row t)
theorem e_neNil {α : Type} {s : Rp α} [Mono s] {σ : L2.St} {Hk : Hp} {ta tb : TE} {xs : List Rat} (ha : E (rLst (rQ K)) ta σ Hk xs) (hb : EN s tb σ Hk []) : E rBl (tOp (rNeD K) ta tb) σ Hk (!decide (xs = [])) :=
  fun H e Q q => two ha hb.e H e _ fun v w H2 F g ⟨a, vs, ha, hl, hp⟩ ⟨b, ws, hb, hl', hp'⟩ => by
    cases hp'; subst ha; subst hb
    refine ⟨_, _, .lst (sq_of (g.f _ _ hl)) (dp_row (p_up g.f hp)), .lst (sq_of (g.f _ _ hl')) .nil, sh_row _, rfl, q _ H2 F g ?_⟩
    cases xs <;> rfl
theorem e_eqNil {α : Type} {s : Rp α} [Mono s] {σ : L2.St} {Hk : Hp} {ta tb : TE} {xs : List Rat} (ha : E (rLst (rQ K)) ta σ Hk xs) (hb : EN s tb σ Hk []) : E rBl (tOp (rEqD K) ta tb) σ Hk (decide (xs = [])) :=
  fun H e Q q => two ha hb.e H e _ fun v w H2 F g ⟨a, vs, ha, hl, hp⟩ ⟨b, ws, hb, hl', hp'⟩ => by
    cases hp'; subst ha; subst hb
    refine ⟨_, _, .lst (sq_of (g.f _ _ hl)) (dp_row (p_up g.f hp)), .lst (sq_of (g.f _ _ hl')) .nil, sh_row _, rfl, q _ H2 F g ?_⟩
    cases xs <;> rfl
theorem e_nilNil {α β : Type} {r : Rp α} {s : Rp β} [Mono r] [Mono s] {σ : L2.St} {Hk : Hp} {ta tb : TE} (ha : EN r ta σ Hk []) (hb : EN s tb σ Hk []) : E rBl (tOp (rEqD K) ta tb) σ Hk true :=
  fun H e Q q => two ha.e hb.e H e _ fun v w H2 F g ⟨a, vs, ha, hl, hp⟩ ⟨b, ws, hb, hl', hp'⟩ => by
    cases hp; cases hp'; subst ha; subst hb
    exact ⟨_, _, .lst (sq_of (g.f _ _ hl)) .nil, .lst (sq_of (g.f _ _ hl')) .nil, rfl, rfl, q _ H2 F g rfl⟩
/-- a list of Ratios and its fractions -/
def spRats (K : PySem.W.Frag) (C : Addr) : Sp := fun vs H Q _ => ∃ Hk, Ex Hk H ∧ ∃ v u xs, vs = [v, u] ∧ rLst (rRat C) Hk v xs ∧ rLst (rQ K) Hk u xs ∧ xs.length ≤ 1000 ∧ Res rBl Hk H true Q
theorem ok__law_ratios (T : Txt K mg) : FnOk P w K mg base CX0 3 T.d__law_ratios.a T.d__law_ratios.fd ["told", "due"] (spRats K T.cR) := by
  refine T.d__law_ratios.F.ok sc__law_ratios (fun vs H Q Ew h => ?_) (fun cdv A outer s H vs Q Ew hr h => ?_)
  · obtain ⟨_, _, _, _, _, rfl, _⟩ := h; rfl
  · obtain ⟨Hk, ex, v, u, xs, rfl, hv, hu, hl, q⟩ := h
    refine ⟨_, (pss_cons (ps_if (PW.pt (pw_or (pt_not (pt_val (pe_callB (c_isiK (K := K) rfl) (by rfl) T.n_isinstance (by decide +kernel) (pa_cons (pv 0) (pa_cons (pe_bltn (v := .ty "list") (by rfl) T.n_list (by decide +kernel) rfl) pa_nil))))) (pw_or1 (pt_cmpR op_ne (pe_callB (c_lenK (K := K) rfl) (by rfl) T.n_len (by decide +kernel) (pa_cons (pv 0) pa_nil)) (pe_callB (c_lenK (K := K) rfl) (by rfl) T.n_len (by decide +kernel) (pa_cons (pv 1) pa_nil)) (nomark _))))) (pss_one (ps_ret pe_bl)) pss_nil)
      (pss_one (ps_ret (pe_cmpR (op_eqD hr.units) (pe_lc (own := [("k", 2)]) (g := gName 2) rfl sc__law_ratios.nd (pi_range1 (by rfl) T.n_range (pa_cons (pe_callB (c_lenK (K := K) rfl) (by rfl) T.n_len (by decide +kernel) (pa_cons (pv 1) pa_nil)) pa_nil)) (blkOk_by (N := ["told", "due", "k"]) (sc := defScope s__law_ratios) (by decide +kernel)) (fun _ _ _ _ _ => (pg_name (i := 2) sc__law_ratios.nd rfl (Or.inl rfl) (hf := Or.inr rfl))) (fun _ _ _ _ _ => (pts_one (pt_not (pt_val (pe_call (ok__law_ratio T) (hr.mono (by decide)) (by rfl) T.g__law_ratio T.d__law_ratio.F.kp T.d__law_ratio.b .nil pass0 (pa_cons (pe_ix (ix_listK (K := K) rfl) (pv 0) (pv 2) (fun _ _ => rfl)) (pa_cons (pe_ix (ix_listK (K := K) rfl) (pv 1) (pv 2) (fun _ _ => rfl)) pa_nil))))))) (fun _ _ _ _ _ => (pv 2))) (pe_lst pa_nil) (nomark _))))), ?_⟩
    have v0 : E (rLst (rRat T.cR)) (tVar 0) (L2.start ["told", "due", "k"] [v, u]) Hk xs := e_var hv rfl
    have v1 : E (rLst (rQ K)) (tVar 1) (L2.start ["told", "due", "k"] [v, u]) Hk xs := e_var hu rfl
    refine s_if (K := Hk) (b := false) ((t_or (t_not (t_b (e_isi v0 (.ty _) ty_lst kLL))) fun _ => t_test (e_neI (e_len v0) (e_len v1))).as (by simp)) ex (fun c => nomatch c) (fun _ H1 e1 => ?_)
    refine s_ret (e_nilNil (r := rInt) (s := rInt) (EN.as (en_lc (f := fun i => (i : Int)) (p := fun _ => false) (it_range1 (n := (xs.length : Int)) (e_len v1) (by omega) (by omega)) (by omega) fun i vi F hi e hv' => ?_) (by simp)) en_nil) (ex.trans e1) (Res.at ex e1 q)
    cases hv'
    have hi' : i < xs.length := by omega
    have g0 : E (rRat T.cR) (tOp (rIxL K) (tVar 0) (tVar 2)) [some v, some u, some (.int (i : Int))] F (at_ xs i) := e_at (k := (i : Int)) (e_var (up e hv) rfl) (e_var rfl rfl) (by omega) (by rw [Int.toNat_natCast]; exact at_get hi')
    have g1 : E (rQ K) (tOp (rIxL K) (tVar 1) (tVar 2)) [some v, some u, some (.int (i : Int))] F (at_ xs i) := e_at (k := (i : Int)) (e_var (up e hu) rfl) (e_var rfl rfl) (by omega) (by rw [Int.toNat_natCast]; exact at_get hi')
    exact ⟨_, tg_name, rfl, t_not (t_b (e_rat1 g0 g1)), fun c => nomatch c⟩
theorem e_rats {C : Addr} {σ : L2.St} {Hk : Hp} {ta tb : TE} {xs : List Rat} {Ew : XK} (ha : E (rLst (rRat C)) ta σ Hk xs) (hb : E (rLst (rQ K)) tb σ Hk xs) (hl : xs.length ≤ 1000) : E rBl (tCall (spRats K C) [] Ew (tCons ta (tCons tb tNil))) σ Hk true :=
  e_call (ea_cons ha (ea_cons hb ea_nil)) fun F H vs Q ex hp r => by
    obtain ⟨v, ws, rfl, hv, v2, ws2, rfl, hv2, hn⟩ := hp
    cases hn
    exact ⟨F, ex, v, v2, xs, rfl, hv, hv2, hl, r⟩
end
end Y8

set_option Elab.async false
set_option linter.all false
set_option maxRecDepth 100000
set_option maxHeartbeats 2000000
/-! # The law's own series: products, quotients, sums -/
namespace Y8
open PySem L2 Y Ser
section
variable {P : Program} {w : World} {K : PySem.W.Frag} {mg : Str → Option Value} {base : Heap}
/-- the sum of a[i] b[k - i] for i below high -/
def dt (f g : Nat → Rat) (high k : Nat) : Rat := sm (fun i => f i * g (k - i)) high
theorem dt_fo (f g : Nat → Rat) (k : Nat) : dt f g k k = fo g f k := by
  unfold dt fo
  rw [← sm_rev]
  refine sm_congr fun i hi => ?_
  show f (k - 1 - i) * g (k - (k - 1 - i)) = g (i + 1) * f (k - (i + 1))
  rw [show k - 1 - i = k - (i + 1) by omega, show k - (k - (i + 1)) = i + 1 by omega, Rat.mul_comm]
theorem dt_w {D w w' : Nat} {f g : Nat → Rat} (hD : 8 ≤ D) {n k : Nat} (hn : n ≤ 8) (hf : ∀ i, i < n → Wd D w (f i)) (hg : ∀ i, i < n → Wd D w' (g (k - i))) : Wd D (w + w' + 1) (dt f g n k) := Wd.sm hD hn fun i hi => (hf i hi).mul (hg i hi)
theorem z_pair {σ : L2.St} {Hk : Hp} : E (rQ K) (tTup (tCons (tC (.int 0)) (tCons (tC (.int 1)) tNil))) σ Hk (0 : Rat) := e_pair e_int e_int rfl rfl
theorem o_pair {σ : L2.St} {Hk : Hp} : E (rQ K) (tTup (tCons (tC (.int 1)) (tCons (tC (.int 1)) tNil))) σ Hk (1 : Rat) := e_pair e_int e_int rfl rfl
def spDot (K : PySem.W.Frag) : Sp := fun vs H Q _ => ∃ Hk, Ex Hk H ∧ ∃ va vb xs ys, ∃ n k : Nat, vs = [va, vb, .int (n : Int), .int (k : Int)] ∧ rLst (rQ K) Hk va xs ∧ rLst (rQ K) Hk vb ys ∧ n ≤ xs.length ∧ k < ys.length ∧ n ≤ k + 1 ∧ n ≤ 7 ∧
  (∃ D M w w', Good D M ∧ (∀ i, i < n → Wd D w (at_ xs i)) ∧ (∀ i, i < n → Wd D w' (at_ ys (k - i))) ∧ w + w' + 1 ≤ M) ∧ Res (rQ K) Hk H (dt (at_ xs) (at_ ys) n k) Q
theorem ok__law_dot (T : Txt K mg) : FnOk P w K mg base CX0 3 T.d__law_dot.a T.d__law_dot.fd ["a", "b", "high", "k"] (spDot K) := by
  refine T.d__law_dot.F.ok sc__law_dot (fun vs H Q Ew h => ?_) (fun cdv A outer s H vs Q Ew hr h => ?_)
  · obtain ⟨_, _, _, _, _, _, _, _, rfl, _⟩ := h; rfl
  · obtain ⟨Hk, ex, va, vb, xs, ys, n, k, rfl, ha, hb, hx, hy, hk, h7, ⟨D, M, w1, w2, g, h1, h2, hw⟩, q⟩ := h
    refine ⟨_, (pss_cons (ps_set (i := 4) sc__law_dot.nd rfl (Or.inl rfl) (pe_tup (pa_cons pe_int (pa_cons pe_int pa_nil))))
      (pss_cons (ps_for PassesOwn.never rfl (pi_range1 (by rfl) T.n_range (pa_cons (pv 2) pa_nil)) (pg_name (i := 5) sc__law_dot.nd rfl (Or.inl rfl) (hf := Or.inr rfl))
      (pss_one (ps_if (PW.pt (pw_and (pt_cmpR op_ne (pe_ix (ix_tupK (K := K) rfl) (pe_ix (ix_listK (K := K) rfl) (pv 0) (pv 5) (fun _ _ => rfl)) pe_int (fun _ _ => rfl)) pe_int (nomark _)) (pw_and1 (pt_cmpR op_ne (pe_ix (ix_tupK (K := K) rfl) (pe_ix (ix_listK (K := K) rfl) (pv 1) (pe_op op_sub (pv 3) (pv 5)) (fun _ _ => rfl)) pe_int (fun _ _ => rfl)) pe_int (nomark _))))) (pss_one (ps_set (i := 4) sc__law_dot.nd rfl (Or.inl rfl) (pe_call (ok__law_plus T) (hr.mono (by decide)) (by rfl) T.g__law_plus T.d__law_plus.F.kp T.d__law_plus.b .nil pass0 (pa_cons (pv 4) (pa_cons (pe_call (ok__law_by T) (hr.mono (by decide)) (by rfl) T.g__law_by T.d__law_by.F.kp T.d__law_by.b .nil pass0 (pa_cons (pe_ix (ix_listK (K := K) rfl) (pv 0) (pv 5) (fun _ _ => rfl)) (pa_cons (pe_ix (ix_listK (K := K) rfl) (pv 1) (pe_op op_sub (pv 3) (pv 5)) (fun _ _ => rfl)) pa_nil))) pa_nil))))) pss_nil)))
      (pss_one (ps_ret (pv 4))))), ?_⟩
    refine s_set (r := rQ K) z_pair ex fun v H1 F g1 hv => ?_
    have part : ∀ m, m ≤ n → Wd D (w1 + w2 + 1) (dt (at_ xs) (at_ ys) m k) := fun m hm => dt_w g.ge (by omega) (fun i hi => h1 i (by omega)) fun i hi => h2 i (by omega)
    refine s_forR1 (K := F) (n := (n : Int)) (e_var rfl rfl) (by omega) (by omega) g1.f
      (fun i σ' H' => i ≤ n ∧ ∃ F' vt v5, Grow Hk H F' H' ∧ σ' = [some va, some vb, some (.int (n : Int)), some (.int (k : Int)), some vt, v5] ∧ rQ K F' vt (dt (at_ xs) (at_ ys) i k))
      (fun H2 e2 => ⟨Nat.zero_le _, F, v, none, g1.trans (Grow.of g1.f e2), rfl, hv⟩) ?_ ?_
    · rintro i σ' H' hi ⟨_, F', vt, v5, g2, rfl, ht⟩
      have hi' : i < n := by omega
      have ea : E (rQ K) (tOp (rIxL K) (tVar 0) (tVar 5)) [some va, some vb, some (V.int (n : Int)), some (V.int (k : Int)), some vt, some (V.int (i : Int))] F' (at_ xs i) :=
        e_at (k := (i : Int)) (e_var (up g2.k ha) rfl) (e_var rfl rfl) (by omega) (by rw [Int.toNat_natCast]; exact at_get (by omega))
      have eb : E (rQ K) (tOp (rIxL K) (tVar 1) (tOp (rI0 fun i j => .int (i - j)) (tVar 3) (tVar 5))) [some va, some vb, some (V.int (n : Int)), some (V.int (k : Int)), some vt, some (V.int (i : Int))] F' (at_ ys (k - i)) :=
        e_at (k := (k : Int) - (i : Int)) (e_var (up g2.k hb) rfl) (e_i0 (e_var rfl rfl) (e_var rfl rfl)) (by omega) (by rw [show ((k : Int) - (i : Int)).toNat = k - i by omega]; exact at_get (by omega))
      refine s_if (K := F') (t_and (t_test (e_neI (e_top ea) e_int)) fun _ => t_test (e_neI (e_top eb) e_int)) g2.f (fun c H3 e3 => ?_) (fun c H3 e3 => ?_)
      · have p1 := h1 i hi'
        have p2 := h2 i hi'
        refine s_set (e_QQ (e_var ht rfl) (e_QQ ea eb (s4 g p1 (by omega)) (s4 g p2 (by omega)) trivial) (s4 g (part i (by omega)) hw) (s4 g (p1.mul p2) (by omega)) trivial) (g2.f.trans e3) fun v5 H5 F5 g5 hv5 => ?_
        exact ⟨by omega, F5, v5, _, g2.trans ((Grow.of g2.f e3).trans g5), rfl, hv5⟩
      · refine ⟨by omega, F', vt, _, g2.trans (Grow.of g2.f e3), rfl, ?_⟩
        have z : at_ xs i * at_ ys (k - i) = 0 := by
          simp only [Bool.and_eq_false_iff, Bool.not_eq_false', decide_eq_true_eq] at c
          rcases c with c | c
          · rw [show at_ xs i = 0 from Classical.byContradiction fun h => num_ne h c]; grind
          · rw [show at_ ys (k - i) = 0 from Classical.byContradiction fun h => num_ne h c]; grind
        show rQ K F' vt (sm _ i + at_ xs i * at_ ys (k - i))
        rw [z, show ∀ x : Rat, x + 0 = x by intro x; grind]
        exact ht
    · rintro σ' H' ⟨_, F', vt, v5, g2, rfl, ht⟩
      rw [Int.toNat_natCast] at ht
      exact s_ret (e_var ht rfl) g2.f (Res.from g2 q)
theorem e_dot {σ : L2.St} {Hk : Hp} {ta tb tc td : TE} {xs ys : List Rat} {m l : Int} {n k D M w w' : Nat} {Ew : XK} (ha : E (rLst (rQ K)) ta σ Hk xs) (hb : E (rLst (rQ K)) tb σ Hk ys) (hc : E rInt tc σ Hk m) (hm : m = (n : Int)) (hd : E rInt td σ Hk l) (hl : l = (k : Int)) (hx : n ≤ xs.length) (hy : k < ys.length) (hk : n ≤ k + 1) (h7 : n ≤ 7)
    (g : Good D M) (h1 : ∀ i, i < n → Wd D w (at_ xs i)) (h2 : ∀ i, i < n → Wd D w' (at_ ys (k - i))) (hw : w + w' + 1 ≤ M) : E (rQ K) (tCall (spDot K) [] Ew (tCons ta (tCons tb (tCons tc (tCons td tNil))))) σ Hk (dt (at_ xs) (at_ ys) n k) :=
  e_call (ea_cons ha (ea_cons hb (ea_cons hc (ea_cons hd ea_nil)))) fun F H vs Q ex hv q => by
    obtain ⟨v, ws, rfl, hv, v2, ws2, rfl, hv2, v3, ws3, rfl, hv3, v4, ws4, rfl, hv4, hn⟩ := hv
    cases hn; cases hv3; cases hv4; subst hm; subst hl
    exact ⟨F, ex, v, v2, xs, ys, n, k, rfl, hv, hv2, hx, hy, hk, h7, ⟨D, M, w, w', g, h1, h2, hw⟩, q⟩
theorem ok__law_xmul (T : Txt K mg) : FnOk P w K mg base CX0 4 T.d__law_xmul.a T.d__law_xmul.fd ["a", "b"] (spRR K mulL (Two fun w => w + w + 1)) := by
  refine T.d__law_xmul.F.ok sc__law_xmul spRR_len (fun cdv A outer s H vs Q Ew hr h => ?_)
  obtain ⟨Hk, ex, va, vb, xs, ys, rfl, ha, hb, ⟨hl, h7, D, M, wx, g, h1, h2, hw⟩, q⟩ := h
  refine ⟨_, (pss_one (ps_ret (pe_lc (own := [("k", 2)]) (g := gName 2) rfl sc__law_xmul.nd (pi_range1 (by rfl) T.n_range (pa_cons (pe_callB (c_lenK (K := K) rfl) (by rfl) T.n_len (by decide +kernel) (pa_cons (pv 0) pa_nil)) pa_nil)) (blkOk_by (N := ["a", "b", "k"]) (sc := defScope s__law_xmul) (by decide +kernel)) (fun _ _ _ _ _ => (pg_name (i := 2) sc__law_xmul.nd rfl (Or.inl rfl) (hf := Or.inr rfl))) (fun _ _ _ _ _ => pts_nil) (fun _ _ _ _ _ => (pe_call (ok__law_dot T) (hr.mono (by decide)) (by rfl) T.g__law_dot T.d__law_dot.F.kp T.d__law_dot.b .nil pass0 (pa_cons (pv 0) (pa_cons (pv 1) (pa_cons (pe_op op_add (pv 2) pe_int) (pa_cons (pv 2) pa_nil))))))))), ?_⟩
  refine s_retN ((en_lcR (n := (xs.length : Int)) (f := fun i => cv (at_ xs) (at_ ys) i) (e_len (e_var ha rfl)) (by omega) (by omega) (fun _ => rfl) fun i F hi e => ?_).as (by unfold mulL; rw [Int.toNat_natCast])) ex q
  exact e_dot (n := i + 1) (k := i) (e_var (up e ha) rfl) (e_var (up e hb) rfl) (e_i0 (e_var rfl rfl) e_int) (by omega) (e_var rfl rfl) rfl (by omega) (by omega) (by omega) (by omega) g (fun i _ => h1 i) (fun i _ => h2 _) hw
/-- s times a row and t times another one -/
def mixL (xs : List Rat) (s : Rat) (ys : List Rat) (t : Rat) : List Rat := (List.range xs.length).map fun k => s * at_ xs k + t * at_ ys k
theorem mixL_len (xs : List Rat) (s : Rat) (ys : List Rat) (t : Rat) : (mixL xs s ys t).length = xs.length := len_range
theorem mixL_w {D w w' : Nat} {xs ys : List Rat} {s t : Rat} (hD : 8 ≤ D) (h : Aw D w xs) (h' : Aw D w ys) (hs : Wd D w' s) (ht : Wd D w' t) : Aw D (w' + w + 1) (mixL xs s ys t) := Aw.of fun k hk => by
  rw [mixL_len] at hk
  rw [show at_ (mixL xs s ys t) k = _ from at_range hk]
  exact Wd.add hD (hs.mul (h k)) (ht.mul (h' k))
def spMix (K : PySem.W.Frag) : Sp := fun vs H Q _ => ∃ Hk, Ex Hk H ∧ ∃ va vs' vb vt xs s ys t, vs = [va, vs', vb, vt] ∧ rLst (rQ K) Hk va xs ∧ rQ K Hk vs' s ∧ rLst (rQ K) Hk vb ys ∧ rQ K Hk vt t ∧ xs.length = ys.length ∧ xs.length ≤ 7 ∧
  (∃ D M w w', Good D M ∧ Aw D w xs ∧ Aw D w ys ∧ Wd D w' s ∧ Wd D w' t ∧ w' + w + 1 ≤ M) ∧ ResN (rQ K) Hk H (mixL xs s ys t) Q
theorem ok__law_xmix (T : Txt K mg) : FnOk P w K mg base CX0 4 T.d__law_xmix.a T.d__law_xmix.fd ["a", "s", "b", "t"] (spMix K) := by
  refine T.d__law_xmix.F.ok sc__law_xmix (fun vs H Q Ew h => ?_) (fun cdv A outer s H vs Q Ew hr h => ?_)
  · obtain ⟨_, _, _, _, _, _, _, _, _, _, rfl, _⟩ := h; rfl
  · obtain ⟨Hk, ex, va, vs', vb, vt, xs, s', ys, t, rfl, ha, hs, hb, ht, hl, h7, ⟨D, M, w1, w2, g, h1, h2, h3, h4, hw⟩, q⟩ := h
    refine ⟨_, (pss_one (ps_ret (pe_lc (own := [("k", 4)]) (g := gName 4) rfl sc__law_xmix.nd (pi_range1 (by rfl) T.n_range (pa_cons (pe_callB (c_lenK (K := K) rfl) (by rfl) T.n_len (by decide +kernel) (pa_cons (pv 0) pa_nil)) pa_nil)) (blkOk_by (N := ["a", "s", "b", "t", "k"]) (sc := defScope s__law_xmix) (by decide +kernel)) (fun _ _ _ _ _ => (pg_name (i := 4) sc__law_xmix.nd rfl (Or.inl rfl) (hf := Or.inr rfl))) (fun _ _ _ _ _ => pts_nil) (fun _ _ _ _ _ => (pe_call (ok__law_plus T) (hr.mono (by decide)) (by rfl) T.g__law_plus T.d__law_plus.F.kp T.d__law_plus.b .nil pass0 (pa_cons (pe_call (ok__law_by T) (hr.mono (by decide)) (by rfl) T.g__law_by T.d__law_by.F.kp T.d__law_by.b .nil pass0 (pa_cons (pv 1) (pa_cons (pe_ix (ix_listK (K := K) rfl) (pv 0) (pv 4) (fun _ _ => rfl)) pa_nil))) (pa_cons (pe_call (ok__law_by T) (hr.mono (by decide)) (by rfl) T.g__law_by T.d__law_by.F.kp T.d__law_by.b .nil pass0 (pa_cons (pv 3) (pa_cons (pe_ix (ix_listK (K := K) rfl) (pv 2) (pv 4) (fun _ _ => rfl)) pa_nil))) pa_nil))))))), ?_⟩
    refine s_retN ((en_lcR (n := (xs.length : Int)) (f := fun k => s' * at_ xs k + t * at_ ys k) (e_len (e_var ha rfl)) (by omega) (by omega) (fun _ => rfl) fun i F hi e => ?_).as (by unfold mixL; rw [Int.toNat_natCast])) ex q
    exact e_QQ (e_QQ (e_var (up e hs) rfl) (e_at (k := (i : Int)) (e_var (up e ha) rfl) (e_var rfl rfl) (by omega) (by rw [Int.toNat_natCast]; exact at_get (by omega))) (s4 g h3 (by omega)) (s4 g (h1 i) (by omega)) trivial)
      (e_QQ (e_var (up e ht) rfl) (e_at (k := (i : Int)) (e_var (up e hb) rfl) (e_var rfl rfl) (by omega) (by rw [Int.toNat_natCast]; exact at_get (by omega))) (s4 g h4 (by omega)) (s4 g (h2 i) (by omega)) trivial)
      (s4 g (h3.mul (h1 i)) (by omega)) (s4 g (h4.mul (h2 i)) (by omega)) trivial
theorem e_mix {σ : L2.St} {Hk : Hp} {ta tb tc td : TE} {xs ys : List Rat} {s t : Rat} {D M w w' : Nat} {Ew : XK} (ha : E (rLst (rQ K)) ta σ Hk xs) (hs : E (rQ K) tb σ Hk s) (hb : E (rLst (rQ K)) tc σ Hk ys) (ht : E (rQ K) td σ Hk t) (hl : xs.length = ys.length) (h7 : xs.length ≤ 7)
    (g : Good D M) (h1 : Aw D w xs) (h2 : Aw D w ys) (h3 : Wd D w' s) (h4 : Wd D w' t) (hw : w' + w + 1 ≤ M) : EN (rQ K) (tCall (spMix K) [] Ew (tCons ta (tCons tb (tCons tc (tCons td tNil))))) σ Hk (mixL xs s ys t) :=
  en_call (ea_cons ha (ea_cons hs (ea_cons hb (ea_cons ht ea_nil)))) fun F H vs Q ex hv q => by
    obtain ⟨v, ws, rfl, hv, v2, ws2, rfl, hv2, v3, ws3, rfl, hv3, v4, ws4, rfl, hv4, hn⟩ := hv
    cases hn
    exact ⟨F, ex, v, v2, v3, v4, xs, s, ys, t, rfl, hv, hv2, hv3, hv4, hl, h7, ⟨D, M, w, w', g, h1, h2, h3, h4, hw⟩, q⟩
/-- the law's quotient, for a divisor other than 0 -/
def PreX (xs ys : List Rat) : Prop := PreD xs ys ∧ okD xs ys
theorem ok__law_xdiv (T : Txt K mg) : FnOk P w K mg base CX0 4 T.d__law_xdiv.a T.d__law_xdiv.fd ["a", "b"] (spRR K divL PreX) := by
  refine T.d__law_xdiv.F.ok sc__law_xdiv spRR_len (fun cdv A outer s H vs Q Ew hr h => ?_)
  obtain ⟨Hk, ex, va, vb, xs, ys, rfl, ha, hb, ⟨⟨hl, h7, D, M, wa, wb, wi, g, h1, h2, h3, hw⟩, o⟩, q⟩ := h
  refine ⟨_, (pss_cons (ps_set (i := 2) sc__law_xdiv.nd rfl (Or.inl rfl) (pe_lst pa_nil))
      (pss_cons (ps_for PassesOwn.never rfl (pi_range1 (by rfl) T.n_range (pa_cons (pe_callB (c_lenK (K := K) rfl) (by rfl) T.n_len (by decide +kernel) (pa_cons (pv 0) pa_nil)) pa_nil)) (pg_name (i := 3) sc__law_xdiv.nd rfl (Or.inl rfl) (hf := Or.inr rfl))
      (pss_one (ps_expr (pe_bm PySem.F.plainAttrs_list PySem.F.slot_list_append PySem.F.type_list_append mt_append (pv 2) (pa_cons (pe_call (ok__law_part T) (hr.mono (by decide)) (by rfl) T.g__law_part T.d__law_part.F.kp T.d__law_part.b .nil pass0 (pa_cons (pe_call (ok__law_minus T) (hr.mono (by decide)) (by rfl) T.g__law_minus T.d__law_minus.F.kp T.d__law_minus.b .nil pass0 (pa_cons (pe_ix (ix_listK (K := K) rfl) (pv 0) (pv 3) (fun _ _ => rfl)) (pa_cons (pe_call (ok__law_dot T) (hr.mono (by decide)) (by rfl) T.g__law_dot T.d__law_dot.F.kp T.d__law_dot.b .nil pass0 (pa_cons (pv 2) (pa_cons (pv 1) (pa_cons (pv 3) (pa_cons (pv 3) pa_nil))))) pa_nil))) (pa_cons (pe_ix (ix_listK (K := K) rfl) (pv 1) pe_int (fun _ _ => rfl)) pa_nil))) pa_nil)))))
      (pss_one (ps_ret (pv 2))))), ?_⟩
  refine s_setN (r := rQ K) en_nil ex fun p vs H2 F g2 fp hp h2' hv => ?_
  cases hv
  refine s_grow (n := (xs.length : Int)) (fun x => [some va, some vb, some (.ref p), x]) none (fun _ _ => rfl) (fun _ => rfl) (e_len (e_var (up g2.k ha) rfl)) (by omega) (by omega) g2 fp hp h2' (step := fun found => (at_ xs found.length - fo (at_ ys) (at_ found) found.length) / at_ ys 0) (fun k F' ws hk ek fo' hp' => ?_) fun x F' ws H' g' ek fo' ho' hp' => ?_
  · have hk' : k < xs.length := by omega
    have y0 : at_ ys 0 ≠ 0 := o (by omega)
    have wi' := h3 y0
    have wf : ∀ i, i < k → Wd D (wa + 6 * (wb + wi + 3)) (at_ (grow (fun found => (at_ xs found.length - fo (at_ ys) (at_ found) found.length) / at_ ys 0) k) i) := fun i hi => by
      have := divL_w g h7 h1 h2 wi' i (by omega)
      unfold divL at this
      rw [grow_at _ hi (show k ≤ xs.length by omega)] at this
      refine this.mono g.one ?_
      have : (i + 1) * (wb + wi + 3) ≤ 6 * (wb + wi + 3) := Nat.mul_le_mul_right _ (by omega)
      omega
    have f := dt_w (k := k) g.ge (n := k) (by omega) wf (fun i _ => h2 (k - i))
    have exF : Ex Hk (upd F' p (.lst ws)) := (g2.k.trans ek).trans (Ex.new fo')
    show E (rQ K) _ _ _ ((at_ xs (grow _ k).length - fo (at_ ys) (at_ (grow _ k)) (grow _ k).length) / at_ ys 0)
    rw [grow_len, ← dt_fo]
    have s := Wd.sub g.ge ((h1 k).mono g.one (w' := wa + 6 * (wb + wi + 3) + wb + 1) (by omega)) f
    refine e_QQ (e_QQ (e_at (k := (k : Int)) (e_var (up exF ha) rfl) (e_var rfl rfl) (by omega) (by rw [Int.toNat_natCast]; exact at_get hk'))
      (e_dot (n := k) (k := k) (e_var (own_lst fo' hp') rfl) (e_var (up exF hb) rfl) (e_var rfl rfl) rfl (e_var rfl rfl) rfl (by rw [grow_len]; exact Nat.le_refl _) (by omega) (by omega) (by omega) g wf (fun i _ => h2 (k - i)) (by omega)) (s4 g (h1 k) (by omega)) (s4 g f (by omega)) trivial)
      (e_at0 (e_var (up exF hb) rfl) (by omega)) (s4 g s (by omega)) (s4 g (h2 0) (by omega)) ⟨y0, num_small g (h2 0) (by omega)⟩
  · refine s_retO rfl g' fo' hp ho' hp' ?_ rfl
    rw [Int.toNat_natCast]; exact q
theorem ok__law_xrated (T : Txt K mg) : FnOk P w K mg base CX0 4 T.d__law_xrated.a T.d__law_xrated.fd ["a"] (spLL (rQ K) (rQ K) wtdL' One7) := by
  refine T.d__law_xrated.F.ok sc__law_xrated spLL_len (fun cdv A outer s H vs Q Ew hr h => ?_)
  obtain ⟨Hk, ex, v, xs, rfl, hv, ⟨h7, h4⟩, q⟩ := h
  refine ⟨_, (pss_one (ps_ret (pe_lc (own := [("k", 1)]) (g := gName 1) rfl sc__law_xrated.nd (pi_range1 (by rfl) T.n_range (pa_cons (pe_callB (c_lenK (K := K) rfl) (by rfl) T.n_len (by decide +kernel) (pa_cons (pv 0) pa_nil)) pa_nil)) (blkOk_by (N := ["a", "k"]) (sc := defScope s__law_xrated) (by decide +kernel)) (fun _ _ _ _ _ => (pg_name (i := 1) sc__law_xrated.nd rfl (Or.inl rfl) (hf := Or.inr rfl))) (fun _ _ _ _ _ => pts_nil) (fun _ _ _ _ _ => (pe_call (ok__law_by T) (hr.mono (by decide)) (by rfl) T.g__law_by T.d__law_by.F.kp T.d__law_by.b .nil pass0 (pa_cons (pe_tup (pa_cons (pv 1) (pa_cons pe_int pa_nil))) (pa_cons (pe_ix (ix_listK (K := K) rfl) (pv 0) (pv 1) (fun _ _ => rfl)) pa_nil))))))), ?_⟩
  refine s_retN ((en_lcR (n := (xs.length : Int)) (f := fun k => ((k : Nat) : Rat) * at_ xs k) (e_len (e_var hv rfl)) (by omega) (by omega) (fun _ => rfl) fun i F hi e => ?_).as (by unfold wtdL'; rw [Int.toNat_natCast])) ex q
  exact e_QQ (e_k1 (e_var rfl rfl) rfl) (e_at (k := (i : Int)) (e_var (up e hv) rfl) (e_var rfl rfl) (by omega) (by rw [Int.toNat_natCast]; exact at_get (by omega))) (nat4 (by omega)) (h4 _) trivial
theorem natPD {k : Nat} (h0 : k ≠ 0) (h : k ≤ 8) : pD 0 (k : Rat) := ⟨fun z => h0 (by exact_mod_cast z), Nat.lt_of_le_of_lt (show ((k : Int)).natAbs ≤ 8 by omega) (Nat.lt_of_lt_of_le (show 8 < 2 ^ 4 by decide) (Nat.pow_le_pow_right (by decide) (by decide)))⟩
theorem ok__law_xsummed (T : Txt K mg) : FnOk P w K mg base CX0 4 T.d__law_xsummed.a T.d__law_xsummed.fd ["a"] (spLL (rQ K) (rQ K) smdL' One7) := by
  refine T.d__law_xsummed.F.ok sc__law_xsummed spLL_len (fun cdv A outer s H vs Q Ew hr h => ?_)
  obtain ⟨Hk, ex, v, xs, rfl, hv, ⟨h7, h4⟩, q⟩ := h
  refine ⟨_, (pss_one (ps_ret (pe_lc (own := [("k", 1)]) (g := gName 1) rfl sc__law_xsummed.nd (pi_range1 (by rfl) T.n_range (pa_cons (pe_callB (c_lenK (K := K) rfl) (by rfl) T.n_len (by decide +kernel) (pa_cons (pv 0) pa_nil)) pa_nil)) (blkOk_by (N := ["a", "k"]) (sc := defScope s__law_xsummed) (by decide +kernel)) (fun _ _ _ _ _ => (pg_name (i := 1) sc__law_xsummed.nd rfl (Or.inl rfl) (hf := Or.inr rfl))) (fun _ _ _ _ _ => pts_nil) (fun _ _ _ _ _ => (pe_ifExp (pt_cmpR op_gt (pv 1) pe_int (nomark _)) (pe_call (ok__law_part T) (hr.mono (by decide)) (by rfl) T.g__law_part T.d__law_part.F.kp T.d__law_part.b .nil pass0 (pa_cons (pe_ix (ix_listK (K := K) rfl) (pv 0) (pv 1) (fun _ _ => rfl)) (pa_cons (pe_tup (pa_cons (pv 1) (pa_cons pe_int pa_nil))) pa_nil))) (pe_tup (pa_cons pe_int (pa_cons pe_int pa_nil)))))))), ?_⟩
  refine s_retN ((en_lcR (n := (xs.length : Int)) (f := fun k => if k = 0 then 0 else at_ xs k / (k : Rat)) (e_len (e_var hv rfl)) (by omega) (by omega) (fun _ => rfl) fun i F hi e => ?_).as (by unfold smdL'; rw [Int.toNat_natCast])) ex q
  refine e_if (b := decide ((i : Int) > 0)) (t_test (e_b0 (p := fun i j => decide (i > j)) (e_var rfl rfl) e_int)) (fun c => ?_) (fun c => ?_)
  · have : ¬ i = 0 := by have := of_decide_eq_true c; omega
    rw [if_neg this]
    exact e_QQ (e_at (k := (i : Int)) (e_var (up e hv) rfl) (e_var rfl rfl) (by omega) (by rw [Int.toNat_natCast]; exact at_get (by omega))) (e_k1 (e_var rfl rfl) rfl) (h4 _) (nat4 (by omega)) (natPD this (by omega))
  · have : i = 0 := by have := of_decide_eq_false c; omega
    rw [if_pos this]
    exact z_pair
theorem wtdL'_len (xs : List Rat) : (wtdL' xs).length = xs.length := len_range
theorem wtdL'_at {xs : List Rat} {i : Nat} (h : i < xs.length) : at_ (wtdL' xs) i = ((i : Nat) : Rat) * at_ xs i := at_range h
theorem wtdL'_w {D M w : Nat} (g : Good D M) {xs : List Rat} (hl : xs.length ≤ 7) (h : Aw D w xs) : Aw D (w + 1) (wtdL' xs) := Aw.of fun k hk => by
  rw [wtdL'_len] at hk
  rw [wtdL'_at hk, Rat.mul_comm]
  exact (h k).mul (g.nat (by omega))
theorem smdL'_len (xs : List Rat) : (smdL' xs).length = xs.length := len_range
end
end Y8

set_option Elab.async false
set_option linter.all false
set_option maxRecDepth 100000
set_option maxHeartbeats 2000000
/-! # The law's exp, tan, log, atan -/
namespace Y8
open PySem L2 Y Ser
section
variable {P : Program} {w : World} {K : PySem.W.Frag} {mg : Str → Option Value} {base : Heap}
theorem take_grow {step : List Rat → Rat} {x : Rat} (h : step [] = x) (n : Nat) : [x].take n = grow step (min 1 n) := by
  cases n with
  | zero => rfl
  | succ n => rw [show min 1 (n + 1) = 1 by omega, List.take_succ_cons, List.take_nil]; show [x] = [] ++ [step []]; rw [h]; rfl
/-- an own list that holds its first item and grows by one at each turn -/
theorem s_grow2 {D : Ends} {step : List Rat → Rat} {n : Nat} {i j : Nat} {o : Addr} {vs0 : List V} {H0 Hk H : Hp} {tb te : TE} (St : Option V → L2.St) (x0 : Option V) (hj : ∀ x z, (St x).set j z = St z) (hi : ∀ x, (St x)[i]? = some (some (.ref o)))
    (hn : E rInt tb (St x0) Hk (n : Int)) (h1 : n ≤ 1000) {Hk0 : Hp} (g0 : Grow Hk0 H0 Hk H) (hk : Hk o = none) (hH0 : H0 o = none) (ho : H o = some (.lst vs0)) (hv0 : Paired (rQ K Hk) vs0 (grow step (min 1 n)))
    (hs : ∀ (k : Nat) F vs, 1 ≤ k → k < n → Ex Hk F → F o = none → Paired (rQ K F) vs (grow step k) → E (rQ K) te (St (some (.int (k : Int)))) (upd F o (.lst vs)) (step (grow step k)))
    (hd : ∀ x F vs H', Grow Hk0 H0 F H' → Ex Hk F → F o = none → H' o = some (.lst vs) → Paired (rQ K F) vs (grow step n) → D.nx (St x) H') :
    tFor (iRng2 (tCons (tC (.int 1)) (tCons tb tNil))) (gName j) (tDrop (tBM K "list" rAppend (tVar i) (tCons te tNil))) D (St x0) H := by
  refine s_forR2 (lo := 1) (n := (n : Int)) e_int hn (by omega) (by omega) g0.f (fun k σ' H' => ∃ x F vs, σ' = St x ∧ Grow Hk0 H0 F H' ∧ Ex Hk F ∧ F o = none ∧ H' o = some (.lst vs) ∧ vs.length = min 1 n + k ∧ Paired (rQ K F) vs (grow step (min 1 n + k)))
    (fun H1 e1 => ⟨x0, Hk, vs0, rfl, g0.trans (Grow.of g0.f e1), Ex.refl _, hk, e1 _ _ ho, by rw [p_len hv0, grow_len]; rfl, hv0⟩) ?_ ?_
  · rintro k σ' H' hk' ⟨x, F, vs, rfl, g, ek, fo, ho', hl, hp⟩
    rw [hj]
    have e1 : min 1 n = 1 := by omega
    rw [e1] at hl hp
    have hs' := hs (1 + k) F vs (by omega) (by omega) ek fo hp
    rw [show ((1 + k : Nat) : Int) = 1 + (k : Int) by push_cast; rfl] at hs'
    refine s_app_own (K := F) (r := rQ K) (hi _) fo ho' (by omega) g.f hs' fun v H2 F2 g2 hv fo2 => ?_
    refine ⟨_, F2, vs ++ [v], rfl, Grow_mut (g.trans g2) fo2 hH0, ek.trans g2.k, fo2, upd_same, by rw [List.length_append, hl, e1]; rfl, ?_⟩
    rw [e1]
    exact p_app (p_up g2.k hp) (.cons hv .nil)
  · rintro σ' H' ⟨x, F, vs, rfl, g, ek, fo, ho', hl, hp⟩
    rw [show min 1 n + ((n : Int) - 1).toNat = n by omega] at hp
    exact hd x F vs H' g ek fo ho' hp
abbrev stE (xs : List Rat) : List Rat → Rat := fun found => if found.length = 0 then 1 else fo (wtd (at_ xs)) (at_ found) found.length * (1 / (found.length : Rat))
theorem expL_def (xs : List Rat) : expL xs = grow (stE xs) xs.length := rfl
theorem dt_step {xs found : List Rat} {k : Nat} (hk : k < xs.length) (hz : k ≠ 0) : dt (at_ found) (at_ (wtdL' xs)) k k / (k : Rat) = fo (wtd (at_ xs)) (at_ found) k * (1 / (k : Rat)) := by
  rw [dt_fo, fo_congr (f := at_ (wtdL' xs)) (f' := wtd (at_ xs)) (g := at_ found) (g' := at_ found) (fun i hi => by rw [wtdL'_at (by omega), Rat.mul_comm]) (fun _ _ => rfl)]
  have : (k : Rat) ≠ 0 := fun z => hz (by exact_mod_cast z)
  grind
theorem ok__law_xexp (T : Txt K mg) : FnOk P w K mg base CX0 5 T.d__law_xexp.a T.d__law_xexp.fd ["a"] (spLL (rQ K) (rQ K) expL (Sz fun w => 6 * (w + 3))) := by
  refine T.d__law_xexp.F.ok sc__law_xexp spLL_len (fun cdv A outer s H vs Q Ew hr h => ?_)
  obtain ⟨Hk, ex, va, xs, rfl, ha, ⟨h7, D, M, wx, g, h1, hw⟩, q⟩ := h
  have hw : 6 * (wx + 3) ≤ M := hw
  refine ⟨_, (pss_cons (ps_set (i := 1) sc__law_xexp.nd rfl (Or.inl rfl) (pe_call (ok__law_xrated T) (hr.mono (by decide)) (by rfl) T.g__law_xrated T.d__law_xrated.F.kp T.d__law_xrated.b .nil pass0 (pa_cons (pv 0) pa_nil)))
      (pss_cons (ps_set (i := 2) sc__law_xexp.nd rfl (Or.inl rfl) (pe_slice (sl_listK (K := K) rfl) (pe_lst (pa_cons (pe_tup (pa_cons pe_int (pa_cons pe_int pa_nil))) pa_nil)) po_none (po_some (pe_callB (c_lenK (K := K) rfl) (by rfl) T.n_len (by decide +kernel) (pa_cons (pv 0) pa_nil)))))
      (pss_cons (ps_for PassesOwn.never rfl (pi_range2 (by rfl) T.n_range (pa_cons pe_int (pa_cons (pe_callB (c_lenK (K := K) rfl) (by rfl) T.n_len (by decide +kernel) (pa_cons (pv 0) pa_nil)) pa_nil))) (pg_name (i := 3) sc__law_xexp.nd rfl (Or.inl rfl) (hf := Or.inr rfl))
      (pss_one (ps_expr (pe_bm PySem.F.plainAttrs_list PySem.F.slot_list_append PySem.F.type_list_append mt_append (pv 2) (pa_cons (pe_call (ok__law_part T) (hr.mono (by decide)) (by rfl) T.g__law_part T.d__law_part.F.kp T.d__law_part.b .nil pass0 (pa_cons (pe_call (ok__law_dot T) (hr.mono (by decide)) (by rfl) T.g__law_dot T.d__law_dot.F.kp T.d__law_dot.b .nil pass0 (pa_cons (pv 2) (pa_cons (pv 1) (pa_cons (pv 3) (pa_cons (pv 3) pa_nil))))) (pa_cons (pe_tup (pa_cons (pv 3) (pa_cons pe_int pa_nil))) pa_nil))) pa_nil)))))
      (pss_one (ps_ret (pv 2)))))), ?_⟩
  refine s_set (EN.e (e_LL (e_var ha rfl) (one7 g h7 h1 (by omega)))) ex fun v2 H2 F2 g2 hv2 => ?_
  refine s_setN (r := rQ K) ((en_slice (EN.e (en_one o_pair)) eo_none (eo_some (e_len (e_var (up g2.k ha) rfl)))).as ((cutL_to [1] xs.length).trans (take_grow (step := stE xs) rfl xs.length))) g2.f fun p vs H3 F3 g3 fp hp h3 hv => ?_
  have gr := g2.trans g3
  refine s_grow2 (n := xs.length) (fun x => [some va, some v2, some (.ref p), x]) none (fun _ _ => rfl) (fun _ => rfl) (e_len (e_var (up gr.k ha) rfl)) (by omega) gr fp (g2.h.free hp) h3 hv (fun k F' ws k1 hk' ek fo' hp' => ?_) fun x F' ws H' g' ek fo' ho' hp' => ?_
  · have z : k ≠ 0 := by omega
    show E (rQ K) _ _ _ (if (grow (stE xs) k).length = 0 then 1 else fo (wtd (at_ xs)) (at_ (grow (stE xs) k)) (grow (stE xs) k).length * (1 / ((grow (stE xs) k).length : Rat)))
    rw [grow_len, if_neg z, ← dt_step hk' z]
    have wf : ∀ i, i < k → Wd D (5 * (wx + 3)) (at_ (grow (stE xs) k) i) := fun i hi => by
      have := expL_w g h7 h1 i (by omega)
      rw [expL_def, grow_at _ hi (show k ≤ xs.length by omega)] at this
      exact this.mono g.one (Nat.mul_le_mul_right _ (by omega))
    have exF : Ex F2 (upd F' p (.lst ws)) := (g3.k.trans ek).trans (Ex.new fo')
    have wt := wtdL'_w g h7 h1
    have f := dt_w (k := k) (n := k) g.ge (by omega) wf (fun i _ => wt (k - i))
    exact e_QQ (e_dot (n := k) (k := k) (e_var (own_lst fo' hp') rfl) (e_var (up exF hv2) rfl) (e_var rfl rfl) rfl (e_var rfl rfl) rfl (by rw [grow_len]; exact Nat.le_refl _) (by rw [wtdL'_len]; omega) (by omega) (by omega) g wf (fun i _ => wt (k - i)) (by omega)) (e_k1 (e_var rfl rfl) rfl) (s4 g f (by omega)) (nat4 (by omega)) (natPD z (by omega))
  · exact s_retO rfl g' fo' (g2.h.free hp) ho' hp' q rfl
theorem ok__law_xtan (T : Txt K mg) : FnOk P w K mg base CX0 5 T.d__law_xtan.a T.d__law_xtan.fd ["a"] (spLL (rQ K) (rQ K) tanL (Sz fun w => 13 * (w + 4))) := by
  refine T.d__law_xtan.F.ok sc__law_xtan spLL_len (fun cdv A outer s H vs Q Ew hr h => ?_)
  obtain ⟨Hk, ex, va, xs, rfl, ha, ⟨h7, D, M, wx, g, h1, hw⟩, q⟩ := h
  have hw : 13 * (wx + 4) ≤ M := hw
  refine ⟨_, (pss_cons (ps_set (i := 1) sc__law_xtan.nd rfl (Or.inl rfl) (pe_call (ok__law_xrated T) (hr.mono (by decide)) (by rfl) T.g__law_xrated T.d__law_xrated.F.kp T.d__law_xrated.b .nil pass0 (pa_cons (pv 0) pa_nil)))
      (pss_cons (ps_set (i := 2) sc__law_xtan.nd rfl (Or.inl rfl) (pe_slice (sl_listK (K := K) rfl) (pe_lst (pa_cons (pe_tup (pa_cons pe_int (pa_cons pe_int pa_nil))) pa_nil)) po_none (po_some (pe_callB (c_lenK (K := K) rfl) (by rfl) T.n_len (by decide +kernel) (pa_cons (pv 0) pa_nil)))))
      (pss_cons (ps_set (i := 3) sc__law_xtan.nd rfl (Or.inl rfl) (pe_slice (sl_listK (K := K) rfl) (pe_lst (pa_cons (pe_tup (pa_cons pe_int (pa_cons pe_int pa_nil))) pa_nil)) po_none (po_some (pe_callB (c_lenK (K := K) rfl) (by rfl) T.n_len (by decide +kernel) (pa_cons (pv 0) pa_nil)))))
      (pss_cons (ps_for PassesOwn.never rfl (pi_range2 (by rfl) T.n_range (pa_cons pe_int (pa_cons (pe_callB (c_lenK (K := K) rfl) (by rfl) T.n_len (by decide +kernel) (pa_cons (pv 0) pa_nil)) pa_nil))) (pg_name (i := 4) sc__law_xtan.nd rfl (Or.inl rfl) (hf := Or.inr rfl))
      (pss_cons (ps_expr (pe_bm PySem.F.plainAttrs_list PySem.F.slot_list_append PySem.F.type_list_append mt_append (pv 2) (pa_cons (pe_call (ok__law_part T) (hr.mono (by decide)) (by rfl) T.g__law_part T.d__law_part.F.kp T.d__law_part.b .nil pass0 (pa_cons (pe_call (ok__law_dot T) (hr.mono (by decide)) (by rfl) T.g__law_dot T.d__law_dot.F.kp T.d__law_dot.b .nil pass0 (pa_cons (pv 3) (pa_cons (pv 1) (pa_cons (pv 4) (pa_cons (pv 4) pa_nil))))) (pa_cons (pe_tup (pa_cons (pv 4) (pa_cons pe_int pa_nil))) pa_nil))) pa_nil)))
      (pss_one (ps_expr (pe_bm PySem.F.plainAttrs_list PySem.F.slot_list_append PySem.F.type_list_append mt_append (pv 3) (pa_cons (pe_call (ok__law_dot T) (hr.mono (by decide)) (by rfl) T.g__law_dot T.d__law_dot.F.kp T.d__law_dot.b .nil pass0 (pa_cons (pv 2) (pa_cons (pv 2) (pa_cons (pe_op op_add (pv 4) pe_int) (pa_cons (pv 4) pa_nil))))) pa_nil))))))
      (pss_one (ps_ret (pv 2))))))), ?_⟩
  refine s_set (EN.e (e_LL (e_var ha rfl) (one7 g h7 h1 (by omega)))) ex fun v2 H2 F2 g2 hv2 => ?_
  refine s_setN (r := rQ K) ((en_slice (EN.e (en_one z_pair)) eo_none (eo_some (e_len (e_var (up g2.k ha) rfl)))).as ((cutL_to [0] xs.length).trans (take_grow (step := stT xs) rfl xs.length))) g2.f fun p vs H3 F3 g3 fp hp h3 hv => ?_
  have g23 := g2.trans g3
  refine s_setN (r := rQ K) ((en_slice (EN.e (en_one o_pair)) eo_none (eo_some (e_len (e_var (up g23.k ha) rfl)))).as (cutL_to [1] xs.length)) g23.f fun p' us H4 F4 g4 fp' hp' h4 hu => ?_
  have gr := g23.trans g4
  have pp : p ≠ p' := fun e => by subst e; rw [h3] at hp'; cases hp'
  have fp4 : F4 p = none := by
    cases z : F4 p with
    | none => rfl
    | some u => have := g4.n p fp (by rw [z]; exact fun z => nomatch z); rw [h3] at this; cases this
  have p0 : H p = none := g2.h.free hp
  have p0' : H p' = none := g23.h.free hp'
  have wt := wtdL'_w g h7 h1
  have tw := tanL_w g h7 h1
  have hu' : Paired (rQ K F4) us ((List.range (min 1 xs.length)).map (sqs (at_ (tanL xs)))) := by
    have e : [(1 : Rat)].take xs.length = (List.range (min 1 xs.length)).map (sqs (at_ (tanL xs))) := by
      cases xs.length with
      | zero => rfl
      | succ n => rw [show min 1 (n + 1) = 1 by omega, List.take_succ_cons, List.take_nil]; rfl
    rw [← e]; exact hu
  refine s_forR2 (K := F4) (lo := 1) (n := (xs.length : Int)) e_int (e_len (e_var (up gr.k ha) rfl)) (by omega) (by omega) g4.f
    (fun k σ' H' => ∃ x F ws us, σ' = [some va, some v2, some (.ref p), some (.ref p'), x] ∧ Grow Hk H F H' ∧ Ex F4 F ∧ F p = none ∧ F p' = none ∧ H' p = some (.lst ws) ∧ H' p' = some (.lst us) ∧ ws.length = min 1 xs.length + k ∧ us.length = min 1 xs.length + k ∧ Paired (rQ K F) ws (grow (stT xs) (min 1 xs.length + k)) ∧ Paired (rQ K F) us ((List.range (min 1 xs.length + k)).map (sqs (at_ (tanL xs)))))
    (fun H5 e5 => ⟨none, F4, vs, us, rfl, gr.trans (Grow.of gr.f e5), Ex.refl _, fp4, fp', e5 _ _ (g4.h _ _ h3), e5 _ _ h4, by rw [p_len hv, grow_len]; rfl, by rw [p_len hu']; simp, p_up g4.k hv, hu'⟩) ?_ ?_
  · rintro k0 σ' H' hk0 ⟨x, F, ws, us, rfl, gF, e4, f1, f2, o1, o2, l1, l2, r1, r2⟩
    have e1 : min 1 xs.length = 1 := by omega
    rw [e1] at l1 l2 r1 r2
    obtain ⟨k, hk⟩ : ∃ k : Nat, k = 1 + k0 := ⟨_, rfl⟩
    rw [← hk] at l1 l2 r1 r2
    have hk' : k < xs.length := by omega
    have z : k ≠ 0 := by omega
    rw [show (1 : Int) + (k0 : Int) = (k : Int) by omega]
    have e2F : Ex F2 F := (g3.k.trans g4.k).trans e4
    have wf : ∀ i, i < k → Wd D (5 * (wx + 4) + 1) (at_ ((List.range k).map (sqs (at_ (tanL xs)))) i) := fun i hi => by
      rw [at_range hi]
      exact (tw i (by omega)).2.mono g.one (by
        have : i * (wx + 4) ≤ 5 * (wx + 4) := Nat.mul_le_mul_right _ (by omega)
        omega)
    have f := dt_w (k := k) (n := k) g.ge (by omega) wf (fun i _ => wt (k - i))
    have exF : Ex F2 (upd F p' (.lst us)) := e2F.trans (Ex.new f2)
    have st : dt (at_ ((List.range k).map (sqs (at_ (tanL xs))))) (at_ (wtdL' xs)) k k / (k : Rat) = stT xs (grow (stT xs) k) := by
      rw [dt_step hk' z]
      show _ = if (grow (stT xs) k).length = 0 then _ else _
      rw [grow_len, if_neg z]
      congr 1
      exact fo_congr (fun i hi => rfl) fun i hi => by rw [at_range hi, tanL_def]; exact (sq_at hi (by omega)).symm
    refine s_appE (Hk := F) (r := rQ K) rfl f1 o1 (by omega) (E.own (o := p') (xs := us) f2 (E.as (e_QQ (e_dot (n := k) (k := k) (e_var (own_lst f2 r2) rfl) (e_var (up exF hv2) rfl) (e_var rfl rfl) rfl (e_var rfl rfl) rfl (by simp) (by rw [wtdL'_len]; omega) (by omega) (by omega) g wf (fun i _ => wt (k - i)) (by omega)) (e_k1 (e_var rfl rfl) rfl) (s4 g f (by omega)) (nat4 (by omega)) (natPD z (by omega))) st) H' gF.f o2) fun v6 H6 F6 g6 hv6 f6 => ?_
    have g6' := gF.trans g6
    have f62 : F6 p' = none := by
      cases z : F6 p' with
      | none => rfl
      | some u => have := g6.n p' f2 (by rw [z]; exact fun z => nomatch z); rw [o2] at this; cases this
    have g7 : Grow Hk H F6 (upd H6 p (.lst (ws ++ [v6]))) := Grow_mut g6' f6 p0
    have r1' : Paired (rQ K F6) (ws ++ [v6]) (grow (stT xs) (k + 1)) := p_app (p_up g6.k r1) (.cons hv6 .nil)
    have wf2 : ∀ i, i < k + 1 → Wd D (6 * (wx + 4)) (at_ (grow (stT xs) (k + 1)) i) := fun i hi => by
      have := (tw i (by omega)).1
      rw [tanL_def, grow_at _ hi (by omega)] at this
      exact this.mono g.one (Nat.mul_le_mul_right _ (by omega))
    have m0 : at_ (grow (stT xs) (k + 1)) 0 = 0 := by
      rw [grow_step _ (by omega)]; rfl
    have sq : dt (at_ (grow (stT xs) (k + 1))) (at_ (grow (stT xs) (k + 1))) (k + 1) k = sqs (at_ (tanL xs)) k := by
      rw [tanL_def, ← sq_at (n := k + 1) (by omega) (by omega)]
      unfold sqs
      rw [if_neg z, ← dt_fo]
      show dt _ _ k k + _ * at_ _ (k - k) = _
      rw [Nat.sub_self, m0]; grind
    refine s_appE (Hk := F6) (r := rQ K) (xs := us) rfl f62 (by rw [upd_ne (Ne.symm pp)]; exact g6.h _ _ o2) (by omega) (E.own (o := p) (xs := ws ++ [v6]) f6 (E.as (e_dot (n := k + 1) (k := k) (e_var (own_lst f6 r1') rfl) (e_var (own_lst f6 r1') rfl) (e_i0 (e_var rfl rfl) e_int) (by omega) (e_var rfl rfl) rfl (by rw [grow_len]; exact Nat.le_refl _) (by rw [grow_len]; omega) (Nat.le_refl _) (by omega) g (fun i hi => wf2 i hi) (fun i hi => wf2 (k - i) (by omega)) (by omega)) sq) _ g7.f upd_same) fun v8 H8 F8 g8 hv8 f8 => ?_
    have f81 : F8 p = none := by
      cases z : F8 p with
      | none => rfl
      | some u => have := g8.n p f6 (by rw [z]; exact fun z => nomatch z); rw [upd_same] at this; cases this
    rw [show min 1 xs.length + (k0 + 1) = k + 1 by omega]
    refine ⟨_, F8, ws ++ [v6], us ++ [v8], rfl, Grow_mut (g7.trans g8) f8 p0', e4.trans (g6.k.trans g8.k), f81, f8, by rw [upd_ne pp]; exact g8.h _ _ upd_same, upd_same, by rw [List.length_append, l1]; rfl, by rw [List.length_append, l2]; rfl, p_up g8.k r1', ?_⟩
    rw [List.range_succ, List.map_append]
    exact p_app (p_up (g6.k.trans g8.k) r2) (.cons hv8 .nil)
  · rintro σ' H' ⟨x, F, ws, us, rfl, gF, e4, f1, f2, o1, o2, l1, l2, r1, r2⟩
    rw [show min 1 xs.length + ((xs.length : Int) - 1).toNat = xs.length by omega] at r1
    exact s_retO rfl gF f1 p0 o1 r1 q rfl
theorem ok__law_xlog (T : Txt K mg) : FnOk P w K mg base CX0 5 T.d__law_xlog.a T.d__law_xlog.fd ["a"] (spLL (rQ K) (rQ K) logL fun xs => Sz (fun w => 8 * w + 23) xs ∧ okF xs 1) := by
  refine T.d__law_xlog.F.ok sc__law_xlog spLL_len (fun cdv A outer s H vs Q Ew hr h => ?_)
  obtain ⟨Hk, ex, va, xs, rfl, ha, ⟨⟨h7, D, M, wx, g, h1, hw⟩, o⟩, q⟩ := h
  have hw : 8 * wx + 23 ≤ M := hw
  refine ⟨_, (pss_one (ps_ret (pe_call (ok__law_xsummed T) (hr.mono (by decide)) (by rfl) T.g__law_xsummed T.d__law_xsummed.F.kp T.d__law_xsummed.b .nil pass0 (pa_cons (pe_call (ok__law_xdiv T) (hr.mono (by decide)) (by rfl) T.g__law_xdiv T.d__law_xdiv.F.kp T.d__law_xdiv.b .nil pass0 (pa_cons (pe_call (ok__law_xrated T) (hr.mono (by decide)) (by rfl) T.g__law_xrated T.d__law_xrated.F.kp T.d__law_xrated.b .nil pass0 (pa_cons (pv 0) pa_nil)) (pa_cons (pv 0) pa_nil))) pa_nil)))), ?_⟩
  have h0 : 0 < xs.length → at_ xs 0 ≠ 0 := fun h => by rw [o h]; grind
  have wi : at_ xs 0 ≠ 0 → Wd D 0 (1 / at_ xs 0) := fun h => by
    by_cases hn : 0 < xs.length
    · exact inv_one g (o hn)
    · exact absurd (at_over (by omega)) h
  have ws := wtdL'_w g h7 h1
  have wd : Aw D (wx + 1 + 7 * (wx + 0 + 3)) (divL (wtdL' xs) xs) := by
    by_cases hn : 0 < xs.length
    · exact divL_W (wa := wx + 1) (wb := wx) (wi := 0) g (by rw [wtdL'_len]; exact h7) ws h1 (wi (h0 hn))
    · exact Aw.of fun k hk => by rw [divL_len, wtdL'_len] at hk; omega
  have va' : E (rLst (rQ K)) (tVar 0) (L2.start ["a"] [va]) Hk xs := e_var ha rfl
  rw [← law_log xs o] at q
  exact s_retN (e_LL (EN.e (e_RR (EN.e (e_LL va' (one7 g h7 h1 (by omega)))) va' ⟨⟨wtdL'_len xs, by rw [wtdL'_len]; exact h7, D, M, wx + 1, wx, 0, g, ws, h1, wi, by omega⟩, fun h => h0 (by rw [wtdL'_len] at h; exact h)⟩)) (one7 g (by rw [divL_len, wtdL'_len]; exact h7) wd (by omega))) ex q
theorem ok__law_xatan (T : Txt K mg) : FnOk P w K mg base CX0 5 T.d__law_xatan.a T.d__law_xatan.fd ["a"] (spLL (rQ K) (rQ K) atanL fun xs => Sz (fun w => 15 * w + 37) xs ∧ at_ xs 0 = 0) := by
  refine T.d__law_xatan.F.ok sc__law_xatan spLL_len (fun cdv A outer s H vs Q Ew hr h => ?_)
  obtain ⟨Hk, ex, va, xs, rfl, ha, ⟨⟨h7, D, M, wx, g, h1, hw⟩, o⟩, q⟩ := h
  have hw : 15 * wx + 37 ≤ M := hw
  refine ⟨_, (pss_cons (ps_set (i := 1) sc__law_xatan.nd rfl (Or.inr rfl) (pe_call (ok__law_xmul T) (hr.mono (by decide)) (by rfl) T.g__law_xmul T.d__law_xmul.F.kp T.d__law_xmul.b .nil pass0 (pa_cons (pv 0) (pa_cons (pv 0) pa_nil))))
      (pss_one (ps_ret (pe_call (ok__law_xsummed T) (hr.mono (by decide)) (by rfl) T.g__law_xsummed T.d__law_xsummed.F.kp T.d__law_xsummed.b .nil pass0 (pa_cons (pe_call (ok__law_xdiv T) (hr.mono (by decide)) (by rfl) T.g__law_xdiv T.d__law_xdiv.F.kp T.d__law_xdiv.b .nil pass0 (pa_cons (pe_call (ok__law_xrated T) (hr.mono (by decide)) (by rfl) T.g__law_xrated T.d__law_xrated.F.kp T.d__law_xrated.b .nil pass0 (pa_cons (pv 0) pa_nil)) (pa_cons (pe_lc (own := [("k", 2)]) (g := gName 2) rfl sc__law_xatan.nd (pi_range1 (by rfl) T.n_range (pa_cons (pe_callB (c_lenK (K := K) rfl) (by rfl) T.n_len (by decide +kernel) (pa_cons (pv 0) pa_nil)) pa_nil)) (blkOk_by (N := ["a", "ones", "k"]) (sc := defScope s__law_xatan) (by decide +kernel)) (fun _ _ _ _ _ => (pg_name (i := 2) sc__law_xatan.nd rfl (Or.inl rfl) (hf := Or.inr rfl))) (fun _ _ _ _ _ => pts_nil) (fun _ _ _ _ _ => (pe_call (ok__law_plus T) (hr.mono (by decide)) (by rfl) T.g__law_plus T.d__law_plus.F.kp T.d__law_plus.b .nil pass0 (pa_cons (pe_ix (ix_listK (K := K) rfl) (pv 1) (pv 2) (fun _ _ => rfl)) (pa_cons (pe_tup (pa_cons (pe_callTy c_toInt (by rfl) T.n_int (by decide +kernel) (pa_cons (pe_cmpR op_eq (pv 2) pe_int (nomark _)) pa_nil)) (pa_cons pe_int pa_nil))) pa_nil))))) pa_nil))) pa_nil))))), ?_⟩
  have wm := mulL_w g.ge h7 h1 h1
  refine s_set (EN.e (e_RR (e_var ha rfl) (e_var ha rfl) ⟨rfl, h7, D, M, wx, g, h1, h1, by dsimp only; omega⟩)) ex fun v2 H2 F2 g2 hv2 => ?_
  have va' : E (rLst (rQ K)) (tVar 0) [some va, some v2, none] F2 xs := e_var (up g2.k ha) rfl
  have wc : Aw D (wx + wx + 1) (cstL 1 xs.length) := cstL_w g.one (Wd.one g.one)
  have ul : (addL (mulL xs xs) (cstL 1 xs.length)).length = xs.length := by rw [addL_len, mulL_len]
  have wu := addL_w g.ge wm wc
  have u0 : 0 < xs.length → at_ (addL (mulL xs xs) (cstL 1 xs.length)) 0 = 1 := fun hn => by
    rw [add_at (by rw [mulL_len]; exact hn), cst_at hn, if_pos rfl, mul_at0 hn, o]; grind
  have h0 : 0 < xs.length → at_ (addL (mulL xs xs) (cstL 1 xs.length)) 0 ≠ 0 := fun h => by rw [u0 h]; grind
  have wi : at_ (addL (mulL xs xs) (cstL 1 xs.length)) 0 ≠ 0 → Wd D 0 (1 / at_ (addL (mulL xs xs) (cstL 1 xs.length)) 0) := fun h => by
    by_cases hn : 0 < xs.length
    · exact inv_one g (u0 hn)
    · exact absurd (at_over (by rw [ul]; omega)) h
  have ws := wtdL'_w g h7 h1
  have wd : Aw D (wx + 1 + 7 * (wx + wx + 1 + 1 + 0 + 3)) (divL (wtdL' xs) (addL (mulL xs xs) (cstL 1 xs.length))) := by
    by_cases hn : 0 < xs.length
    · exact divL_W (wa := wx + 1) (wb := wx + wx + 1 + 1) (wi := 0) g (by rw [wtdL'_len]; exact h7) ws wu (wi (h0 hn))
    · exact Aw.of fun k hk => by rw [divL_len, wtdL'_len] at hk; omega
  have bot : EN (rQ K) (tLc (iRng1 (tCons (tCB (rLen K) (tCons (tVar 0) tNil)) tNil)) (gName 2) tYes (tCall (spQQ K (· + ·) pT) [] E0 (tCons (tOp (rIxL K) (tVar 1) (tVar 2)) (tCons (tTup (tCons (tCB rToInt (tCons (tOp rEq (tVar 2) (tC (.int 0))) tNil)) (tCons (tC (.int 1)) tNil))) tNil))) [2]) [some va, some v2, none] F2 (addL (mulL xs xs) (cstL 1 xs.length)) := by
    refine (en_lcR (n := (xs.length : Int)) (f := fun k => at_ (mulL xs xs) k + at_ (cstL 1 xs.length) k) (e_len va') (by omega) (by omega) (fun _ => rfl) fun i F hi e => ?_).as (by unfold addL; rw [Int.toNat_natCast, mulL_len])
    have hi' : i < xs.length := by omega
    refine e_QQ (e_at (k := (i : Int)) (e_var (up e hv2) rfl) (e_var rfl rfl) (by omega) (by rw [Int.toNat_natCast]; exact at_get (by rw [mulL_len]; exact hi'))) ?_ (s4 g (wm i) (by omega)) (s4 g (wc i) (by omega)) trivial
    rw [cst_at hi']
    refine (e_pair (e_b2i (e_eqI (e_var rfl rfl) e_int)) e_int ?_ ?_)
    · by_cases z : i = 0
      · subst z; rfl
      · rw [decide_eq_false (by omega), if_neg z]; rfl
    · by_cases z : i = 0
      · subst z; rfl
      · rw [if_neg z]; rfl
  rw [← law_atan xs _ o rfl] at q
  exact s_retN (e_LL (EN.e (e_RR (EN.e (e_LL va' (one7 g h7 h1 (by omega)))) (EN.e bot) ⟨⟨by rw [wtdL'_len, ul], by rw [wtdL'_len]; exact h7, D, M, wx + 1, wx + wx + 1 + 1, 0, g, ws, wu, wi, by omega⟩, fun h => h0 (by rw [wtdL'_len] at h; exact h)⟩)) (one7 g (by rw [divL_len, wtdL'_len]; exact h7) wd (by omega))) g2.f (ResN.from g2 q)
end
end Y8

set_option Elab.async false
set_option linter.all false
set_option maxRecDepth 100000
set_option maxHeartbeats 2000000
/-! # What is due, what is kept -/
namespace Y8
open PySem L2 Y Ser
section
variable {P : Program} {w : World} {K : PySem.W.Frag} {mg : Str → Option Value} {base : Heap}
open Classical in
/-- what a function must tell; none: BadNumber -/
noncomputable def dueF (way : Nat) (xs ys : List Rat) (p : Rat) : Option (List Rat) :=
  match way with
  | 0 => some (mulL xs ys)
  | 1 => if okD xs ys then some (divL xs ys) else none
  | 2 => if okF xs 0 then some (expL xs) else none
  | 3 => if okF xs 1 then some (logL xs) else none
  | 4 => if okF xs 0 then some (tanL xs) else none
  | 5 => if okF xs 0 then some (atanL xs) else none
  | 6 => if okP xs p then some (powL xs p) else none
  | _ => if okA xs ys then some (arcL xs ys) else none
theorem dueF_nil {way : Nat} (h : way ≤ 7) (p : Rat) : dueF way [] [] p = some [] := by
  have : way = 0 ∨ way = 1 ∨ way = 2 ∨ way = 3 ∨ way = 4 ∨ way = 5 ∨ way = 6 ∨ way = 7 := by omega
  rcases this with rfl | rfl | rfl | rfl | rfl | rfl | rfl | rfl
  · rfl
  · unfold dueF; exact if_pos (show okD [] [] from fun h => absurd h (Nat.lt_irrefl 0))
  · unfold dueF; exact if_pos (show okF [] 0 from fun h => absurd h (Nat.lt_irrefl 0))
  · unfold dueF; exact if_pos (show okF [] 1 from fun h => absurd h (Nat.lt_irrefl 0))
  · unfold dueF; exact if_pos (show okF [] 0 from fun h => absurd h (Nat.lt_irrefl 0))
  · unfold dueF; exact if_pos (show okF [] 0 from fun h => absurd h (Nat.lt_irrefl 0))
  · unfold dueF; exact if_pos (show okP [] p from fun h => absurd h (Nat.lt_irrefl 0))
  · unfold dueF; exact if_pos (show okA [] [] from fun h => absurd h (Nat.lt_irrefl 0))
structure PreW (way : Nat) (xs ys : List Rat) (p : Rat) : Prop where
  hw : way ≤ 7
  hl : xs.length = ys.length
  h7 : xs.length ≤ 7
  sz : ∃ D M w wi, Good D M ∧ Aw D w xs ∧ Aw D w ys ∧ Wd D 1 p ∧ (way = 1 → at_ ys 0 ≠ 0 → Wd D wi (1 / at_ ys 0)) ∧ (way = 7 → 1 - at_ xs 0 * at_ ys 0 ≠ 0 → Wd D wi (1 / (1 - at_ xs 0 * at_ ys 0))) ∧ 15 * w + 7 * wi + 60 ≤ M ∧ (way = 6 → 48 * w + 180 ≤ M)
def bn : Str := "BadNumber"
def rDue (K : PySem.W.Frag) : Rp (Option (List Rat)) := fun H v o => match o with
  | some ys => rLst (rQ K) H v ys
  | none => v = .str bn
instance : Mono (rDue K) := ⟨fun {H H' v o} e h => by
  cases o with
  | none => exact h
  | some ys => exact up (r := rLst (rQ K)) e h⟩
theorem e_due {σ : L2.St} {Hk : Hp} {te : TE} {ys : List Rat} {o : Option (List Rat)} (h : E (rLst (rQ K)) te σ Hk ys) (e : o = some ys) : E (rDue K) te σ Hk o := by subst e; exact h
theorem e_bad {σ : L2.St} {Hk : Hp} {o : Option (List Rat)} (e : o = none) : E (rDue K) (tC (.str ("BadNumber" : Str))) σ Hk o := by subst e; exact e_c rfl
def spDue (K : PySem.W.Frag) : Sp := fun vs H Q _ => ∃ Hk, Ex Hk H ∧ ∃ (way : Nat), ∃ va vb vp xs ys p, vs = [.int (way : Int), va, vb, vp] ∧ rLst (rQ K) Hk va xs ∧ rLst (rQ K) Hk vb ys ∧ rQ K Hk vp p ∧ PreW way xs ys p ∧ Res (rDue K) Hk H (dueF way xs ys p) Q
/-- x in (a, b, c) -/
theorem e_in3 {σ : L2.St} {Hk : Hp} {ta : TE} {n a b c : Int} (h : E rInt ta σ Hk n) : E rBl (tOp (rIn K false) ta (tTup (tCons (tC (.int a)) (tCons (tC (.int b)) (tCons (tC (.int c)) tNil))))) σ Hk (decide (n = a ∨ n = b ∨ n = c)) :=
  fun H e Q q => h H e _ fun v H2 F g hv => ⟨by show 3 ≤ sizeLine; decide, fun p hp => ⟨p, _, rfl, .inr (st_of upd_same), by cases hv; rfl, rfl, q _ _ F ⟨g.h.trans (Ex.new hp), g.k, g.f.trans (Ex.new hp), g.n⟩ (by
    cases hv
    show V.bl ((a == n) || ((b == n) || ((c == n) || false))) = V.bl _
    congr 1
    rw [Bool.eq_iff_iff]; simp only [Bool.or_false, Bool.or_eq_true, beq_iff_eq, decide_eq_true_eq]; omega)⟩⟩
theorem e_in2 {σ : L2.St} {Hk : Hp} {ta : TE} {n a b : Int} (h : E rInt ta σ Hk n) : E rBl (tOp (rIn K false) ta (tTup (tCons (tC (.int a)) (tCons (tC (.int b)) tNil)))) σ Hk (decide (n = a ∨ n = b)) :=
  fun H e Q q => h H e _ fun v H2 F g hv => ⟨by show 2 ≤ sizeLine; decide, fun p hp => ⟨p, _, rfl, .inr (st_of upd_same), by cases hv; rfl, rfl, q _ _ F ⟨g.h.trans (Ex.new hp), g.k, g.f.trans (Ex.new hp), g.n⟩ (by
    cases hv
    show V.bl ((a == n) || ((b == n) || false)) = V.bl _
    congr 1
    rw [Bool.eq_iff_iff]; simp only [Bool.or_false, Bool.or_eq_true, beq_iff_eq, decide_eq_true_eq]; omega)⟩⟩
theorem mix_one (xs ys : List Rat) : mixL xs 1 ys 1 = addL xs ys := by
  unfold mixL addL
  exact List.map_congr_left fun i _ => by grind
theorem sub_cst {n k : Nat} (h : k < n) : at_ (cstL 1 n) k = if k = 0 then 1 else 0 := cst_at h
theorem ok__law_due (T : Txt K mg) : FnOk P w K mg base CX0 6 T.d__law_due.a T.d__law_due.fd ["way", "a", "b", "number"] (spDue K) := by
  refine T.d__law_due.F.ok sc__law_due (fun vs H Q Ew h => ?_) (fun cdv A outer s H vs Q Ew hr h => ?_)
  · obtain ⟨_, _, _, _, _, _, _, _, _, rfl, _⟩ := h; rfl
  · obtain ⟨Hk, ex, way, va, vb, vp, xs, ys, p, rfl, ha, hb, hp, ⟨h8, hl, h7, D, M, wx, wi, g, h1, h2, h3, i1, i7, hw, hw6⟩, q⟩ := h
    refine ⟨_, (pss_cons (ps_if (pt_cmpR (op_eqD hr.units) (pv 1) (pe_lst pa_nil) (nomark _)) (pss_one (ps_ret (pe_lst pa_nil))) pss_nil)
      (pss_cons (ps_if (pt_cmpR op_eq (pv 0) pe_int (nomark _)) (pss_one (ps_ret (pe_call (ok__law_xmul T) (hr.mono (by decide)) (by rfl) T.g__law_xmul T.d__law_xmul.F.kp T.d__law_xmul.b .nil pass0 (pa_cons (pv 1) (pa_cons (pv 2) pa_nil))))) pss_nil)
      (pss_cons (ps_if (pt_cmpR op_eq (pv 0) pe_int (nomark _)) (pss_one (ps_ret (pe_ifExp (pt_cmpR op_ne (pe_ix (ix_tupK (K := K) rfl) (pe_ix (ix_listK (K := K) rfl) (pv 2) pe_int (fun _ _ => rfl)) pe_int (fun _ _ => rfl)) pe_int (nomark _)) (pe_call (ok__law_xdiv T) (hr.mono (by decide)) (by rfl) T.g__law_xdiv T.d__law_xdiv.F.kp T.d__law_xdiv.b .nil pass0 (pa_cons (pv 1) (pa_cons (pv 2) pa_nil))) pe_str))) pss_nil)
      (pss_cons (ps_if (pt_cmpR op_in_seq (pv 0) (pe_tup (pa_cons pe_int (pa_cons pe_int (pa_cons pe_int pa_nil)))) (by rfl)) (pss_cons (ps_if (pt_cmpR op_ne (pe_ix (ix_tupK (K := K) rfl) (pe_ix (ix_listK (K := K) rfl) (pv 1) pe_int (fun _ _ => rfl)) pe_int (fun _ _ => rfl)) pe_int (nomark _)) (pss_one (ps_ret pe_str)) pss_nil)
      (pss_one (ps_ret (pe_ifExp (pt_cmpR op_eq (pv 0) pe_int (nomark _)) (pe_call (ok__law_xexp T) (hr.mono (by decide)) (by rfl) T.g__law_xexp T.d__law_xexp.F.kp T.d__law_xexp.b .nil pass0 (pa_cons (pv 1) pa_nil)) (pe_ifExp (pt_cmpR op_eq (pv 0) pe_int (nomark _)) (pe_call (ok__law_xtan T) (hr.mono (by decide)) (by rfl) T.g__law_xtan T.d__law_xtan.F.kp T.d__law_xtan.b .nil pass0 (pa_cons (pv 1) pa_nil)) (pe_call (ok__law_xatan T) (hr.mono (by decide)) (by rfl) T.g__law_xatan T.d__law_xatan.F.kp T.d__law_xatan.b .nil pass0 (pa_cons (pv 1) pa_nil))))))) pss_nil)
      (pss_cons (ps_if (pt_cmpR op_in_seq (pv 0) (pe_tup (pa_cons pe_int (pa_cons pe_int pa_nil))) (by rfl)) (pss_cons (ps_if (pt_cmpR (op_neD hr.units) (pe_ix (ix_listK (K := K) rfl) (pv 1) pe_int (fun _ _ => rfl)) (pe_tup (pa_cons pe_int (pa_cons pe_int pa_nil))) (nomark _)) (pss_one (ps_ret pe_str)) pss_nil)
      (pss_cons (ps_set (i := 4) sc__law_due.nd rfl (Or.inr rfl) (pe_call (ok__law_xlog T) (hr.mono (by decide)) (by rfl) T.g__law_xlog T.d__law_xlog.F.kp T.d__law_xlog.b .nil pass0 (pa_cons (pv 1) pa_nil)))
      (pss_one (ps_ret (pe_ifExp (pt_cmpR op_eq (pv 0) pe_int (nomark _)) (pv 4) (pe_call (ok__law_xexp T) (hr.mono (by decide)) (by rfl) T.g__law_xexp T.d__law_xexp.F.kp T.d__law_xexp.b .nil pass0 (pa_cons (pe_call (ok__law_xmix T) (hr.mono (by decide)) (by rfl) T.g__law_xmix T.d__law_xmix.F.kp T.d__law_xmix.b .nil pass0 (pa_cons (pv 4) (pa_cons (pv 3) (pa_cons (pv 4) (pa_cons (pe_tup (pa_cons pe_int (pa_cons pe_int pa_nil))) pa_nil))))) pa_nil))))))) pss_nil)
      (pss_cons (ps_if (pt_cmpR (op_eqD hr.units) (pe_call (ok__law_by T) (hr.mono (by decide)) (by rfl) T.g__law_by T.d__law_by.F.kp T.d__law_by.b .nil pass0 (pa_cons (pe_ix (ix_listK (K := K) rfl) (pv 1) pe_int (fun _ _ => rfl)) (pa_cons (pe_ix (ix_listK (K := K) rfl) (pv 2) pe_int (fun _ _ => rfl)) pa_nil))) (pe_tup (pa_cons pe_int (pa_cons pe_int pa_nil))) (nomark _)) (pss_one (ps_ret pe_str)) pss_nil)
      (pss_cons (ps_set (i := 4) sc__law_due.nd rfl (Or.inr rfl) (pe_call (ok__law_xmul T) (hr.mono (by decide)) (by rfl) T.g__law_xmul T.d__law_xmul.F.kp T.d__law_xmul.b .nil pass0 (pa_cons (pv 1) (pa_cons (pv 2) pa_nil))))
      (pss_cons (ps_setLc (i := 5) (own := [("k", 6)]) (g := gName 6) rfl sc__law_due.nd rfl rfl (sw_true rfl rfl rfl (by decide +kernel)) (pi_range1 (by rfl) T.n_range (pa_cons (pe_callB (c_lenK (K := K) rfl) (by rfl) T.n_len (by decide +kernel) (pa_cons (pv 4) pa_nil)) pa_nil)) (blkOk_by (N := ["way", "a", "b", "number", "made", "bottom", "k"]) (sc := defScope s__law_due) (by decide +kernel)) (fun _ _ _ _ _ => (pg_name (i := 6) sc__law_due.nd rfl (Or.inl rfl) (hf := Or.inr rfl))) (fun _ _ _ _ _ => pts_nil) (fun _ _ _ _ _ => (pe_call (ok__law_minus T) (hr.mono (by decide)) (by rfl) T.g__law_minus T.d__law_minus.F.kp T.d__law_minus.b .nil pass0 (pa_cons (pe_tup (pa_cons (pe_callTy c_toInt (by rfl) T.n_int (by decide +kernel) (pa_cons (pe_cmpR op_eq (pv 6) pe_int (nomark _)) pa_nil)) (pa_cons pe_int pa_nil))) (pa_cons (pe_ix (ix_listK (K := K) rfl) (pv 4) (pv 6) (fun _ _ => rfl)) pa_nil)))))
      (pss_one (ps_ret (pe_call (ok__law_xdiv T) (hr.mono (by decide)) (by rfl) T.g__law_xdiv T.d__law_xdiv.F.kp T.d__law_xdiv.b .nil pass0 (pa_cons (pe_call (ok__law_xmix T) (hr.mono (by decide)) (by rfl) T.g__law_xmix T.d__law_xmix.F.kp T.d__law_xmix.b .nil pass0 (pa_cons (pv 1) (pa_cons (pe_tup (pa_cons pe_int (pa_cons pe_int pa_nil))) (pa_cons (pv 2) (pa_cons (pe_tup (pa_cons pe_int (pa_cons pe_int pa_nil))) pa_nil))))) (pa_cons (pv 5) pa_nil))))))))))))), ?_⟩
    have vw : E rInt (tVar 0) (L2.start ["way", "a", "b", "number", "made", "bottom", "k"] [.int (way : Int), va, vb, vp]) Hk (way : Int) := e_var rfl rfl
    have va' : E (rLst (rQ K)) (tVar 1) (L2.start ["way", "a", "b", "number", "made", "bottom", "k"] [.int (way : Int), va, vb, vp]) Hk xs := e_var ha rfl
    have vb' : E (rLst (rQ K)) (tVar 2) (L2.start ["way", "a", "b", "number", "made", "bottom", "k"] [.int (way : Int), va, vb, vp]) Hk ys := e_var hb rfl
    refine s_if (K := Hk) (t_test (e_eqNil (s := rInt) va' en_nil)) ex (fun c H1 e1 => ?_) (fun c H1 e1 => ?_)
    · have z := of_decide_eq_true c
      subst z
      have z2 : ys = [] := List.eq_nil_of_length_eq_zero hl.symm
      subst z2
      rw [dueF_nil h8] at q
      exact s_ret (EN.e (r := rQ K) en_nil) (ex.trans e1) (Res.at (r := rLst (rQ K)) ex e1 q)
    have hn : 0 < xs.length := List.length_pos_iff.mpr (of_decide_eq_false c)
    have x1 := ex.trans e1
    have Q1 := Res.at ex e1 q
    refine s_if (K := Hk) (t_test (e_eqI vw e_int)) x1 (fun c H2 e2 => ?_) (fun c H2 e2 => ?_)
    · have z : way = 0 := by have := of_decide_eq_true c; omega
      subst z
      exact s_ret (e_due (EN.e (e_RR va' vb' ⟨hl, h7, D, M, wx, g, h1, h2, by dsimp only; omega⟩)) rfl) (x1.trans e2) (Res.at x1 e2 Q1)
    have w0 : way ≠ 0 := by have := of_decide_eq_false c; omega
    have x2 := x1.trans e2
    have Q2 := Res.at x1 e2 Q1
    refine s_if (K := Hk) (t_test (e_eqI vw e_int)) x2 (fun c H3 e3 => ?_) (fun c H3 e3 => ?_)
    · have z : way = 1 := by have := of_decide_eq_true c; omega
      subst z
      refine s_ret (e_if (t_test (e_neI (e_top (e_at0 vb' (by omega))) e_int)) (fun c => ?_) (fun c => ?_)) (x2.trans e3) (Res.at x2 e3 Q2)
      · have o : okD xs ys := fun _ z => by rw [z] at c; exact absurd c (by decide)
        exact e_due (EN.e (e_RR va' vb' ⟨⟨hl, h7, D, M, wx, wx, wi, g, h1, h2, i1 rfl, by omega⟩, o⟩)) (if_pos o)
      · have o : ¬ okD xs ys := fun o => by
          rw [Bool.not_eq_false', decide_eq_true_eq] at c
          exact absurd c (num_ne (o hn))
        exact e_bad (if_neg o)
    have w1 : way ≠ 1 := by have := of_decide_eq_false c; omega
    have x3 := x2.trans e3
    have Q3 := Res.at x2 e3 Q2
    refine s_if (K := Hk) (t_test (e_in3 vw)) x3 (fun c H4 e4 => ?_) (fun c H4 e4 => ?_)
    · have z : way = 2 ∨ way = 4 ∨ way = 5 := by have := of_decide_eq_true c; omega
      have x4 := x3.trans e4
      have Q4 := Res.at x3 e4 Q3
      refine s_if (K := Hk) (t_test (e_neI (e_top (e_at0 va' hn)) e_int)) x4 (fun c H5 e5 => ?_) (fun c H5 e5 => ?_)
      · have o : ¬ okF xs 0 := fun o => by rw [o hn] at c; exact absurd c (by decide)
        refine s_ret (e_bad ?_) (x4.trans e5) (Res.at x4 e5 Q4)
        rcases z with rfl | rfl | rfl <;> exact if_neg o
      · have o0 : at_ xs 0 = 0 := Classical.byContradiction fun h => by
          rw [Bool.not_eq_false', decide_eq_true_eq] at c
          exact absurd c (num_ne h)
        have o : okF xs 0 := fun _ => o0
        refine s_ret (e_if (t_test (e_eqI vw e_int)) (fun c => ?_) fun c => e_if (t_test (e_eqI vw e_int)) (fun c' => ?_) fun c' => ?_) (x4.trans e5) (Res.at x4 e5 Q4)
        · have z : way = 2 := by have := of_decide_eq_true c; omega
          subst z
          exact e_due (EN.e (e_LL va' ⟨h7, D, M, wx, g, h1, by dsimp only; omega⟩)) (if_pos o)
        · have z : way = 4 := by have := of_decide_eq_true c'; omega
          subst z
          exact e_due (EN.e (e_LL va' ⟨h7, D, M, wx, g, h1, by dsimp only; omega⟩)) (if_pos o)
        · have z : way = 5 := by have := of_decide_eq_false c; have := of_decide_eq_false c'; omega
          subst z
          exact e_due (EN.e (e_LL va' ⟨⟨h7, D, M, wx, g, h1, by dsimp only; omega⟩, o0⟩)) (if_pos o)
    have w245 : ¬ (way = 2 ∨ way = 4 ∨ way = 5) := by have := of_decide_eq_false c; omega
    have x4 := x3.trans e4
    have Q4 := Res.at x3 e4 Q3
    refine s_if (K := Hk) (t_test (e_in2 vw)) x4 (fun c H5 e5 => ?_) (fun c H5 e5 => ?_)
    · have z : way = 3 ∨ way = 6 := by have := of_decide_eq_true c; omega
      have x5 := x4.trans e5
      have Q5 := Res.at x4 e5 Q4
      refine s_if (K := Hk) (t_test (e_neQ (e_at0 va' hn) o_pair)) x5 (fun c H6 e6 => ?_) (fun c H6 e6 => ?_)
      · have o : ¬ okF xs 1 := fun o => by rw [o hn] at c; exact absurd c (by decide)
        refine s_ret (e_bad ?_) (x5.trans e6) (Res.at x5 e6 Q5)
        rcases z with rfl | rfl <;> exact if_neg o
      · have o : okF xs 1 := fun _ => by
          rw [Bool.not_eq_false', decide_eq_true_eq] at c
          exact c
        have x6 := x5.trans e6
        have Q6 := Res.at x5 e6 Q5
        refine s_set (EN.e (e_LL va' ⟨⟨h7, D, M, wx, g, h1, by dsimp only; omega⟩, o⟩)) x6 fun v4 H7 F7 g7 hv4 => ?_
        have vl : E (rLst (rQ K)) (tVar 4) [some (.int (way : Int)), some va, some vb, some vp, some v4, none, none] F7 (logL xs) := e_var hv4 rfl
        have wl := logL_W g h7 h1 o
        refine s_ret (e_if (t_test (e_eqI (e_var (x := (way : Int)) rfl rfl) e_int)) (fun c => ?_) fun c => ?_) g7.f (Res.from g7 Q6)
        · have z : way = 3 := by have := of_decide_eq_true c; omega
          subst z
          exact e_due vl (if_pos o)
        · have z : way = 6 := by have := of_decide_eq_false c; omega
          subst z
          have m := hw6 rfl
          have l7 : (logL xs).length ≤ 7 := by rw [logL_len]; exact h7
          have wm := mixL_w (s := p) (t := 0) g.ge wl wl h3 Wd.zero
          refine e_due (EN.e ((e_LL (EN.e (e_mix vl (e_var (up g7.k hp) rfl) vl z_pair rfl l7 g wl wl h3 Wd.zero (by omega))) ⟨by rw [mixL_len]; exact l7, D, M, _, g, wm, by dsimp only; omega⟩).as ?_)) (if_pos o)
          exact exp_log_pow xs p _ o (by rw [mixL_len, logL_len]) fun k hk => by
            rw [show at_ (mixL (logL xs) p (logL xs) 0) k = _ from at_range (by rw [logL_len]; exact hk)]; grind
    have w36 : ¬ (way = 3 ∨ way = 6) := by have := of_decide_eq_false c; omega
    have z : way = 7 := by omega
    subst z
    have x5 := x4.trans e5
    have Q5 := Res.at x4 e5 Q4
    have hny : 0 < ys.length := by omega
    refine s_if (K := Hk) (t_test (e_eqQ (e_QQ (e_at0 va' hn) (e_at0 vb' hny) (s4 g (h1 0) (by omega)) (s4 g (h2 0) (by omega)) trivial) o_pair)) x5 (fun c H6 e6 => ?_) (fun c H6 e6 => ?_)
    · have o : ¬ okA xs ys := fun o => o hn (of_decide_eq_true c)
      exact s_ret (e_bad (if_neg o)) (x5.trans e6) (Res.at x5 e6 Q5)
    have o : okA xs ys := fun _ => of_decide_eq_false c
    have x6 := x5.trans e6
    have Q6 := Res.at x5 e6 Q5
    have wm := mulL_w g.ge h7 h1 h2
    refine s_set (EN.e (e_RR va' vb' ⟨hl, h7, D, M, wx, g, h1, h2, by dsimp only; omega⟩)) x6 fun v4 H7 F7 g7 hv4 => ?_
    have wc : Aw D (wx + wx + 1) (cstL 1 xs.length) := cstL_w g.one (Wd.one g.one)
    refine s_set (EN.e ((en_lcR (r := rQ K) (n := (xs.length : Int)) (f := fun k => at_ (cstL 1 xs.length) k - at_ (mulL xs ys) k) ((e_len (e_var hv4 rfl)).as (by rw [mulL_len])) (by omega) (by omega) (fun _ => rfl) fun i F hi e => ?_).as (xs' := subL (cstL 1 xs.length) (mulL xs ys)) (by unfold subL; rw [Int.toNat_natCast, cstL_len]))) g7.f fun v5 H8 F8 g8 hv5 => ?_
    · have hi' : i < xs.length := by omega
      refine e_QQ ?_ (e_at (k := (i : Int)) (e_var (up e hv4) rfl) (e_var rfl rfl) (by omega) (by rw [Int.toNat_natCast]; exact at_get (by rw [mulL_len]; exact hi'))) (s4 g (wc i) (by omega)) (s4 g (wm i) (by omega)) trivial
      rw [sub_cst hi']
      refine (e_pair (e_b2i (e_eqI (e_var rfl rfl) e_int)) e_int ?_ ?_)
      · by_cases z : i = 0
        · subst z; rfl
        · rw [decide_eq_false (by omega), if_neg z]; rfl
      · by_cases z : i = 0
        · subst z; rfl
        · rw [if_neg z]; rfl
    have g78 := g7.trans g8
    have wa : Aw D (wx + 1) (addL xs ys) := addL_w g.ge h1 h2
    have sl : (subL (cstL 1 xs.length) (mulL xs ys)).length = xs.length := by rw [subL_len, cstL_len]
    have wu := subL_w g.ge wc wm
    have wi' : at_ (subL (cstL 1 xs.length) (mulL xs ys)) 0 ≠ 0 → Wd D wi (1 / at_ (subL (cstL 1 xs.length) (mulL xs ys)) 0) := fun h => by
      rw [arc_0 hn] at h ⊢; exact i7 rfl h
    refine s_ret (e_due (EN.e (e_RR ((EN.e (e_mix (e_var (up g78.k ha) rfl) o_pair (e_var (up g78.k hb) rfl) o_pair hl h7 g h1 h2 (Wd.one g.one) (Wd.one g.one) (show 0 + wx + 1 ≤ M by omega))).as (mix_one xs ys)) (e_var hv5 rfl)
      ⟨⟨by rw [addL_len, sl], by rw [addL_len]; exact h7, D, M, wx + 1, wx + wx + 1 + 1, wi, g, wa, wu, wi', by omega⟩, fun h => by rw [arc_0 hn]; have := o hn; grind⟩)) (if_pos o)) g8.f (Res.from g78 Q6)
end
end Y8

set_option Elab.async false
set_option linter.all false
set_option maxRecDepth 100000
set_option maxHeartbeats 2000000
/-! # What a function tells, or BadNumber; what was handed in -/
namespace Y8
open PySem L2 Y Ser
section
variable {P : Program} {w : World} {K : PySem.W.Frag} {mg : Str → Option Value} {base : Heap}
theorem takes0N {X : Cx} : L2N.Takes X (fun _ _ _ _ => False) := fun _ _ x => by
  obtain ⟨_, _, _, _, _, _, _, _, _, _, _, _, _, _, _, _, z⟩ := x
  exact z.elim
theorem okH__law_like (T : Txt K mg) : L2H.FnH P w K mg base CX0 2 T.d__law_like.a T.d__law_like.fd ["told", "due"] spLike := by
  refine T.d__law_like.F.okH sc__law_like (fun vs H Q Ew h => ?_) (fun cdv A outer s H vs Q Ew p hr h => ?_)
  · obtain ⟨_, _, z, rfl, _⟩ := h; rfl
  · obtain ⟨Hk, ex, z, rfl, q⟩ := h
    refine ⟨_, (pss_cons (ps_if (pt_val (pe_callB (c_isiK (K := K) rfl) (by rfl) T.n_isinstance (by decide +kernel) (pa_cons (pv 1) (pa_cons (pe_bltn (v := .ty "bool") (by rfl) T.n_bool (by decide +kernel) rfl) pa_nil)))) pss_never pss_nil)
      (pss_cons (ps_if (pt_val (pe_callB (c_isiK (K := K) rfl) (by rfl) T.n_isinstance (by decide +kernel) (pa_cons (pv 1) (pa_cons (pe_bltn (v := .ty "int") (by rfl) T.n_int (by decide +kernel) rfl) pa_nil)))) pss_never pss_nil)
      (pss_cons (ps_if (pt_val (pe_callB (c_isiK (K := K) rfl) (by rfl) T.n_isinstance (by decide +kernel) (pa_cons (pv 1) (pa_cons (pe_bltn (v := .ty "str") (by rfl) T.n_str (by decide +kernel) rfl) pa_nil)))) (pss_one (ps_ret (pe_and (pe_callB (c_isiK (K := K) rfl) (by rfl) T.n_isinstance (by decide +kernel) (pa_cons (pv 0) (pa_cons (pe_bltn (v := .ty "str") (by rfl) T.n_str (by decide +kernel) rfl) pa_nil))) (pe_one (pe_cmpR op_eq (pv 0) (pv 1) (nomark _)))))) pss_nil)
      pss_never))), ?_⟩
    have v0 : E rStr (tVar 0) (L2.start ["told", "due", "k"] [.str z, .str z]) Hk z := e_var rfl rfl
    have v1 : E rStr (tVar 1) (L2.start ["told", "due", "k"] [.str z, .str z]) Hk z := e_var rfl rfl
    refine s_if (K := Hk) (b := false) (t_b (e_isi v1 (.ty _) ty_str kSB)) ex (fun c => nomatch c) (fun _ H1 e1 => ?_)
    refine s_if (K := Hk) (b := false) (t_b (e_isi v1 (.ty _) ty_str kSI)) (ex.trans e1) (fun c => nomatch c) (fun _ H2 e2 => ?_)
    refine s_if (K := Hk) (b := true) (t_b (e_isi v1 (.ty _) ty_str kSS)) ((ex.trans e1).trans e2) (fun _ H3 e3 => ?_) (fun c => nomatch c)
    exact s_ret ((e_andV (e_isi v0 (.ty _) ty_str kSS) fun _ => e_eqS v0 v1).as (by simp)) (((ex.trans e1).trans e2).trans e3) (Res.at ex ((e1.trans e2).trans e3) q)
/-! ### readings of calls within try -/
theorem e_callS {α : Type} {r : Rp α} {x : α} {σ : L2.St} {Hk : Hp} {P : PP} {sp : Sp} {Ef : L2.St → XK} {tr : TA} (h : EA P tr σ Hk) (hs : ∀ F H vs Q, Ex F H → P F vs → Res r F H x Q → sp vs H Q (Ef σ)) : E r (tCallS sp Ef tr) σ Hk x :=
  fun H a Q q => h H a _ fun vs H2 F g hp => hs F H2 vs Q g.f hp fun v H' F' g' hv => q v H' F' (g.trans g') hv
theorem en_callS {α : Type} {r : Rp α} {xs : List α} {σ : L2.St} {Hk : Hp} {P : PP} {sp : Sp} {Ef : L2.St → XK} {tr : TA} (h : EA P tr σ Hk) (hs : ∀ F H vs Q, Ex F H → P F vs → ResN r F H xs Q → sp vs H Q (Ef σ)) : EN r (tCallS sp Ef tr) σ Hk xs :=
  fun H a Q q => h H a _ fun vs H2 F g hp => hs F H2 vs Q g.f hp fun p ws H' F' g' fp hp' h' hv => q p ws H' F' (g.trans g') fp (g.h.free hp') h' hv
theorem xx_callS {C : Addr} {σ : L2.St} {Hk : Hp} {P : PP} {sp : Sp} {Ef : L2.St → XK} {tr : TA} (h : EA P tr σ Hk) (hs : ∀ F H vs Q, Ex F H → P F vs → ResX C F H (Ef σ) → sp vs H Q (Ef σ)) : XX C (tCallS sp Ef tr) σ Hk (Ef σ) :=
  fun H a q Q => h H a _ fun vs H2 F g hp => hs F H2 vs Q g.f hp (q.from g)
theorem xx_if {C : Addr} {σ : L2.St} {Hk : Hp} {t : TT} {b : Bool} {ta tb : TE} {Ew : XK} (h : T t σ Hk b) (h1 : b = true → XX C ta σ Hk Ew) (h2 : b = false → XX C tb σ Hk Ew) : XX C (tIf t ta tb) σ Hk Ew := fun H e q Q => h H e _ fun H2 e2 => by
  cases b with
  | true => exact h1 rfl H2 (e.trans e2) (q.from (Grow.of e e2)) Q
  | false => exact h2 rfl H2 (e.trans e2) (q.from (Grow.of e e2)) Q
section
variable {α β γ : Type} {C : Addr} {r : Rp α} {r' : Rp γ} {s : Rp β} [Mono r] [Mono r'] {f : List α → List β} {f2 : List α → γ → List β} {pre ok : List α → Prop} {pre2 ok2 : List α → γ → Prop} {σ : L2.St} {Hk : Hp} {ta tb : TE} {xs : List α} {ys : γ} {Ef : L2.St → XK}
theorem e_LXs (ha : E (rLst r) ta σ Hk xs) (hp : pre xs) (ho : ok xs) : EN s (tCallS (spLX C r s f pre ok) Ef (tCons ta tNil)) σ Hk (f xs) :=
  en_callS (ea_cons ha ea_nil) fun F H vs Q ex hv k => by
    obtain ⟨v, ws, rfl, hv, hn⟩ := hv
    cases hn
    exact ⟨F, ex, v, xs, rfl, hv, hp, .inl ⟨ho, k⟩⟩
theorem x_LXs (ha : E (rLst r) ta σ Hk xs) (hp : pre xs) (ho : ¬ ok xs) : XX C (tCallS (spLX C r s f pre ok) Ef (tCons ta tNil)) σ Hk (Ef σ) :=
  xx_callS (ea_cons ha ea_nil) fun F H vs Q ex hv k => by
    obtain ⟨v, ws, rfl, hv, hn⟩ := hv
    cases hn
    exact ⟨F, ex, v, xs, rfl, hv, hp, .inr ⟨ho, k⟩⟩
theorem e_RXs (ha : E (rLst r) ta σ Hk xs) (hb : E r' tb σ Hk ys) (hp : pre2 xs ys) (ho : ok2 xs ys) : EN s (tCallS (spRX C r r' s f2 pre2 ok2) Ef (tCons ta (tCons tb tNil))) σ Hk (f2 xs ys) :=
  en_callS (ea_cons ha (ea_cons hb ea_nil)) fun F H vs Q ex hv k => by
    obtain ⟨v, ws, rfl, hv, v2, ws2, rfl, hv2, hn⟩ := hv
    cases hn
    exact ⟨F, ex, v, v2, xs, ys, rfl, hv, hv2, hp, .inl ⟨ho, k⟩⟩
theorem x_RXs (ha : E (rLst r) ta σ Hk xs) (hb : E r' tb σ Hk ys) (hp : pre2 xs ys) (ho : ¬ ok2 xs ys) : XX C (tCallS (spRX C r r' s f2 pre2 ok2) Ef (tCons ta (tCons tb tNil))) σ Hk (Ef σ) :=
  xx_callS (ea_cons ha (ea_cons hb ea_nil)) fun F H vs Q ex hv k => by
    obtain ⟨v, ws, rfl, hv, v2, ws2, rfl, hv2, hn⟩ := hv
    cases hn
    exact ⟨F, ex, v, v2, xs, ys, rfl, hv, hv2, hp, .inr ⟨ho, k⟩⟩
end
theorem e_xf {α : Type} {r : Rp α} {σ : L2.St} {F : Hp} {a C dd : Addr} {f : Str} {fs : List (Str × V)} {v : V} {x : α} {i : Nat} (hi : σ[i]? = some (some (.ref a))) (hd : F dd = some (.xd fs)) (hl : fs.lookup f = some v) (hr : r F v x) : E r (tXf a (.ref C) (some dd) C f (tVar i)) σ F x :=
  fun H e Q q => ⟨.ref a, hi, rfl, rfl, dd, fs, v, rfl, e _ _ hd, hl, q v H F (Grow.refl e) hr⟩
def ResT (C : Addr) (Hk H : Hp) (o : Option (List Rat)) (Q : VK) : Prop := match o with
  | some ys => ResN (rRat C) Hk H ys Q
  | none => Res rStr Hk H bn Q
theorem ResT.at {C : Addr} {Hk H H' : Hp} {o : Option (List Rat)} {Q : VK} (ex : Ex Hk H) (e : Ex H H') (h : ResT C Hk H o Q) : ResT C Hk H' o Q := by
  cases o with
  | none => exact Res.at (r := rStr) ex e h
  | some ys => exact ResN.at (r := rRat C) ex e h
def spSo (K : PySem.W.Frag) (C : Addr) : Sp := fun vs H Q _ => ∃ Hk, Ex Hk H ∧ ∃ (way : Nat), ∃ va vb vp xs ys p, vs = [.int (way : Int), va, vb, vp] ∧ rLst (rNum C) Hk va xs ∧ rLst (rNum C) Hk vb ys ∧ rNum C Hk vp p ∧ PreW way xs ys p ∧ ResT C Hk H (dueF way xs ys p) Q
/-- the suite of the handler -/
def tsB (K : PySem.W.Frag) (C : Addr) : Addr → Value → Option Addr → TS := fun a cls d =>
  tRet (tIf (tAnd (tB (tCB (rIsi K) (tCons (tXf a cls d C ("why" : Str) (tVar 4)) (tCons (tC (.ty "str")) tNil)))) (tAnd (tTest (tOp rNe (tXf a cls d C ("why" : Str) (tVar 4)) (tC (.str ("" : Str))))) (tB (tCallS spLike (fun _ => E0) (tCons (tXf a cls d C ("code" : Str) (tVar 4)) (tCons (tC (.str ("BadNumber" : Str))) tNil)))))) (tC (.str ("BadNumber" : Str))) (tC (.str ("?" : Str))))
theorem handled (T : Txt K mg) {D : Ends} {x0 x1 x2 x3 x4 : Option V} {Hk H : Hp} {Q : VK} (hD : D.rt = Q) (q : Res rStr Hk H bn Q) : ResX T.cN Hk H (WE (wAs K (.ref T.cN) 4 (tsB K T.cN) (fun _ _ _ _ => False) D) [x0, x1, x2, x3, x4]) :=
  fun d H' F g ⟨fs, hd, hc, z, hw, hz⟩ => ⟨true, T.teN, fun _ a ha => by
    have w1 : E rStr (tXf a (.ref T.cN) (some d) T.cN ("why" : Str) (tVar 4)) [x0, x1, x2, x3, some (.ref a)] F z := e_xf rfl hd hw rfl
    have c1 : E rStr (tXf a (.ref T.cN) (some d) T.cN ("code" : Str) (tVar 4)) [x0, x1, x2, x3, some (.ref a)] F bn := e_xf rfl hd hc rfl
    refine s_ret (r := rStr) (x := bn) (e_if (b := true) ((t_and (t_b (e_isi w1 (.ty _) ty_str kSS)) fun _ => t_and (t_test (e_neS w1 e_str)) fun _ => t_b (e_callS (ea_cons c1 (ea_cons (r := rStr) (x := bn) e_str ea_nil)) fun F H vs Q ex hp r => ?_)).as (by rw [decide_eq_false hz]; rfl)) (fun _ => e_str) (fun h => nomatch h)) g.f (by rw [hD]; exact fun v H2 F2 g2 hv => q v H2 F2 (g.trans g2) hv)
    obtain ⟨v, ws, rfl, hv, v2, ws2, rfl, hv2, hn⟩ := hp
    cases hv; cases hv2; cases hn
    exact ⟨F, ex, bn, rfl, r⟩, fun h => nomatch h⟩
theorem some_of {c : Prop} {dc : Decidable c} {x y : List Rat} (h : (if c then some x else none) = some y) : c ∧ y = x := by
  by_cases hc : c
  · rw [if_pos hc] at h; cases h; exact ⟨hc, rfl⟩
  · rw [if_neg hc] at h; cases h
theorem none_of {c : Prop} {dc : Decidable c} {x : List Rat} (h : (if c then some x else none) = none) : ¬ c := fun hc => by rw [if_pos hc] at h; cases h
theorem s_retT {C C' : Addr} {D : Ends} {te : TE} {σ : L2.St} {Hk H H' : Hp} {o : Option (List Rat)} {Q : VK} {Ew : XK} (ex : Ex Hk H) (e : Ex H H') (hD : D.rt = Q) (q : ResT C Hk H o Q) (hX : Res rStr Hk H' bn Q → ResX C' Hk H' Ew)
    (h1 : ∀ ys, o = some ys → EN (rRat C) te σ Hk ys) (h2 : o = none → XX C' te σ Hk Ew) : tRet te D σ H' := by
  have q' := ResT.at ex e q
  cases o with
  | some ys => exact s_retN (h1 ys rfl) (ex.trans e) (by rw [hD]; exact q')
  | none => exact s_retX (h2 rfl) (ex.trans e) (hX q')
theorem ok__law_called_so (T : Txt K mg) : FnOk P w K mg base CX0 8 T.d__law_called_so.a T.d__law_called_so.fd ["way", "a", "b", "number"] (spSo K T.cR) := by
  refine T.d__law_called_so.F.ok sc__law_called_so (fun vs H Q Ew h => ?_) (fun cdv A outer s H vs Q Ew hr h => ?_)
  · obtain ⟨_, _, _, _, _, _, _, _, _, rfl, _⟩ := h; rfl
  · obtain ⟨Hk, ex, way, va, vb, vp, xs, ys, p, rfl, ha, hb, hp, ⟨h8, hl, h7, D, M, wx, wi, g, h1, h2, h3, i1, i7, hw, hw6⟩, q⟩ := h
    refine ⟨_, (pss_one (L2N.ps_try_as (i := 4) (Wout := fun _ _ _ _ => False) rfl rfl sc__law_called_so.nd rfl rfl ⟨rfl, by decide, Or.inl T.g_BadNumber⟩ takes0N (fun W pn xe tk po => (pss_cons (ps_if (pt_cmpR op_lt (pv 0) pe_int (nomark _)) (pss_one (ps_ret (pe_ifExp (pt_cmpR op_eq (pv 0) pe_int (nomark _)) (pe_callS (ok_times2 T) (hr.mono (by decide)) (by rfl) T.g_times_series T.d_times2.F.kp T.d_times2.b (fun σ => L2N.passAt tk σ) (pa_cons (pv 1) (pa_cons (pv 2) pa_nil))) (pe_callS (ok_over2 T) (hr.mono (by decide)) (by rfl) T.g_over_series T.d_over2.F.kp T.d_over2.b (fun σ => L2N.passAt tk σ) (pa_cons (pv 1) (pa_cons (pv 2) pa_nil)))))) pss_nil)
      (pss_cons (ps_if (pt_cmpR op_lt (pv 0) pe_int (nomark _)) (pss_one (ps_ret (pe_ifExp (pt_cmpR op_eq (pv 0) pe_int (nomark _)) (pe_callS (ok_exp_series T) (hr.mono (by decide)) (by rfl) T.g_exp_series T.d_exp_series.F.kp T.d_exp_series.b (fun σ => L2N.passAt tk σ) (pa_cons (pv 1) pa_nil)) (pe_callS (ok_log_series T) (hr.mono (by decide)) (by rfl) T.g_log_series T.d_log_series.F.kp T.d_log_series.b (fun σ => L2N.passAt tk σ) (pa_cons (pv 1) pa_nil))))) pss_nil)
      (pss_cons (ps_if (pt_cmpR op_lt (pv 0) pe_int (nomark _)) (pss_one (ps_ret (pe_ifExp (pt_cmpR op_eq (pv 0) pe_int (nomark _)) (pe_callS (ok_tan_series T) (hr.mono (by decide)) (by rfl) T.g_tan_series T.d_tan_series.F.kp T.d_tan_series.b (fun σ => L2N.passAt tk σ) (pa_cons (pv 1) pa_nil)) (pe_callS (ok_atan_series T) (hr.mono (by decide)) (by rfl) T.g_atan_series T.d_atan_series.F.kp T.d_atan_series.b (fun σ => L2N.passAt tk σ) (pa_cons (pv 1) pa_nil))))) pss_nil)
      (pss_one (ps_ret (pe_ifExp (pt_cmpR op_eq (pv 0) pe_int (nomark _)) (pe_callS (ok_power_series T) (hr.mono (by decide)) (by rfl) T.g_power_series T.d_power_series.F.kp T.d_power_series.b (fun σ => L2N.passAt tk σ) (pa_cons (pv 1) (pa_cons (pv 3) pa_nil))) (pe_callS (ok_arcs_added T) (hr.mono (by decide)) (by rfl) T.g_arcs_added T.d_arcs_added.F.kp T.d_arcs_added.b (fun σ => L2N.passAt tk σ) (pa_cons (pv 1) (pa_cons (pv 2) pa_nil))))))))))
      (fun a oe cls d pn hz hf => (pss_one (ps_ret (pe_ifExp (PW.pt (pw_and (pt_val (pe_callB (c_isiK (K := K) rfl) (by rfl) T.n_isinstance (by decide +kernel) (pa_cons (pe_xf T.xfN T.nWhy hz.zc hf (pv 4)) (pa_cons (pe_bltn (v := .ty "str") (by rfl) T.n_str (by decide +kernel) rfl) pa_nil)))) (pw_and (pt_cmpR op_ne (pe_xf T.xfN T.nWhy hz.zc hf (pv 4)) pe_str (nomark _)) (pw_and1 (pt_val (L2H.pe_callH (E := fun _ => E0) (okH__law_like T) (show L2H.RoomH 2 _ from ⟨(hr.mono (by decide) : Room 2 _).dp, (hr.mono (by decide) : Room 2 _).un⟩) (hf.elim fun vs hv => ⟨(a, oe), ⟨rfl, vs, hv, hz.2.2 vs hv⟩, List.mem_cons_self⟩) (by rfl) T.g__law_like T.d__law_like.F.kp T.d__law_like.b (fun _ _ _ _ _ _ _ h => h.elim) (pa_cons (pe_xf T.xfN T.nCode hz.zc hf (pv 4)) (pa_cons pe_str pa_nil)))))))) pe_str pe_str)))))), ?_⟩
    have vw : E rInt (tVar 0) (L2.start ["way", "a", "b", "number", "e"] [.int (way : Int), va, vb, vp]) Hk (way : Int) := e_var rfl rfl
    have va' : E (rLst (rNum T.cR)) (tVar 1) (L2.start ["way", "a", "b", "number", "e"] [.int (way : Int), va, vb, vp]) Hk xs := e_var ha rfl
    have vb' : E (rLst (rNum T.cR)) (tVar 2) (L2.start ["way", "a", "b", "number", "e"] [.int (way : Int), va, vb, vp]) Hk ys := e_var hb rfl
    have vp' : E (rNum T.cR) (tVar 3) (L2.start ["way", "a", "b", "number", "e"] [.int (way : Int), va, vb, vp]) Hk p := e_var hp rfl
    refine s_if (K := Hk) (b := decide ((way : Int) < 2)) (t_test (e_b0 (p := fun i j => decide (i < j)) vw e_int)) ex (fun c H1 e1 => ?_) (fun c H1 e1 => ?_)
    · have c := of_decide_eq_true c
      refine s_retT (Ew := WE (wAs K (.ref T.cN) 4 (tsB K T.cN) (fun _ _ _ _ => False) { nx := fun _ H' => Q .non H', rt := Q }) [some (.int (way : Int)), some va, some vb, some vp, none]) ex e1 rfl q (fun q => handled T rfl q) (fun zs hy => en_if (b := decide ((way : Int) = 0)) (t_test (e_eqI vw e_int)) (fun c' => ?_) (fun c' => ?_)) (fun hn => xx_if (b := decide ((way : Int) = 0)) (t_test (e_eqI vw e_int)) (fun c' => ?_) (fun c' => ?_))
      · have z : way = 0 := by have := of_decide_eq_true c'; omega
        subst z
        cases hy
        exact e_RXs va' vb' ⟨hl, h7, D, M, wx, g, h1, h2, by omega⟩ trivial
      · have z : way = 1 := by have := of_decide_eq_false c'; omega
        subst z
        obtain ⟨o, rfl⟩ := some_of hy
        exact e_RXs va' vb' ⟨hl, h7, D, M, wx, wx, wi, g, h1, h2, i1 rfl, by omega⟩ o
      · have z : way = 0 := by have := of_decide_eq_true c'; omega
        subst z
        cases hn
      · have z : way = 1 := by have := of_decide_eq_false c'; omega
        subst z
        exact x_RXs va' vb' ⟨hl, h7, D, M, wx, wx, wi, g, h1, h2, i1 rfl, by omega⟩ (none_of hn)
    have c1 := of_decide_eq_false c
    refine s_if (K := Hk) (b := decide ((way : Int) < 4)) (t_test (e_b0 (p := fun i j => decide (i < j)) vw e_int)) (ex.trans e1) (fun c H2 e2 => ?_) (fun c H2 e2 => ?_)
    · have c := of_decide_eq_true c
      refine s_retT (Ew := WE (wAs K (.ref T.cN) 4 (tsB K T.cN) (fun _ _ _ _ => False) { nx := fun _ H' => Q .non H', rt := Q }) [some (.int (way : Int)), some va, some vb, some vp, none]) ex (e1.trans e2) rfl q (fun q => handled T rfl q) (fun zs hy => en_if (b := decide ((way : Int) = 2)) (t_test (e_eqI vw e_int)) (fun c' => ?_) (fun c' => ?_)) (fun hn => xx_if (b := decide ((way : Int) = 2)) (t_test (e_eqI vw e_int)) (fun c' => ?_) (fun c' => ?_))
      · have z : way = 2 := by have := of_decide_eq_true c'; omega
        subst z
        obtain ⟨o, rfl⟩ := some_of hy
        exact e_LXs va' ⟨h7, D, M, wx, g, h1, by dsimp only; omega⟩ o
      · have z : way = 3 := by have := of_decide_eq_false c'; omega
        subst z
        obtain ⟨o, rfl⟩ := some_of hy
        exact e_LXs va' ⟨h7, D, M, wx, g, h1, by dsimp only; omega⟩ o
      · have z : way = 2 := by have := of_decide_eq_true c'; omega
        subst z
        exact x_LXs va' ⟨h7, D, M, wx, g, h1, by dsimp only; omega⟩ (none_of hn)
      · have z : way = 3 := by have := of_decide_eq_false c'; omega
        subst z
        exact x_LXs va' ⟨h7, D, M, wx, g, h1, by dsimp only; omega⟩ (none_of hn)
    have c2 := of_decide_eq_false c
    refine s_if (K := Hk) (b := decide ((way : Int) < 6)) (t_test (e_b0 (p := fun i j => decide (i < j)) vw e_int)) ((ex.trans e1).trans e2) (fun c H3 e3 => ?_) (fun c H3 e3 => ?_)
    · have c := of_decide_eq_true c
      refine s_retT (Ew := WE (wAs K (.ref T.cN) 4 (tsB K T.cN) (fun _ _ _ _ => False) { nx := fun _ H' => Q .non H', rt := Q }) [some (.int (way : Int)), some va, some vb, some vp, none]) ex ((e1.trans e2).trans e3) rfl q (fun q => handled T rfl q) (fun zs hy => en_if (b := decide ((way : Int) = 4)) (t_test (e_eqI vw e_int)) (fun c' => ?_) (fun c' => ?_)) (fun hn => xx_if (b := decide ((way : Int) = 4)) (t_test (e_eqI vw e_int)) (fun c' => ?_) (fun c' => ?_))
      · have z : way = 4 := by have := of_decide_eq_true c'; omega
        subst z
        obtain ⟨o, rfl⟩ := some_of hy
        exact e_LXs va' ⟨h7, D, M, wx, g, h1, by dsimp only; omega⟩ o
      · have z : way = 5 := by have := of_decide_eq_false c'; omega
        subst z
        obtain ⟨o, rfl⟩ := some_of hy
        exact e_LXs va' ⟨h7, D, M, wx, g, h1, by dsimp only; omega⟩ o
      · have z : way = 4 := by have := of_decide_eq_true c'; omega
        subst z
        exact x_LXs va' ⟨h7, D, M, wx, g, h1, by dsimp only; omega⟩ (none_of hn)
      · have z : way = 5 := by have := of_decide_eq_false c'; omega
        subst z
        exact x_LXs va' ⟨h7, D, M, wx, g, h1, by dsimp only; omega⟩ (none_of hn)
    have c3 := of_decide_eq_false c
    refine s_retT (Ew := WE (wAs K (.ref T.cN) 4 (tsB K T.cN) (fun _ _ _ _ => False) { nx := fun _ H' => Q .non H', rt := Q }) [some (.int (way : Int)), some va, some vb, some vp, none]) ex ((e1.trans e2).trans e3) rfl q (fun q => handled T rfl q) (fun zs hy => en_if (b := decide ((way : Int) = 6)) (t_test (e_eqI vw e_int)) (fun c' => ?_) (fun c' => ?_)) (fun hn => xx_if (b := decide ((way : Int) = 6)) (t_test (e_eqI vw e_int)) (fun c' => ?_) (fun c' => ?_))
    · have z : way = 6 := by have := of_decide_eq_true c'; omega
      subst z
      obtain ⟨o, rfl⟩ := some_of hy
      have := hw6 rfl
      exact e_RXs va' vp' ⟨h7, D, M, wx, 1, g, h1, h3, by omega⟩ o
    · have z : way = 7 := by have := of_decide_eq_false c'; omega
      subst z
      obtain ⟨o, rfl⟩ := some_of hy
      exact e_RXs va' vb' ⟨hl, h7, D, M, wx, wi, g, h1, h2, i7 rfl, by omega⟩ o
    · have z : way = 6 := by have := of_decide_eq_true c'; omega
      subst z
      have := hw6 rfl
      exact x_RXs va' vp' ⟨h7, D, M, wx, 1, g, h1, h3, by omega⟩ (none_of hn)
    · have z : way = 7 := by have := of_decide_eq_false c'; omega
      subst z
      exact x_RXs va' vb' ⟨hl, h7, D, M, wx, wi, g, h1, h2, i7 rfl, by omega⟩ (none_of hn)
end
end Y8

set_option Elab.async false
set_option linter.all false
set_option maxRecDepth 100000
set_option maxHeartbeats 2000000
/-! # What fits, what was kept; the draws -/
namespace L2
open PySem PySem.Spec PyProof.Rows
def tIfT (tc ta tb : TT) : TT := fun σ H Q => tc σ H fun d H1 => if d = true then ta σ H1 Q else tb σ H1 Q
theorem pt_if {X : Cx} {c a b : Expr} {pos : Pos} {tc ta tb : TT} (hc : PT X c tc) (ha : PT X a ta) (hb : PT X b tb) : PT X (.IfExp c a b pos) (tIfT tc ta tb) := by
  refine ⟨fun pins s σ H Q I h => ?_⟩
  show wpAny _ _ (do if ← PySem.isTrue c X.env (eval c X.env) then PySem.isTrue a X.env (eval a X.env) else PySem.isTrue b X.env (eval b X.env)) _ _ _
  refine wpAny_bind (thn (hc.run pins s σ H _ I h) fun d s1 ⟨H1, I1, q1⟩ => ?_)
  cases d with
  | true => exact ha.run pins s1 σ H1 Q I1 q1
  | false => exact hb.run pins s1 σ H1 Q I1 q1
end L2
namespace Y8
open PySem L2 Y Ser
section
variable {P : Program} {w : World} {K : PySem.W.Frag} {mg : Str → Option Value} {base : Heap}
theorem t_ift {σ : L2.St} {Hk : Hp} {t t1 t2 : TT} {b c : Bool} (h : T t σ Hk b) (h1 : b = true → T t1 σ Hk c) (h2 : b = false → T t2 σ Hk c) : T (tIfT t t1 t2) σ Hk c := t_if h h1 h2
def rTold (C : Addr) : Rp (Option (List Rat)) := fun H v o => match o with
  | some ys => rLst (rRat C) H v ys
  | none => v = .str bn
instance {C : Addr} : Mono (rTold C) := ⟨fun {H H' v o} e h => by
  cases o with
  | none => exact h
  | some ys => exact up (r := rLst (rRat C)) e h⟩
def spFit (K : PySem.W.Frag) (C : Addr) : Sp := fun vs H Q _ => ∃ Hk, Ex Hk H ∧ ∃ v u o, vs = [v, u] ∧ rTold C Hk v o ∧ rDue K Hk u o ∧ (∀ ys, o = some ys → ys.length ≤ 1000) ∧ Res rBl Hk H true Q
theorem ok__law_fits_due (T : Txt K mg) : FnOk P w K mg base CX0 4 T.d__law_fits_due.a T.d__law_fits_due.fd ["told", "due"] (spFit K T.cR) := by
  refine T.d__law_fits_due.F.ok sc__law_fits_due (fun vs H Q Ew h => ?_) (fun cdv A outer s H vs Q Ew hr h => ?_)
  · obtain ⟨_, _, _, _, _, rfl, _⟩ := h; rfl
  · obtain ⟨Hk, ex, v, u, o, rfl, hv, hu, hl, q⟩ := h
    refine ⟨_, (pss_cons (ps_if (PW.pt (pw_or (pt_val (pe_callB (c_isiK (K := K) rfl) (by rfl) T.n_isinstance (by decide +kernel) (pa_cons (pv 1) (pa_cons (pe_bltn (v := .ty "str") (by rfl) T.n_str (by decide +kernel) rfl) pa_nil)))) (pw_or1 (pt_val (pe_callB (c_isiK (K := K) rfl) (by rfl) T.n_isinstance (by decide +kernel) (pa_cons (pv 0) (pa_cons (pe_bltn (v := .ty "str") (by rfl) T.n_str (by decide +kernel) rfl) pa_nil))))))) (pss_one (ps_ret (pe_ifExp (pt_val (pe_callB (c_isiK (K := K) rfl) (by rfl) T.n_isinstance (by decide +kernel) (pa_cons (pv 1) (pa_cons (pe_bltn (v := .ty "str") (by rfl) T.n_str (by decide +kernel) rfl) pa_nil)))) (pe_call (ok__law_like T) (hr.mono (by decide)) (by rfl) T.g__law_like T.d__law_like.F.kp T.d__law_like.b .nil pass0 (pa_cons (pv 0) (pa_cons (pv 1) pa_nil))) pe_bl))) pss_nil)
      (pss_one (ps_ret (pe_call (ok__law_ratios T) (hr.mono (by decide)) (by rfl) T.g__law_ratios T.d__law_ratios.F.kp T.d__law_ratios.b .nil pass0 (pa_cons (pv 0) (pa_cons (pv 1) pa_nil)))))), ?_⟩
    cases o with
    | none =>
      have v0 : E rStr (tVar 0) (L2.start ["told", "due"] [v, u]) Hk bn := e_var (show v = .str bn from hv) rfl
      have v1 : E rStr (tVar 1) (L2.start ["told", "due"] [v, u]) Hk bn := e_var (show u = .str bn from hu) rfl
      refine s_if (K := Hk) (b := true) ((t_or (b := true) (t_b (e_isi v1 (.ty _) ty_str kSS)) fun h => nomatch h).as rfl) ex (fun _ H1 e1 => ?_) (fun c => nomatch c)
      exact s_ret (e_if (b := true) (t_b (e_isi v1 (.ty _) ty_str kSS)) (fun _ => e_like v0 v1) (fun c => nomatch c)) (ex.trans e1) (Res.at ex e1 q)
    | some ys =>
      have v0 : E (rLst (rRat T.cR)) (tVar 0) (L2.start ["told", "due"] [v, u]) Hk ys := e_var hv rfl
      have v1 : E (rLst (rQ K)) (tVar 1) (L2.start ["told", "due"] [v, u]) Hk ys := e_var hu rfl
      refine s_if (K := Hk) (b := false) ((t_or (t_b (e_isi v1 (.ty _) ty_lst kLS)) fun _ => t_b (e_isi v0 (.ty _) ty_lst kLS)).as rfl) ex (fun c => nomatch c) (fun _ H1 e1 => ?_)
      exact s_ret (e_rats v0 v1 (hl _ rfl)) (ex.trans e1) (Res.at ex e1 q)
theorem e_fit {C : Addr} {σ : L2.St} {Hk : Hp} {ta tb : TE} {o : Option (List Rat)} {Ew : XK} (ha : E (rTold C) ta σ Hk o) (hb : E (rDue K) tb σ Hk o) (hl : ∀ ys, o = some ys → ys.length ≤ 1000) : E rBl (tCall (spFit K C) [] Ew (tCons ta (tCons tb tNil))) σ Hk true :=
  e_call (ea_cons ha (ea_cons hb ea_nil)) fun F H vs Q ex hp r => by
    obtain ⟨v, ws, rfl, hv, v2, ws2, rfl, hv2, hn⟩ := hp
    cases hn
    exact ⟨F, ex, v, v2, o, rfl, hv, hv2, hl, r⟩
def spKept (K : PySem.W.Frag) (C : Addr) : Sp := fun vs H Q _ => ∃ Hk, Ex Hk H ∧ ∃ v u xs, vs = [v, u] ∧ rLst (rNum C) Hk v xs ∧ rLst (rQ K) Hk u xs ∧ xs.length ≤ 1000 ∧ Res rBl Hk H true Q
theorem ok__law_kept (T : Txt K mg) : FnOk P w K mg base CX0 3 T.d__law_kept.a T.d__law_kept.fd ["given", "row"] (spKept K T.cR) := by
  refine T.d__law_kept.F.ok sc__law_kept (fun vs H Q Ew h => ?_) (fun cdv A outer s H vs Q Ew hr h => ?_)
  · obtain ⟨_, _, _, _, _, rfl, _⟩ := h; rfl
  · obtain ⟨Hk, ex, v, u, xs, rfl, hv, hu, hl, q⟩ := h
    refine ⟨_, (pss_cons (ps_if (pt_cmpR op_ne (pe_callB (c_lenK (K := K) rfl) (by rfl) T.n_len (by decide +kernel) (pa_cons (pv 0) pa_nil)) (pe_callB (c_lenK (K := K) rfl) (by rfl) T.n_len (by decide +kernel) (pa_cons (pv 1) pa_nil)) (nomark _)) (pss_one (ps_ret pe_bl)) pss_nil)
      (pss_cons (ps_for PassesOwn.never rfl (pi_range1 (by rfl) T.n_range (pa_cons (pe_callB (c_lenK (K := K) rfl) (by rfl) T.n_len (by decide +kernel) (pa_cons (pv 1) pa_nil)) pa_nil)) (pg_name (i := 2) sc__law_kept.nd rfl (Or.inl rfl) (hf := Or.inr rfl))
      (pss_cons (ps_set (i := 3) sc__law_kept.nd rfl (Or.inl rfl) (pe_ix (ix_listK (K := K) rfl) (pv 0) (pv 2) (fun _ _ => rfl)))
      (pss_one (ps_if (pt_if (pt_val (pe_callB (c_isiK (K := K) rfl) (by rfl) T.n_isinstance (by decide +kernel) (pa_cons (pv 3) (pa_cons (pe_glob (v := .ref T.cR) rfl T.g_Ratio rfl) pa_nil)))) (pt_cmpR (op_neD hr.units) (pe_tup (pa_cons (pe_fldK (K := K) rfl (pv 3) rfl) (pa_cons (pe_fldK (K := K) rfl (pv 3) rfl) pa_nil))) (pe_ix (ix_listK (K := K) rfl) (pv 1) (pv 2) (fun _ _ => rfl)) (nomark _)) (pt_cmpR (op_neD hr.units) (pe_tup (pa_cons (pv 3) (pa_cons pe_int pa_nil))) (pe_ix (ix_listK (K := K) rfl) (pv 1) (pv 2) (fun _ _ => rfl)) (nomark _))) (pss_one (ps_ret pe_bl)) pss_nil))))
      (pss_one (ps_ret pe_bl)))), ?_⟩
    have v0 : E (rLst (rNum T.cR)) (tVar 0) (L2.start ["given", "row", "k", "one"] [v, u]) Hk xs := e_var hv rfl
    have v1 : E (rLst (rQ K)) (tVar 1) (L2.start ["given", "row", "k", "one"] [v, u]) Hk xs := e_var hu rfl
    refine s_if (K := Hk) (b := false) ((t_test (e_neI (e_len v0) (e_len v1))).as (by simp)) ex (fun c => nomatch c) (fun _ H1 e1 => ?_)
    refine s_forR1 (K := Hk) (n := (xs.length : Int)) (e_len v1) (by omega) (by omega) (ex.trans e1) (fun k σ' H' => Ex H H' ∧ ∃ a b, σ' = [some v, some u, a, b]) (fun H2 e2 => ⟨e1.trans e2, none, none, rfl⟩) ?_ ?_
    · rintro i σ' H' hi ⟨e', a, b, rfl⟩
      have hi' : i < xs.length := by omega
      refine s_set (r := rNum T.cR) (x := at_ xs i) (e_at (k := (i : Int)) (e_var hv rfl) (e_var rfl rfl) (by omega) (by rw [Int.toNat_natCast]; exact at_get hi')) (ex.trans e') fun v3 H3 F3 g3 hv3 => ?_
      have x3 : Ex H H3 := e'.trans g3.h
      have v1' : E (rQ K) (tOp (rIxL K) (tVar 1) (tVar 2)) [some v, some u, some (.int (i : Int)), some v3] F3 (at_ xs i) := e_at (k := (i : Int)) (e_var (up g3.k hu) rfl) (e_var rfl rfl) (by omega) (by rw [Int.toNat_natCast]; exact at_get hi')
      dsimp only
      refine s_if (K := F3) (b := false) ?_ g3.f (fun c => nomatch c) (fun _ H4 e4 => ?_)
      rotate_left
      · exact ⟨x3.trans e4, _, _, rfl⟩
      rcases hv3 with ⟨hv3, hd⟩ | hv3
      · have o1 : E rInt (tVar 3) [some v, some u, some (.int (i : Int)), some v3] F3 (at_ xs i).num := e_var hv3 rfl
        refine t_ift (b := false) (t_b (e_isi o1 (.own _) ty_int T.kIR)) (fun c => nomatch c) fun _ => t_test ((e_neQ (a := at_ xs i) (e_pair o1 e_int rfl (by omega)) v1').as (by simp))
      · have o1 : E (rRat T.cR) (tVar 3) [some v, some u, some (.int (i : Int)), some v3] F3 (at_ xs i) := e_var hv3 rfl
        refine t_ift (b := true) (t_b (e_isi o1 (.own _) (ty_rat T) kRR)) (fun _ => t_test ((e_neQ (a := at_ xs i) (e_pair (e_ftop T o1) (e_fbot T o1) rfl rfl) v1').as (by simp))) fun c => nomatch c
    · rintro σ' H' ⟨e', a, b, rfl⟩
      dsimp only
      refine s_ret (r := rBl) (x := true) (K := Hk) e_bl (ex.trans e') ?_
      exact Res.at ex e' q
theorem e_kept {C : Addr} {σ : L2.St} {Hk : Hp} {ta tb : TE} {xs : List Rat} {Ew : XK} (ha : E (rLst (rNum C)) ta σ Hk xs) (hb : E (rLst (rQ K)) tb σ Hk xs) (hl : xs.length ≤ 1000) : E rBl (tCall (spKept K C) [] Ew (tCons ta (tCons tb tNil))) σ Hk true :=
  e_call (ea_cons ha (ea_cons hb ea_nil)) fun F H vs Q ex hp r => by
    obtain ⟨v, ws, rfl, hv, v2, ws2, rfl, hv2, hn⟩ := hp
    cases hn
    exact ⟨F, ex, v, v2, xs, rfl, hv, hv2, hl, r⟩
end
end Y8

set_option Elab.async false
set_option linter.all false
set_option maxRecDepth 100000
set_option maxHeartbeats 4000000
/-! # The draws -/
namespace Y8
open PySem L2 Y Ser
section
variable {P : Program} {w : World} {K : PySem.W.Frag} {mg : Str → Option Value} {base : Heap}
def dl (H : Hp) (o : Addr) : Hp := fun a => if a = o then none else H a
theorem dl_ne {F : Hp} {o a : Addr} (h : a ≠ o) : dl F o a = F a := if_neg h
theorem dl_same {F : Hp} {o : Addr} : dl F o o = none := if_pos rfl
abbrev jl (c : Addr) (i r l m n : Int) : List V := [.ref c, .int i, .int r, .int l, .int m, .int n]
def Ints (cs : List V) : Prop := ∀ v ∈ cs, ∃ k : Int, v = .int k
/-- a jar at o, its cells known to F -/
def JarAt (F H : Hp) (o : Addr) : Prop := ∃ c cs, ∃ i r l m n : Int, H o = some (.lst (jl c i r l m n)) ∧ F c = some (.lst cs) ∧ Ints cs ∧ cs.length ≤ 100 ∧ 0 ≤ i ∧ 0 ≤ m ∧ m < 2147483647
theorem exDl {H H' : Hp} {o : Addr} (e : Ex H H') : Ex (dl H o) (dl H' o) := fun a u h => by
  by_cases z : a = o
  · subst z; rw [dl_same] at h; cases h
  · rw [dl_ne z] at h ⊢; exact e _ _ h
theorem growDl {K H F H' : Hp} {o : Addr} (g : Grow K H F H') : Grow (dl K o) (dl H o) (dl F o) (dl H' o) := ⟨exDl g.h, exDl g.k, exDl g.f, fun a h1 h2 => by
  by_cases z : a = o
  · subst z; exact absurd dl_same h2
  · rw [dl_ne z] at h1 h2 ⊢; exact g.n a h1 h2⟩
theorem dl_upd {H : Hp} {o : Addr} {u : HO} : dl (upd H o u) o = dl H o := funext fun a => by
  by_cases z : a = o
  · subst z; rw [dl_same, dl_same]
  · rw [dl_ne z, dl_ne z, upd_ne z]
theorem dl_none {F : Hp} {o : Addr} (h : F o = none) : dl F o = F := funext fun a => by
  by_cases z : a = o
  · subst z; rw [dl_same, h]
  · rw [dl_ne z]
theorem exOfDl {F H : Hp} {o : Addr} (h : Ex F (dl H o)) : Ex F H ∧ F o = none := ⟨fun a u e => by
  have := h a u e
  by_cases z : a = o
  · subst z; rw [dl_same] at this; cases this
  · rw [dl_ne z] at this; exact this, by
  cases z : F o with
  | none => rfl
  | some u => have := h o u z; rw [dl_same] at this; cases this⟩
/-- the heap grows, and the jar at o may change -/
structure GJ (o : Addr) (K H F H' : Hp) : Prop where
  g : Grow K (dl H o) F (dl H' o)
  j : JarAt F H' o
theorem GJ.f {o : Addr} {K H F H' : Hp} (g : GJ o K H F H') : Ex F H' := (exOfDl g.g.f).1
theorem GJ.fo {o : Addr} {K H F H' : Hp} (g : GJ o K H F H') : F o = none := (exOfDl g.g.f).2
theorem GJ.k {o : Addr} {K H F H' : Hp} (g : GJ o K H F H') : Ex K F := g.g.k
theorem GJ.trans {o : Addr} {K H F H1 F' H2 : Hp} (a : GJ o K H F H1) (b : GJ o F H1 F' H2) : GJ o K H F' H2 := ⟨a.g.trans b.g, b.j⟩
theorem JarAt.mono {F F' H H' : Hp} {o : Addr} (j : JarAt F H o) (e : Ex F F') (e' : Ex H H') : JarAt F' H' o := by
  obtain ⟨c, cs, i, r, l, m, n, h1, h2, h3⟩ := j
  exact ⟨c, cs, i, r, l, m, n, e' _ _ h1, e _ _ h2, h3⟩
/-- what leaves the jar alone -/
theorem GJ.of {o : Addr} {K H F H' : Hp} (hk : K o = none) (j : JarAt K H o) (g : Grow K H F H') : GJ o K H F H' := by
  obtain ⟨c, cs, i, r, l, m, n, h1, h2⟩ := j
  have fo : F o = none := by
    cases z : F o with
    | none => rfl
    | some u => have := g.n o hk (by rw [z]; exact fun z => nomatch z); rw [h1] at this; cases this
  have := growDl (o := o) g
  rw [dl_none hk, dl_none fo] at this
  exact ⟨this, JarAt.mono ⟨c, cs, i, r, l, m, n, h1, h2⟩ g.k g.h⟩
/-- within a draw: F knows the jar -/
structure JS (o c : Addr) (cs : List V) (Hk H F H' : Hp) (i r l m n : Int) : Prop where
  g : Grow Hk (dl H o) (dl F o) (dl H' o)
  e : Ex F H'
  o : F o = some (.lst (jl c i r l m n))
  c : F c = some (.lst cs)
theorem JS.ex {o c : Addr} {cs : List V} {Hk H F H' H1 : Hp} {i r l m n : Int} (j : JS o c cs Hk H F H' i r l m n) (e : Ex H' H1) : JS o c cs Hk H F H1 i r l m n :=
  ⟨j.g.trans (Grow.of j.g.f (exDl e)), j.e.trans e, j.o, j.c⟩
theorem JS.grow {o c : Addr} {cs : List V} {Hk H F H' F2 H2 : Hp} {i r l m n : Int} (j : JS o c cs Hk H F H' i r l m n) (g : Grow F H' F2 H2) : JS o c cs Hk H F2 H2 i r l m n :=
  ⟨j.g.trans (growDl g), g.f, g.k _ _ j.o, g.k _ _ j.c⟩
theorem JS.put {o c : Addr} {cs : List V} {Hk H F H' : Hp} {i r l m n i' r' l' m' n' : Int} (hne : c ≠ o) (j : JS o c cs Hk H F H' i r l m n) : JS o c cs Hk H (upd F o (.lst (jl c i' r' l' m' n'))) (upd H' o (.lst (jl c i' r' l' m' n'))) i' r' l' m' n' := by
  refine ⟨by rw [dl_upd, dl_upd]; exact j.g, fun a u h => ?_, upd_same, by rw [upd_ne hne]; exact j.c⟩
  by_cases z : a = o
  · subst z; rw [upd_same] at h ⊢; exact h
  · rw [upd_ne z] at h ⊢; exact j.e _ _ h
section
variable {o c : Addr} {cs : List V} {Hk H F H' : Hp} {i r l m n : Int} {σ : L2.St} {D : Ends} {te : TE}
theorem e_j (hi : σ[0]? = some (some (.ref o))) (j : JS o c cs Hk H F H' i r l m n) {k : Nat} {x : Int} (hx : (jl c i r l m n)[k]? = some (.int x)) : E rInt (tOp (rIxL K) (tVar 0) (tC (.int (k : Int)))) σ F x :=
  fun H2 e Q q => ⟨.ref o, hi, o, _, _, _, rfl, rfl, sq_of (e _ _ j.o), atI_nat hx, q _ H2 F (Grow.refl e) rfl⟩
theorem s_j (hi : σ[0]? = some (some (.ref o))) (hne : c ≠ o) (j : JS o c cs Hk H F H' i r l m n) {k : Nat} {x i' r' l' m' n' : Int} (h : E rInt te σ F x) (hk : k < 6) (hs : (jl c i r l m n).set k (.int x) = jl c i' r' l' m' n') (kk : ∀ F2 H2, JS o c cs Hk H F2 H2 i' r' l' m' n' → D.nx σ H2) :
    tAsg te (gSub (tVar 0) (tC (.int (k : Int))) rSetL) D σ H' := h H' j.e _ fun v H2 F2 g hv => by
  cases hv
  have j2 := j.grow g
  refine ⟨.ref o, hi, o, _, (k : Int), k, rfl, rfl, j2.e _ _ j2.o, ?_, ?_⟩
  · unfold ixN; rw [if_pos (by omega), if_pos (by show (k : Int) < 6; omega)]; simp
  · rw [hs]; exact kk _ _ (j2.put hne)
theorem s_jx (hi : σ[0]? = some (some (.ref o))) (hne : c ≠ o) (j : JS o c cs Hk H F H' i r l m n) (h : ∃ x, E rInt te σ F x) (kk : ∀ x F2 H2, JS o c cs Hk H F2 H2 i x l m n → D.nx σ H2) :
    tAsg te (gSub (tVar 0) (tC (.int 2)) rSetL) D σ H' := by
  obtain ⟨x, h⟩ := h
  exact s_j hi hne j (k := 2) h (by decide) rfl (kk x)
theorem e_lenC (hi : σ[0]? = some (some (.ref o))) (j : JS o c cs Hk H F H' i r l m n) : E rInt (tCB (rLen K) (tCons (tOp (rIxL K) (tVar 0) (tC (.int 0))) tNil)) σ F (cs.length : Int) :=
  fun H2 e Q q => ⟨.ref o, hi, o, _, _, _, rfl, rfl, sq_of (e _ _ j.o), rfl, c, cs, rfl, .inl (sq_of (e _ _ j.c)), q _ H2 F (Grow.refl e) rfl⟩
theorem e_cell (hi : σ[0]? = some (some (.ref o))) (j : JS o c cs Hk H F H' i r l m n) {x : Int} (h0 : 0 ≤ i) (hx : cs[i.toNat]? = some (.int x)) : E rInt (tOp (rIxL K) (tOp (rIxL K) (tVar 0) (tC (.int 0))) (tOp (rIxL K) (tVar 0) (tC (.int 1)))) σ F x :=
  fun H2 e Q q => ⟨.ref o, hi, o, _, _, _, rfl, rfl, sq_of (e _ _ j.o), rfl, .ref o, hi, o, _, _, _, rfl, rfl, sq_of (e _ _ j.o), rfl, c, cs, i, _, rfl, rfl, sq_of (e _ _ j.c), by
    have := atI_nat hx
    rwa [Int.toNat_of_nonneg h0] at this, q _ H2 F (Grow.refl e) rfl⟩
end
theorem fm (a : Int) {b : Int} (h : 0 < b) : 0 ≤ a.fmod b ∧ a.fmod b < b := by
  rw [Int.fmod_eq_emod_of_nonneg _ (by omega)]
  exact ⟨Int.emod_nonneg _ (by omega), Int.emod_lt_of_pos _ h⟩
theorem cmL {i j : Int} (h : 0 ≤ i ∧ i < 2147483647) : CMul i j := .inl ⟨by omega, by omega⟩
theorem cmR {i j : Int} (h : 0 ≤ j ∧ j < 2147483647) : CMul i j := .inr ⟨by omega, by omega⟩
theorem cdS {i j : Int} (h : 0 < j ∧ j < 2147483647) : CDivX i j := cdivX (b := 31) (by omega) (by omega) (by decide) (by decide)
theorem e_half {o c : Addr} {cs : List V} {Hk H F H' : Hp} {i r l m n many : Int} {σ : L2.St} (hi : σ[0]? = some (some (.ref o))) (hm : σ[1]? = some (some (.int many))) (j : JS o c cs Hk H F H' i r l m n) (p0 : 0 < many) (p1 : many < 1000) :
    ∃ x, E rInt (tIf (tTest (tOp (rI0 fun i j => .bl (decide (i > j))) (tOp (rIxL K) (tVar 0) (tC (.int 3))) (tC (.int 0)))) (tOp (rI CDivX fun i j => .int (i.fdiv j)) (tOp (rIxL K) (tVar 0) (tC (.int 2))) (tVar 1)) (tC (.int 0))) σ F x := by
  refine ⟨if l > 0 then r.fdiv many else 0, e_if (b := decide (l > 0)) (t_test (e_b0 (p := fun i j => decide (i > j)) (e_j (k := 3) hi j rfl) e_int)) (fun cc => ?_) (fun cc => ?_)⟩
  · rw [if_pos (of_decide_eq_true cc)]
    exact e_i (C := CDivX) (f := fun i j => i.fdiv j) (e_j (k := 2) hi j rfl) (e_var (x := many) rfl hm) (cdS ⟨p0, by omega⟩)
  · rw [if_neg (of_decide_eq_false cc)]
    exact e_int
def spDraw : Sp := fun vs H Q _ => ∃ Hk, Ex Hk H ∧ ∃ o, ∃ many : Int, vs = [.ref o, .int many] ∧ Hk o = none ∧ JarAt Hk H o ∧ 0 < many ∧ many < 1000 ∧ ∀ (d : Int) H' F, 0 ≤ d → d < many → GJ o Hk H F H' → Q (.int d) H'
theorem ok__law_draw (T : Txt K mg) : FnOk P w K mg base CX0 1 T.d__law_draw.a T.d__law_draw.fd ["jar", "many"] spDraw := by
  refine T.d__law_draw.F.ok sc__law_draw (fun vs H Q Ew h => ?_) (fun cdv A outer s H vs Q Ew hr h => ?_)
  · obtain ⟨_, _, _, _, rfl, _⟩ := h; rfl
  · obtain ⟨Hk, ex, o, many, rfl, hko, ⟨c, cs, i, r, l, m, n, ho, hc, hint, hcl, h0, m0, m1⟩, p0, p1, q⟩ := h
    refine ⟨_, (pss_cons (ps_asg (pe_op op_add (pe_ix (ix_listK (K := K) rfl) (pv 0) pe_int (fun _ _ => rfl)) pe_int) (pg_sub (pv 0) pe_int set_list))
      (pss_cons (ps_if (PW.pt (pw_and (pt_cmpR op_eq (pe_ix (ix_listK (K := K) rfl) (pv 0) pe_int (fun _ _ => rfl)) pe_int (nomark _)) (pw_and1 (pt_cmpR op_lt (pe_ix (ix_listK (K := K) rfl) (pv 0) pe_int (fun _ _ => rfl)) (pe_callB (c_lenK (K := K) rfl) (by rfl) T.n_len (by decide +kernel) (pa_cons (pe_ix (ix_listK (K := K) rfl) (pv 0) pe_int (fun _ _ => rfl)) pa_nil)) (nomark _))))) (pss_cons (ps_set (i := 2) sc__law_draw.nd rfl (Or.inl rfl) (pe_ix (ix_listK (K := K) rfl) (pe_ix (ix_listK (K := K) rfl) (pv 0) pe_int (fun _ _ => rfl)) (pe_ix (ix_listK (K := K) rfl) (pv 0) pe_int (fun _ _ => rfl)) (fun _ _ => rfl)))
      (pss_cons (ps_asg (pe_op op_add (pe_ix (ix_listK (K := K) rfl) (pv 0) pe_int (fun _ _ => rfl)) pe_int) (pg_sub (pv 0) pe_int set_list))
      (pss_one (ps_if (pt_cmpR op_ge (pv 2) (pe_op op_pow pe_int pe_int) (nomark _)) (pss_cons (ps_asg (pv 2) (pg_sub (pv 0) pe_int set_list))
      (pss_one (ps_asg pe_int (pg_sub (pv 0) pe_int set_list)))) (pss_one (ps_asg (pe_op op_modN (pe_callTy c_toInt (by rfl) T.n_int (by decide +kernel) (pa_cons (pe_op op_add (pe_op op_add (pe_op op_mul (pe_ix (ix_listK (K := K) rfl) (pv 0) pe_int (fun _ _ => rfl)) pe_int) (pe_op op_modN (pe_callTy c_toInt (by rfl) T.n_int (by decide +kernel) (pa_cons (pv 2) pa_nil)) pe_int)) pe_int) pa_nil)) pe_int) (pg_sub (pv 0) pe_int set_list))))))) pss_nil)
      (pss_cons (ps_if (pt_cmpR op_gt (pe_ix (ix_listK (K := K) rfl) (pv 0) pe_int (fun _ _ => rfl)) pe_int (nomark _)) (pss_cons (ps_set (i := 3) sc__law_draw.nd rfl (Or.inl rfl) (pe_op op_modN (pe_callTy c_toInt (by rfl) T.n_int (by decide +kernel) (pa_cons (pe_ix (ix_listK (K := K) rfl) (pv 0) pe_int (fun _ _ => rfl)) pa_nil)) (pv 1)))
      (pss_cons (ps_asg (pe_op op_sub (pe_ix (ix_listK (K := K) rfl) (pv 0) pe_int (fun _ _ => rfl)) pe_int) (pg_sub (pv 0) pe_int set_list))
      (pss_cons (ps_asg (pe_ifExp (pt_cmpR op_gt (pe_ix (ix_listK (K := K) rfl) (pv 0) pe_int (fun _ _ => rfl)) pe_int (nomark _)) (pe_op op_fdX (pe_ix (ix_listK (K := K) rfl) (pv 0) pe_int (fun _ _ => rfl)) (pv 1)) pe_int) (pg_sub (pv 0) pe_int set_list))
      (pss_one (ps_ret (pv 3)))))) pss_nil)
      (pss_cons (ps_asg (pe_op op_modN (pe_callTy c_toInt (by rfl) T.n_int (by decide +kernel) (pa_cons (pe_op op_add (pe_op op_add (pe_op op_add (pe_op op_mul (pe_op op_mul (pe_ix (ix_listK (K := K) rfl) (pv 0) pe_int (fun _ _ => rfl)) (pe_ix (ix_listK (K := K) rfl) (pv 0) pe_int (fun _ _ => rfl))) pe_int) (pe_op op_mul (pe_ix (ix_listK (K := K) rfl) (pv 0) pe_int (fun _ _ => rfl)) pe_int)) (pe_op op_mul (pe_ix (ix_listK (K := K) rfl) (pv 0) pe_int (fun _ _ => rfl)) pe_int)) pe_int) pa_nil)) pe_int) (pg_sub (pv 0) pe_int set_list))
      (pss_one (ps_ret (pe_op op_modN (pe_callTy c_toInt (by rfl) T.n_int (by decide +kernel) (pa_cons (pe_op op_add (pe_op op_fdX (pe_ix (ix_listK (K := K) rfl) (pv 0) pe_int (fun _ _ => rfl)) pe_int) (pe_op op_mul (pe_op op_modN (pe_callTy c_toInt (by rfl) T.n_int (by decide +kernel) (pa_cons (pe_ix (ix_listK (K := K) rfl) (pv 0) pe_int (fun _ _ => rfl)) pa_nil)) pe_int) pe_int)) pa_nil)) (pv 1)))))))), ?_⟩
    have hne : c ≠ o := fun z => by rw [z, hko] at hc; cases hc
    have js0 : JS o c cs Hk H (upd Hk o (.lst (jl c i r l m n))) H i r l m n := by
      refine ⟨?_, Ex.put ex ho, upd_same, by rw [upd_ne hne]; exact hc⟩
      rw [dl_upd, dl_none hko]
      refine Grow.refl fun a u h => ?_
      have z : a ≠ o := fun z => by rw [z, hko] at h; cases h
      rw [dl_ne z]; exact ex _ _ h
    refine s_j (i' := i) (r' := r) (l' := l) (m' := m) (n' := n + 1) rfl hne js0 (k := 5) (e_i0 (e_j (k := 5) rfl js0 rfl) e_int) (by decide) rfl fun F1 H1 js1 => ?_
    clear js0
    have fin : ∀ {D : Ends} {σ : L2.St} {te : TE} {F H' : Hp} {i r l m n : Int} {d : Int}, D.rt = Q → JS o c cs Hk H F H' i r l m n → 0 ≤ i → 0 ≤ m → m < 2147483647 → 0 ≤ d → d < many → E rInt te σ F d → tRet te D σ H' := by
      intro D σ te F H' i r l m n d hD js hi hm hm' hd hd' he
      refine he H' js.e _ fun v H2 F2 g hv => ?_
      cases hv
      rw [hD]
      have j2 := js.grow g
      exact q d H2 (dl F2 o) hd hd' ⟨j2.g, c, cs, i, r, l, m, n, j2.e _ _ j2.o, by rw [dl_ne hne]; exact j2.c, hint, hcl, hi, hm, hm'⟩
    dsimp only
    refine s_if (K := F1) (b := decide (r = 0) && decide (i < cs.length)) (t_and (t_test (e_eqI (e_j (k := 2) rfl js1 rfl) e_int)) fun _ => t_test (e_b0 (p := fun i j => decide (i < j)) (e_j (k := 1) rfl js1 rfl) (e_lenC rfl js1))) js1.e (fun cc Hx ez => ?yes) (fun cc Hx ez => ?no)
    case' yes =>
      rw [Bool.and_eq_true, decide_eq_true_eq, decide_eq_true_eq] at cc
      have js1 := js1.ex ez
      obtain ⟨x, hx⟩ : ∃ x : Int, cs[i.toNat]? = some (.int x) := by
        have hlt : i.toNat < cs.length := by omega
        obtain ⟨x, hx⟩ := hint _ (List.getElem_mem hlt)
        exact ⟨x, by rw [List.getElem?_eq_getElem hlt, hx]⟩
      refine s_set (r := rInt) (x := x) (e_cell rfl js1 h0 hx) js1.e fun v2 H2 F2 g2 hv2 => ?_
      cases hv2
      have js2 := js1.grow g2
      dsimp only
      refine s_j (i' := i + 1) (r' := r) (l' := l) (m' := m) (n' := n + 1) rfl hne js2 (k := 1) (e_i0 (e_j (k := 1) rfl js2 rfl) e_int) (by decide) rfl fun F3 H3 js3 => ?_
      dsimp only
      refine s_if (K := F3) (b := decide (x ≥ 10 ^ 18)) (t_test (e_b0 (p := fun i j => decide (i ≥ j)) (e_var (x := x) rfl rfl) (e_i (C := CPow) (f := fun i j => i ^ j.toNat) e_int e_int ⟨by decide, by decide, by decide⟩))) js3.e (fun c2 Hy ey => ?big) (fun c2 Hy ey => ?small)
      case' big =>
        have js3 := js3.ex ey
        refine s_j (i' := i + 1) (r' := x) (l' := l) (m' := m) (n' := n + 1) rfl hne js3 (k := 2) (e_var (x := x) rfl rfl) (by decide) rfl fun F4 H4 js4 => ?_
        dsimp only
        refine s_j (i' := i + 1) (r' := x) (l' := 60) (m' := m) (n' := n + 1) rfl hne js4 (k := 3) e_int (by decide) rfl fun F5 H5 js => ?_
        have i0 : 0 ≤ i + 1 := by omega
        have mm0 := m0
        have mm1 := m1
        clear js1 js2 js3 js4
      case' small =>
        have js3 := js3.ex ey
        refine s_j (i' := i + 1) (r' := r) (l' := l) (m' := (m * 40692 + x.fmod 2147483629 + 91).fmod 2147483647) (n' := n + 1) rfl hne js3 (k := 4) (e_i (C := fun _ j => j ≠ 0) (f := fun i j => i.fmod j) (e_toInt (e_i0 (f := fun i j => i + j) (e_i0 (f := fun i j => i + j) (e_i (C := CMul) (f := fun i j => i * j) (e_j (k := 4) rfl js3 rfl) e_int (cmL ⟨m0, m1⟩)) (e_i (C := fun _ j => j ≠ 0) (f := fun i j => i.fmod j) (e_toInt (e_var (x := x) rfl rfl)) e_int (by decide))) e_int)) e_int (by decide)) (by decide) rfl fun F5 H5 js => ?_
        have i0 : 0 ≤ i + 1 := by omega
        have mm0 := (fm (m * 40692 + x.fmod 2147483629 + 91) (b := 2147483647) (by decide)).1
        have mm1 := (fm (m * 40692 + x.fmod 2147483629 + 91) (b := 2147483647) (by decide)).2
        clear js1 js2 js3
    case' no =>
      have js := js1.ex ez
      have i0 := h0
      have mm0 := m0
      have mm1 := m1
      clear js1
    all_goals
      dsimp only
      refine s_if (t_test (e_b0 (p := fun i j => decide (i > j)) (e_j (k := 2) rfl js rfl) e_int)) js.e (fun c5 Hz e5 => ?_) (fun c5 Hz e5 => ?_)
      · have js := js.ex e5
        refine s_set (r := rInt) (e_i (C := fun _ j => j ≠ 0) (f := fun i j => i.fmod j) (e_toInt (e_j (k := 2) rfl js rfl)) (e_var (x := many) rfl rfl) (by omega)) js.e fun v6 H6 F6 g6 hv6 => ?_
        cases hv6
        have js := js.grow g6
        dsimp only
        refine s_j rfl hne js (k := 3) (e_i0 (f := fun i j => i - j) (e_j (k := 3) rfl js rfl) e_int) (by decide) rfl fun F7 H7 js => ?_
        dsimp only
        refine s_jx rfl hne js (e_half (K := K) (many := many) rfl rfl js p0 p1) fun y F8 H8 js => ?_
        exact fin rfl js i0 mm0 mm1 (fm _ p0).1 (fm _ p0).2 (e_var rfl rfl)
      · have js := js.ex e5
        dsimp only
        refine s_j rfl hne js (k := 4) (e_i (C := fun _ j => j ≠ 0) (f := fun i j => i.fmod j) (e_toInt (e_i0 (f := fun i j => i + j) (e_i0 (f := fun i j => i + j) (e_i0 (f := fun i j => i + j) (e_i (C := CMul) (f := fun i j => i * j) (e_i (C := CMul) (f := fun i j => i * j) (e_j (k := 4) rfl js rfl) (e_j (k := 4) rfl js rfl) (cmL ⟨mm0, mm1⟩)) e_int (cmR (by decide))) (e_i (C := CMul) (f := fun i j => i * j) (e_j (k := 4) rfl js rfl) e_int (cmL ⟨mm0, mm1⟩))) (e_i (C := CMul) (f := fun i j => i * j) (e_j (k := 5) rfl js rfl) e_int (cmR (by decide)))) e_int)) e_int (by decide)) (by decide) rfl fun F7 H7 js => ?_
        refine fin rfl js i0 (fm _ (by decide)).1 (fm _ (by decide)).2 (fm _ p0).1 (fm _ p0).2 (e_i (C := fun _ j => j ≠ 0) (f := fun i j => i.fmod j) (e_toInt (e_i0 (f := fun i j => i + j) (e_i (C := CDivX) (f := fun i j => i.fdiv j) (e_j (k := 4) rfl js rfl) e_int (cdS (by decide))) (e_i (C := CMul) (f := fun i j => i * j) (e_i (C := fun _ j => j ≠ 0) (f := fun i j => i.fmod j) (e_toInt (e_j (k := 4) rfl js rfl)) e_int (by decide)) e_int (cmR (by decide))))) (e_var (x := many) rfl rfl) (by omega))
end
end Y8

set_option Elab.async false
set_option linter.all false
set_option maxRecDepth 100000
set_option maxHeartbeats 4000000
/-! # The jar, picked and drawn numbers, lists handed in -/
namespace Y8
open PySem L2 Y Ser
section
variable {P : Program} {w : World} {K : PySem.W.Frag} {mg : Str → Option Value} {base : Heap}
def rSq (K : PySem.W.Frag) : Rp (List Int) := fun H v ns => ∃ a, v = .ref a ∧ SqL K H a (ns.map V.int)
instance : Mono (rSq K) := ⟨fun e ⟨a, h1, h2⟩ => ⟨a, h1, ex_l e h2⟩⟩
theorem pair_int {F : Hp} : ∀ ns : List Int, Paired (rInt F) (ns.map V.int) ns
  | [] => .nil
  | n :: t => .cons rfl (pair_int t)
theorem e_cutS {σ : L2.St} {Hk : Hp} {te : TE} {tl th : TO} {ns : List Int} {lo hi : Option Int} (h : E (rSq K) te σ Hk ns) (h1 : EO tl σ Hk lo) (h2 : EO th σ Hk hi) : EN rInt (tSl (rSlL K) te tl th) σ Hk (cutL ns lo hi) := fun H a Q q =>
  h H a _ fun v H2 F g ⟨b, hv, hb⟩ => h1 H2 g.kh _ fun H3 e3 => h2 H3 (g.kh.trans e3) _ fun H4 e4 =>
    ⟨b, _, hv, ex_l ((g.f.trans e3).trans e4) hb, fun p hp' => q p _ _ F ⟨((g.h.trans e3).trans e4).trans (Ex.new hp'), g.k, ((g.f.trans e3).trans e4).trans (Ex.new hp'), g.n⟩ (((g.f.trans e3).trans e4).free hp') (((g.h.trans e3).trans e4).free hp') upd_same (cut_pair (pair_int ns) lo hi)⟩
def spJar (K : PySem.W.Frag) : Sp := fun vs H Q _ => ∃ Hk, Ex Hk H ∧ ∃ v ns, vs = [v] ∧ rSq K Hk v ns ∧ ns.length ≤ 63 ∧ ∀ o H' F, Grow Hk H F H' → F o = none → JarAt F H' o → Q (.ref o) H'
theorem ok__law_jar (T : Txt K mg) : FnOk P w K mg base CX0 1 T.d__law_jar.a T.d__law_jar.fd ["script"] (spJar K) := by
  refine T.d__law_jar.F.ok sc__law_jar (fun vs H Q Ew h => ?_) (fun cdv A outer s H vs Q Ew hr h => ?_)
  · obtain ⟨_, _, _, _, rfl, _⟩ := h; rfl
  · obtain ⟨Hk, ex, v, ns, rfl, hv, hl, q⟩ := h
    refine ⟨_, (pss_cons (ps_set (i := 1) sc__law_jar.nd rfl (Or.inl rfl) pe_int)
      (pss_cons (ps_for PassesOwn.never rfl (pi_list (pe_slice (sl_listK (K := K) rfl) (pv 0) po_none (po_some pe_int))) (pg_name (i := 2) sc__law_jar.nd rfl (Or.inl rfl) (hf := Or.inr rfl))
      (pss_one (ps_set (i := 1) sc__law_jar.nd rfl (Or.inl rfl) (pe_op op_modN (pe_callTy c_toInt (by rfl) T.n_int (by decide +kernel) (pa_cons (pe_op op_add (pe_op op_add (pe_op op_mul (pv 1) pe_int) (pe_op op_modN (pe_callTy c_toInt (by rfl) T.n_int (by decide +kernel) (pa_cons (pv 2) pa_nil)) pe_int)) pe_int) pa_nil)) pe_int))))
      (pss_one (ps_ret (pe_lst (pa_cons (pe_callTy (c_listK (K := K) rfl) (by rfl) T.n_list (by decide +kernel) (pa_cons (pe_slice (sl_listK (K := K) rfl) (pv 0) po_none (po_some pe_int)) pa_nil)) (pa_cons pe_int (pa_cons pe_int (pa_cons pe_int (pa_cons (pv 1) (pa_cons pe_int pa_nil))))))))))), ?_⟩
    refine s_set (r := rInt) (x := 12289) e_int ex fun v1 H1 F1 g1 hv1 => ?_
    cases hv1
    have ct : ∀ σ, σ[0]? = some (some v) → ∀ F, Ex Hk F → EN rInt (tSl (rSlL K) (tVar 0) tNoPart (tPart (tC (.int 63)))) σ F (ns.take 63) := fun σ hi F e => (e_cutS (e_var (up e hv) hi) eo_none (eo_some e_int)).as (cutL_to ns 63)
    dsimp only
    refine s_for (K := Hk) (it_list (EN.e (ct _ rfl Hk (Ex.refl _)))) (g1.kh) (fun F i σ' H' => Ex F H' ∧ Grow Hk H F H' ∧ ∃ m : Int, ∃ v2, σ' = [some v, some (.int m), v2] ∧ 0 ≤ m ∧ m < 2147483647) (fun F H2 g2 => ⟨g2.f, (Grow.of ex g1.h).trans g2, 12289, none, rfl, by omega, by omega⟩) (fun F i σ' H' h => h.1) ?_ ?_
    · rintro F i vi σ' H' H'' hi ⟨eF, gF, m, v2, rfl, m0, m1⟩ hy
      obtain ⟨F4, g4, x, hxi, hvi⟩ := hy F (Ex.refl F) eF
      refine s_set (r := rInt) (K := F4) (e_i (C := fun _ j => j ≠ 0) (f := fun i j => i.fmod j) (e_toInt (e_i0 (f := fun i j => i + j) (e_i0 (f := fun i j => i + j) (e_i (C := CMul) (f := fun i j => i * j) (e_var (x := m) rfl rfl) e_int (cmL ⟨m0, m1⟩)) (e_i (C := fun _ j => j ≠ 0) (f := fun i j => i.fmod j) (e_toInt (e_var hvi rfl)) e_int (by decide))) e_int)) e_int (by decide)) g4.f fun v5 H5 F5 g5 hv5 => ?_
      cases hv5
      exact ⟨eF.trans (g4.h.trans g5.h), (gF.trans (Grow.of gF.f (g4.h.trans g5.h))), _, _, rfl, (fm _ (by decide)).1, (fm _ (by decide)).2⟩
    · rintro F σ' H' ⟨eF, gF, m, v2, rfl, m0, m1⟩
      dsimp only
      have ea : EA (pCons (rLst rInt) (ns.take 63) (pCons rInt 0 (pCons rInt 0 (pCons rInt 0 (pCons rInt m (pCons rInt 0 pNil)))))) (tCons (tCB (rList K) (tCons (tSl (rSlL K) (tVar 0) tNoPart (tPart (tC (.int 63)))) tNil)) (tCons (tC (.int 0)) (tCons (tC (.int 0)) (tCons (tC (.int 0)) (tCons (tVar 1) (tCons (tC (.int 0)) tNil)))))) [some v, some (.int m), v2] F :=
        ea_cons (EN.e (en_list (EN.e (ct _ rfl F gF.k)))) (ea_cons e_int (ea_cons e_int (ea_cons e_int (ea_cons (e_var rfl rfl) (ea_cons e_int ea_nil)))))
      unfold tRet tLst
      refine ea H' eF _ fun vs H2 F2 g2 hp => ?_
      obtain ⟨u, w0, rfl, ⟨c, cs, hu, hc, hcs⟩, u1, w1, rfl, h1, u2, w2, rfl, h2, u3, w3, rfl, h3, u4, w4, rfl, h4, u5, w5, rfl, h5, hn⟩ := hp
      cases h1; cases h2; cases h3; cases h4; cases h5; cases hn; subst hu
      have gg := gF.trans g2
      refine ⟨by show 6 ≤ sizeLine; decide, fun p hp => q p _ F2 (gg.trans (Grow.of gg.f (Ex.new hp))) (g2.f.free hp) ⟨c, cs, 0, 0, 0, m, 0, upd_same, hc, fun x hx => ?_, ?_, by omega, m0, m1⟩⟩
      · rw [pint hcs] at hx
        obtain ⟨k, _, e⟩ := List.mem_map.mp hx
        exact ⟨k, e.symm⟩
      · rw [p_len hcs, List.length_take]; omega
/-- a draw as a reading -/
theorem j_draw {σ : L2.St} {o : Addr} {Hk H : Hp} {ta tb : TE} {many : Int} {Ew : XK} {Q : VK} (ha : E rV ta σ Hk (.ref o)) (hb : E rInt tb σ Hk many) (p0 : 0 < many) (p1 : many < 1000) (ex : Ex Hk H) (hk : Hk o = none) (j : JarAt Hk H o)
    (q : ∀ (d : Int) H' F, 0 ≤ d → d < many → GJ o Hk H F H' → Q (.int d) H') : tCall spDraw [] Ew (tCons ta (tCons tb tNil)) σ H Q :=
  (ea_cons ha (ea_cons hb ea_nil)) H ex _ fun vs H2 F g hp => by
    obtain ⟨v, ws, rfl, hv, v2, ws2, rfl, hv2, hn⟩ := hp
    cases hv; cases hv2; cases hn
    have g1 := GJ.of hk j g
    exact ⟨F, g1.f, o, many, rfl, g1.fo, g1.j, p0, p1, fun d H' F' d0 d1 g' => q d H' F' d0 d1 (g1.trans g')⟩
def spPick (K : PySem.W.Frag) : Sp := fun vs H Q _ => ∃ Hk, Ex Hk H ∧ ∃ o v xs, vs = [.ref o, v] ∧ Hk o = none ∧ JarAt Hk H o ∧ rLst (rQ K) Hk v xs ∧ 0 < xs.length ∧ xs.length < 1000 ∧ ∀ x u H' F, x ∈ xs → GJ o Hk H F H' → rQ K F u x → Q u H'
theorem ok__law_pick (T : Txt K mg) : FnOk P w K mg base CX0 2 T.d__law_pick.a T.d__law_pick.fd ["jar", "menu"] (spPick K) := by
  refine T.d__law_pick.F.ok sc__law_pick (fun vs H Q Ew h => ?_) (fun cdv A outer s H vs Q Ew hr h => ?_)
  · obtain ⟨_, _, _, _, _, rfl, _⟩ := h; rfl
  · obtain ⟨Hk, ex, o, v, xs, rfl, hk, j, hv, l0, l1, q⟩ := h
    refine ⟨_, (pss_one (ps_ret (pe_ix (ix_listK (K := K) rfl) (pv 1) (pe_call (ok__law_draw T) (hr.mono (by decide)) (by rfl) T.g__law_draw T.d__law_draw.F.kp T.d__law_draw.b .nil pass0 (pa_cons (pv 0) (pa_cons (pe_callB (c_lenK (K := K) rfl) (by rfl) T.n_len (by decide +kernel) (pa_cons (pv 1) pa_nil)) pa_nil))) (fun _ _ => rfl)))), ?_⟩
    have v1 : E (rLst (rQ K)) (tVar 1) (L2.start ["jar", "menu"] [.ref o, v]) Hk xs := e_var hv rfl
    refine ⟨v, rfl, ?_⟩
    refine j_draw (e_var (r := rV) rfl rfl) (e_len v1) (by omega) (by omega) ex hk j fun d H' F d0 d1 g => ?_
    obtain ⟨a, vs, rfl, ha, hp⟩ := up g.k hv
    have hd : d.toNat < xs.length := by omega
    obtain ⟨y, h1, h2⟩ := p_at hp (at_get hd)
    refine ⟨a, vs, d, y, rfl, rfl, sq_of (g.f _ _ ha), ?_, q _ y H' F ?_ g h2⟩
    · have := atI_nat h1
      rwa [Int.toNat_of_nonneg d0] at this
    · have := at_get (xs := xs) hd
      exact List.mem_of_getElem? this
/-- a drawn fraction -/
def Fr (x : Rat) : Prop := ∃ t b : Int, x = Rat.divInt t b ∧ -4 ≤ t ∧ t ≤ 4 ∧ 1 ≤ b ∧ b ≤ 4
def spNums (K : PySem.W.Frag) : Sp := fun vs H Q _ => ∃ Hk, Ex Hk H ∧ ∃ o, ∃ n : Nat, vs = [.ref o, .int (n : Int)] ∧ Hk o = none ∧ JarAt Hk H o ∧ n ≤ 7 ∧ ∀ p vs xs H' F, xs.length = n → (∀ x ∈ xs, Fr x) → GJ o Hk H F H' → F p = none → H p = none → H' p = some (.lst vs) → Paired (rQ K F) vs xs → Q (.ref p) H'
theorem free_of {K H F H' : Hp} {p : Addr} (g : Grow K H F H') (hk : K p = none) {u : HO} (hp : H p = some u) : F p = none := by
  cases z : F p with
  | none => rfl
  | some u => have := g.n p hk (by rw [z]; exact fun z => nomatch z); rw [hp] at this; cases this
theorem GJ.free {o : Addr} {K H F H' : Hp} {p : Addr} (g : GJ o K H F H') (ne : p ≠ o) (hk : K p = none) {u : HO} (hp : H p = some u) : F p = none ∧ H' p = some u := by
  refine ⟨free_of g.g hk (by rw [dl_ne ne]; exact hp), ?_⟩
  have := g.g.h p u (by rw [dl_ne ne]; exact hp)
  rwa [dl_ne ne] at this
theorem GJ.mut {o : Addr} {K H F H' : Hp} {p : Addr} {u : HO} (g : GJ o K H F H') (ne : p ≠ o) (fp : F p = none) (hp : H p = none) : GJ o K H F (upd H' p u) := by
  have e : dl (upd H' p u) o = upd (dl H' o) p u := funext fun a => by
    by_cases z : a = o
    · subst z; rw [dl_same, upd_ne (Ne.symm ne), dl_same]
    · rw [dl_ne z]
      by_cases z2 : a = p
      · subst z2; rw [upd_same, upd_same]
      · rw [upd_ne z2, upd_ne z2, dl_ne z]
  refine ⟨by rw [e]; exact Grow_mut g.g fp (by rw [dl_ne ne]; exact hp), ?_⟩
  obtain ⟨c, cs, i, r, l, m, n, h1, h2⟩ := g.j
  exact ⟨c, cs, i, r, l, m, n, by rw [upd_ne (Ne.symm ne)]; exact h1, h2⟩
theorem ok__law_numbers (T : Txt K mg) : FnOk P w K mg base CX0 2 T.d__law_numbers.a T.d__law_numbers.fd ["jar", "size"] (spNums K) := by
  refine T.d__law_numbers.F.ok sc__law_numbers (fun vs H Q Ew h => ?_) (fun cdv A outer s H vs Q Ew hr h => ?_)
  · obtain ⟨_, _, _, _, rfl, _⟩ := h; rfl
  · obtain ⟨Hk, ex, o, n, rfl, hk, j, n7, q⟩ := h
    refine ⟨_, (pss_cons (ps_set (i := 2) sc__law_numbers.nd rfl (Or.inl rfl) (pe_lst pa_nil))
      (pss_cons (ps_for PassesOwn.never rfl (pi_range1 (by rfl) T.n_range (pa_cons (pv 1) pa_nil)) (pg_name (i := 3) sc__law_numbers.nd rfl (Or.inl rfl) (hf := Or.inr rfl))
      (pss_one (ps_expr (pe_bm PySem.F.plainAttrs_list PySem.F.slot_list_append PySem.F.type_list_append mt_append (pv 2) (pa_cons (pe_call (ok__law_low T) (hr.mono (by decide)) (by rfl) T.g__law_low T.d__law_low.F.kp T.d__law_low.b .nil pass0 (pa_cons (pe_op op_sub (pe_call (ok__law_draw T) (hr.mono (by decide)) (by rfl) T.g__law_draw T.d__law_draw.F.kp T.d__law_draw.b .nil pass0 (pa_cons (pv 0) (pa_cons pe_int pa_nil))) pe_int) (pa_cons (pe_op op_add pe_int (pe_call (ok__law_draw T) (hr.mono (by decide)) (by rfl) T.g__law_draw T.d__law_draw.F.kp T.d__law_draw.b .nil pass0 (pa_cons (pv 0) (pa_cons pe_int pa_nil)))) pa_nil))) pa_nil)))))
      (pss_one (ps_ret (pv 2))))), ?_⟩
    refine s_setN (r := rQ K) en_nil ex fun p vs H1 F1 g1 fp hp h1 hv => ?_
    cases hv
    have j1 := GJ.of hk j g1
    have po : p ≠ o := fun z => by
      obtain ⟨c, cs, i, r, l, m, n, h, _⟩ := j
      rw [z, h] at hp; cases hp
    dsimp only
    refine s_forR1 (K := F1) (n := (n : Int)) (e_var rfl rfl) (by omega) (by omega) g1.f
      (fun k σ' H' => ∃ x F vs xs, σ' = [some (.ref o), some (.int (n : Int)), some (.ref p), x] ∧ GJ o Hk H F H' ∧ F p = none ∧ H' p = some (.lst vs) ∧ vs.length = k ∧ xs.length = k ∧ (∀ x ∈ xs, Fr x) ∧ Paired (rQ K F) vs xs)
      (fun H2 e2 => ⟨none, F1, [], [], rfl, j1.trans (GJ.of j1.fo j1.j (Grow.of g1.f e2)), fp, e2 _ _ h1, rfl, rfl, (fun _ h => nomatch h), .nil⟩) ?_ ?_
    · rintro k σ' H' hk' ⟨x, F, vs, xs, rfl, gF, f1, h1, l1, l2, hx, hp'⟩
      refine ⟨.ref p, rfl, Or.inl ⟨rfl, vs, sq_of h1⟩, ?_⟩
      refine j_draw (Hk := F) (e_var (r := rV) rfl rfl) (e_int (n := 9)) (by decide) (by decide) gF.f gF.fo gF.j fun d H2 F2 d0 d1 g2 => ?_
      refine ⟨d, 4, rfl, rfl, ?_⟩
      refine j_draw (Hk := F2) (e_var (r := rV) rfl rfl) (e_int (n := 3)) (by decide) (by decide) g2.f g2.fo g2.j fun d' H3 F3 d0' d1' g3 => ?_
      refine ⟨1, d', rfl, rfl, ?_⟩
      refine ⟨F3, g3.f, d - 4, 1 + d', rfl, by omega, Nat.lt_of_lt_of_le (show _ < 2 ^ 4 by omega) (Nat.pow_le_pow_right (by decide) (by decide)), fun v H4 F4 g4 hv => ?_⟩
      have gg := (gF.trans g2).trans (g3.trans (GJ.of g3.fo g3.j g4))
      have a2 := g2.free po f1 h1
      have a3 := g3.free po a2.1 a2.2
      have f4 := free_of g4 a3.1 a3.2
      have h4 := g4.h _ _ a3.2
      refine ⟨p, vs, v, rfl, rfl, h4, sz_lt (by omega), ?_⟩
      refine ⟨_, F4, vs ++ [v], xs ++ [Rat.divInt (d - 4) (1 + d')], rfl, gg.mut po f4 hp, f4, upd_same, by rw [List.length_append, l1]; rfl, by rw [List.length_append, l2]; rfl, fun y hy => ?_, p_app (p_up (g2.k.trans (g3.k.trans g4.k)) hp') (.cons hv .nil)⟩
      rcases List.mem_append.mp hy with hy | hy
      · exact hx y hy
      · rw [List.mem_singleton.mp hy]
        exact ⟨d - 4, 1 + d', rfl, by omega, by omega, by omega, by omega⟩
    · rintro σ' H' ⟨x, F, vs, xs, rfl, gF, f1, h1, l1, l2, hx, hp'⟩
      rw [Int.toNat_natCast] at l2
      exact ⟨.ref p, rfl, q p vs xs H' F l2 hx gF f1 hp h1 hp'⟩
def spHand (K : PySem.W.Frag) (C : Addr) : Sp := fun vs H Q _ => ∃ Hk, Ex Hk H ∧ ∃ o v xs, vs = [.ref o, v] ∧ Hk o = none ∧ JarAt Hk H o ∧ rLst (rQ K) Hk v xs ∧ xs.length ≤ 1000 ∧ (∀ x ∈ xs, S4 x) ∧ ∀ p vs H' F, GJ o Hk H F H' → F p = none → H p = none → H' p = some (.lst vs) → Paired (rNum C F) vs xs → Q (.ref p) H'
theorem ok__law_handed (T : Txt K mg) : FnOk P w K mg base CX0 4 T.d__law_handed.a T.d__law_handed.fd ["jar", "row"] (spHand K T.cR) := by
  refine T.d__law_handed.F.ok sc__law_handed (fun vs H Q Ew h => ?_) (fun cdv A outer s H vs Q Ew hr h => ?_)
  · obtain ⟨_, _, _, _, _, rfl, _⟩ := h; rfl
  · obtain ⟨Hk, ex, o, v, xs, rfl, hk, j, hv, hl, hs4, q⟩ := h
    refine ⟨_, (pss_one (ps_ret (pe_lc (own := [("u", 2)]) (g := gName 2) rfl sc__law_handed.nd (pi_list (pv 1)) (blkOk_by (N := ["jar", "row", "u"]) (sc := defScope s__law_handed) (by decide +kernel)) (fun _ _ _ _ _ => (pg_name (i := 2) sc__law_handed.nd rfl (Or.inl rfl) (hf := Or.inr rfl))) (fun _ _ _ _ _ => pts_nil) (fun _ _ _ _ _ => (pe_ifExp (PW.pt (pw_or (pt_cmpR op_gt (pe_ix (ix_tupK (K := K) rfl) (pv 2) pe_int (fun _ _ => rfl)) pe_int (nomark _)) (pw_or1 (pt_cmpR op_eq (pe_call (ok__law_draw T) (hr.mono (by decide)) (by rfl) T.g__law_draw T.d__law_draw.F.kp T.d__law_draw.b .nil pass0 (pa_cons (pv 0) (pa_cons pe_int pa_nil))) pe_int (nomark _))))) (pe_make T.mk_Ratio (ok_Ratio_init T) (hr.mono (by decide)) rfl T.g_Ratio T.d_Ratio_init.b .nil pass0 (pa_cons (pe_ix (ix_tupK (K := K) rfl) (pv 2) pe_int (fun _ _ => rfl)) (pa_cons (pe_ix (ix_tupK (K := K) rfl) (pv 2) pe_int (fun _ _ => rfl)) pa_nil))) (pe_ix (ix_tupK (K := K) rfl) (pv 2) pe_int (fun _ _ => rfl))))))), ?_⟩
    unfold tRet tLc
    refine it_list (e_var (σ := L2.start ["jar", "row", "u"] [.ref o, v]) (i := 1) hv rfl) H ex _ fun J H2 F G Y gr w hG hY Dl hD => ?_
    have jF := GJ.of hk j gr
    have fD : F Dl = none := gr.f.free hD
    have hD0 : H Dl = none := gr.h.free hD
    have Do : Dl ≠ o := fun z => by
      obtain ⟨c, cs, i, r, l, m, n, h, _⟩ := j
      rw [z, h] at hD0; cases hD0
    refine lc_it w (fun i H' => ∃ F' acc, Ex F F' ∧ GJ o Hk H F' H' ∧ F' Dl = none ∧ H' Dl = some (.lst acc) ∧ acc.length = i ∧ Paired (rNum T.cR F') acc (xs.take i))
      ⟨F, [], Ex.refl F, jF.mut Do fD hD0, fD, upd_same, rfl, .nil⟩ (fun i H' _ ⟨F', acc, e, g', _⟩ => hG H' (e.trans g'.f)) ?_ ?_
    · rintro i v3 H3 H4 hi ⟨F', acc, e, g', d1, d2, hl', hp⟩ hy
      obtain ⟨F4, g4, x, hxi, hvx⟩ := hY i H3 v3 H4 F' hi e g'.f hy
      have g5 := g'.trans (GJ.of g'.fo g'.j g4)
      have d4 := free_of g4 d1 d2
      have d4' := g4.h _ _ d2
      have tk : xs.take (i + 1) = xs.take i ++ [x] := by rw [List.take_succ, hxi]; rfl
      have done : ∀ y H6 F6, GJ o F4 H4 F6 H6 → rNum T.cR F6 y x → ∃ acc, H6 Dl = some (.lst acc) ∧ acc.length < sizeLine ∧ ∃ F' acc', Ex F F' ∧ GJ o Hk H F' (upd H6 Dl (.lst (acc ++ [y]))) ∧ F' Dl = none ∧ upd H6 Dl (.lst (acc ++ [y])) Dl = some (.lst acc') ∧ acc'.length = i + 1 ∧ Paired (rNum T.cR F') acc' (xs.take (i + 1)) := fun y H6 F6 g6 hy6 => by
        have a6 := g6.free Do d4 d4'
        refine ⟨acc, a6.2, sz_lt (by omega), F6, acc ++ [y], e.trans (g4.k.trans g6.k), (g5.trans g6).mut Do a6.1 hD0, a6.1, upd_same, by rw [List.length_append, hl']; rfl, ?_⟩
        rw [tk]
        exact p_app (p_up (g4.k.trans g6.k) hp) (.cons hy6 .nil)
      refine ⟨rfl, ?_⟩
      have s4 := hs4 x (List.mem_of_getElem? hxi)
      have u0 : ∀ F, Ex F4 F → E (rQ K) (tVar 2) [some (.ref o), some v, some v3] F x := fun F e => e_var (up e hvx) rfl
      have mk : ∀ H5 F5, GJ o F4 H4 F5 H5 → ∀ Q : VK, (∀ y H6 F6, GJ o F4 H4 F6 H6 → rNum T.cR F6 y x → Q y H6) → tMake T.cR (spInit T.cR) [] E0 (tCons (tOp (rIxT K) (tVar 2) (tC (.int 0))) (tCons (tOp (rIxT K) (tVar 2) (tC (.int 1))) tNil)) [some (.ref o), some v, some v3] H5 Q := fun H5 F5 g Q k =>
        e_ratio (e_top (u0 F5 g.k)) (e_bot (u0 F5 g.k)) (den0 x) (pow49 (S4.den s4)) (q_def x) H5 g.f _ fun y H6 F6 g6 hy => k y H6 F6 (g.trans (GJ.of g.fo g.j g6)) (.inr hy)
      have here : GJ o F4 H4 F4 H4 := GJ.of g5.fo g5.j (Grow.refl g4.f)
      refine (e_b0 (p := fun i j => decide (i > j)) (e_bot (u0 F4 (Ex.refl _))) (e_int (n := 1))) H4 g4.f _ fun vb H5 F5 g6 hvb => ⟨_, hvb, ?_⟩
      have g7 := here.trans (GJ.of here.fo here.j g6)
      by_cases c : (x.den : Int) > 1
      · rw [decide_eq_true c]
        exact mk H5 F5 g7 _ fun y H6 F6 g hy => done y H6 F6 g hy
      · rw [decide_eq_false c]
        refine j_draw (Hk := F5) (e_var (r := rV) rfl rfl) (e_int (n := 3)) (by decide) (by decide) g7.f g7.fo g7.j fun d H7 F7 d0 d1 g8 => ?_
        have g9 := g7.trans g8
        refine ⟨rfl, _, rfl, ?_⟩
        by_cases z : d = 0
        · subst z
          exact mk H7 F7 g9 _ fun y H6 F6 g hy => done y H6 F6 g hy
        · rw [show decide (V.int d = V.int 0) = false from decide_eq_false fun e => z (by cases e; rfl)]
          refine (e_top (u0 F7 g9.k)) H7 g9.f _ fun y H6 F6 g hy => ?_
          exact done y H6 F6 (g9.trans (GJ.of g9.fo g9.j g)) (.inl ⟨hy, by have := x.den_nz; omega⟩)
    · rintro H' ⟨F', acc, e, g', d1, d2, hl', hp⟩
      rw [List.take_length] at hp
      exact q Dl acc H' F' g' d1 hD0 d2 hp
end
end Y8

set_option Elab.async false
set_option linter.all false
set_option maxRecDepth 100000
set_option maxHeartbeats 4000000
/-! # Rows of drawn fractions; the pieces of the law's loop -/
namespace Y8
open PySem L2 Y Ser
section
variable {P : Program} {w : World} {K : PySem.W.Frag} {mg : Str → Option Value} {base : Heap}
/-! ### lists written out -/
def EAs {α : Type} (r : Rp α) (ta : TA) (σ : L2.St) (Hk : Hp) (xs : List α) : Prop := ∀ H, Ex Hk H → ∀ Q : List V → Hp → Prop, (∀ vs H2 F, Grow Hk H F H2 → Paired (r F) vs xs → Q vs H2) → ta σ H Q
theorem eas_nil {α : Type} {r : Rp α} {σ : L2.St} {Hk : Hp} : EAs r tNil σ Hk [] := fun H a Q q => q [] H Hk (Grow.refl a) .nil
theorem eas_cons {α : Type} {r : Rp α} [Mono r] {σ : L2.St} {Hk : Hp} {te : TE} {tr : TA} {x : α} {xs : List α} (h : E r te σ Hk x) (hr : ∀ F, Ex Hk F → EAs r tr σ F xs) : EAs r (tCons te tr) σ Hk (x :: xs) := fun H a Q q =>
  h H a _ fun v H2 F g hv => hr F g.k H2 g.f _ fun vs H3 F3 g3 hp => q _ H3 F3 (g.trans g3) (.cons (up g3.k hv) hp)
theorem en_lst {α : Type} {r : Rp α} [Mono r] {σ : L2.St} {Hk : Hp} {ta : TA} {xs : List α} (h : EAs r ta σ Hk xs) (hz : xs.length ≤ 1000) : EN r (tLst ta) σ Hk xs := fun H a Q q => h H a _ fun vs H2 F g hv =>
  ⟨sz_of (by rw [p_len hv]; omega), fun p hp => q p vs _ F ⟨g.h.trans (Ex.new hp), g.k, g.f.trans (Ex.new hp), g.n⟩ (g.f.free hp) (g.h.free hp) upd_same hv⟩
/-! ### what is known -/
theorem GJ.know {o : Addr} {K H F H' : Hp} {p : Addr} {u : HO} (g : GJ o K H F H') (fp : F p = none) (hp : H p = none) (h' : H' p = some u) (ne : p ≠ o) : GJ o K H (upd F p u) H' := by
  refine ⟨⟨g.g.h, g.k.trans (Ex.new fp), fun a v e => ?_, fun a h1 h2 => ?_⟩, g.j.mono (Ex.new fp) (Ex.refl _)⟩
  · by_cases z : a = p
    · subst z; rw [upd_same] at e; cases e; rw [dl_ne ne]; exact h'
    · rw [upd_ne z] at e; exact g.g.f a v e
  · by_cases z : a = p
    · subst z; rw [dl_ne ne]; exact hp
    · rw [upd_ne z] at h2; exact g.g.n a h1 h2
theorem JarAt.ne {F H : Hp} {o p : Addr} (j : JarAt F H o) (hp : H p = none) : p ≠ o := fun z => by
  obtain ⟨c, cs, i, r, l, m, n, h, _⟩ := j
  rw [z, h] at hp; cases hp
theorem Fr0 : Fr 0 := ⟨0, 1, (Rat.zero_divInt 1).symm, by omega, by omega, by omega, by omega⟩
theorem Fr1 : Fr 1 := ⟨1, 1, by decide +kernel, by omega, by omega, by omega, by omega⟩
/-- a row of n drawn fractions at v -/
structure Rw (K : PySem.W.Frag) (F : Hp) (v : V) (n : Nat) (xs : List Rat) : Prop where
  r : rLst (rQ K) F v xs
  l : xs.length = n
  f : ∀ x ∈ xs, Fr x
theorem Rw.up {F F' : Hp} {v : V} {n : Nat} {xs : List Rat} (h : Rw K F v n xs) (e : Ex F F') : Rw K F' v n xs := ⟨Y.up e h.r, h.l, h.f⟩
theorem Fr.wd {x : Rat} (h : Fr x) {D M : Nat} (g : Good D M) : Wd D 1 x := by
  obtain ⟨t, b, rfl, t1, t2, b1, b2⟩ := h
  have hb : ((b.toNat : Nat) : Int) = b := by omega
  rw [← hb]
  refine Wd.frac (Nat.dvd_trans (dvd60 (by omega) (by omega)) g.dv) g.one (by have := g.ge; omega)
theorem Rw.aw {F : Hp} {v : V} {n : Nat} {xs : List Rat} (h : Rw K F v n xs) {D M : Nat} (g : Good D M) : Aw D 1 xs := Aw.mem fun x hx => (h.f x hx).wd g
theorem Fr.s4 {x : Rat} (h : Fr x) : S4 x := by
  have g : Good 60 600 := ⟨by decide, by decide, by decide +kernel⟩
  exact Y8.s4 g (h.wd g) (by decide)
theorem drop_f {xs : List Rat} (h : ∀ x ∈ xs, Fr x) (k : Nat) : ∀ x ∈ xs.drop k, Fr x := fun x hx => h x (List.mem_of_mem_drop hx)
/-- a row led by another number -/
theorem led {y : Rat} {xs : List Rat} {n : Nat} (hn : 0 < n) (hl : xs.length = n) (h : ∀ x ∈ xs, Fr x) (hy : Fr y) : ([y] ++ xs.drop 1).length = n ∧ ∀ x ∈ [y] ++ xs.drop 1, Fr x := by
  refine ⟨by rw [List.length_append, List.length_drop, hl]; show 1 + (n - 1) = n; omega, fun x hx => ?_⟩
  rcases List.mem_append.mp hx with hx | hx
  · rw [List.mem_singleton.mp hx]; exact hy
  · exact drop_f h 1 x hx
/-! ### readings with draws -/
theorem j_nums {D : Ends} {σ : L2.St} {o : Addr} {H0 Hk F H : Hp} {i n : Nat} {Ew : XK} (h1 : σ[1]? = some (some (.ref o))) (h2 : σ[2]? = some (some (.int (n : Int)))) (n7 : n ≤ 7) (g : GJ o Hk H0 F H)
    (k : ∀ v xs H2 F2, GJ o Hk H0 F2 H2 → Ex F F2 → Rw K F2 v n xs → D.nx (σ.set i (some v)) H2) : tAsg (tCall (spNums K) [] Ew (tCons (tVar 1) (tCons (tVar 2) tNil))) (gName i) D σ H :=
  ⟨_, h1, _, h2, F, g.f, o, n, rfl, g.fo, g.j, n7, fun p vs xs H' F' hl hf g' fp hp h' hv => by
    have g2 := g'.know fp hp h' (g.j.ne hp)
    exact k (.ref p) xs H' _ (g.trans g2) g2.k ⟨⟨p, vs, rfl, upd_same, p_up (Ex.new fp) hv⟩, hl, hf⟩⟩
theorem j_hand {C : Addr} {σ : L2.St} {o : Addr} {H0 Hk F H : Hp} {te : TE} {xs : List Rat} {Ew : XK} {Q : VK} (h1 : σ[1]? = some (some (.ref o))) (he : E (rLst (rQ K)) te σ F xs) (hl : xs.length ≤ 1000) (h4 : ∀ x ∈ xs, S4 x) (g : GJ o Hk H0 F H)
    (k : ∀ v H2 F2, GJ o Hk H0 F2 H2 → Ex F F2 → rLst (rNum C) F2 v xs → Q v H2) : tCall (spHand K C) [] Ew (tCons (tVar 1) (tCons te tNil)) σ H Q :=
  (ea_cons (e_var (r := rV) (x := V.ref o) rfl h1) (ea_cons he ea_nil)) H g.f _ fun vs H1 F1 g1 hp => by
    obtain ⟨v, ws, rfl, hv, v2, ws2, rfl, hv2, hn⟩ := hp
    cases hv; cases hn
    have gg := g.trans (GJ.of g.fo g.j g1)
    exact ⟨F1, gg.f, o, v2, xs, rfl, gg.fo, gg.j, hv2, hl, h4, fun p us H' F' g' fp hp h' hv => by
      have g2 := g'.know fp hp h' (gg.j.ne hp)
      exact k (.ref p) H' _ (gg.trans g2) (g1.k.trans g2.k) ⟨p, us, rfl, upd_same, p_up (Ex.new fp) hv⟩⟩
theorem e_in4 {σ : L2.St} {Hk : Hp} {ta : TE} {n a b c d : Int} (h : E rInt ta σ Hk n) : E rBl (tOp (rIn K false) ta (tTup (tCons (tC (.int a)) (tCons (tC (.int b)) (tCons (tC (.int c)) (tCons (tC (.int d)) tNil)))))) σ Hk (decide (n = a ∨ n = b ∨ n = c ∨ n = d)) :=
  fun H e Q q => h H e _ fun v H2 F g hv => ⟨by show 4 ≤ sizeLine; decide, fun p hp => ⟨p, _, rfl, .inr (st_of upd_same), by cases hv; rfl, rfl, q _ _ F ⟨g.h.trans (Ex.new hp), g.k, g.f.trans (Ex.new hp), g.n⟩ (by
    cases hv
    show V.bl ((a == n) || ((b == n) || ((c == n) || ((d == n) || false)))) = V.bl _
    congr 1
    rw [Bool.eq_iff_iff]; simp only [Bool.or_false, Bool.or_eq_true, beq_iff_eq, decide_eq_true_eq]; omega)⟩⟩
theorem pos_of {xs : List Rat} {n : Nat} (hl : xs.length = n) (c : (!decide (xs = [])) = true) : 0 < n := by
  rw [Bool.not_eq_true', decide_eq_false_iff_not] at c
  have := List.length_pos_iff.mpr c
  omega
/-- [e] + a[1:] -/
theorem e_led {σ : L2.St} {Hk : Hp} {te ta : TE} {y : Rat} {xs : List Rat} (he : E (rQ K) te σ Hk y) (ha : E (rLst (rQ K)) ta σ Hk xs) (h7 : xs.length ≤ 7) : E (rLst (rQ K)) (tOp rCat (tLst (tCons te tNil)) (tSl (rSlL K) ta (tPart (tC (.int 1))) tNoPart)) σ Hk ([y] ++ xs.drop 1) :=
  EN.e (en_cat (EN.e (en_one he)) ((EN.e (en_slice ha (eo_some e_int) eo_none)).as (cutL_from xs 1)) (by rw [List.length_drop]; show 1 + (xs.length - 1) ≤ 100000; omega))
theorem op_intro {r : R2} {ta tb : TE} {σ : L2.St} {H : Hp} {Q : VK} (h : ta σ H fun x H1 => tb σ H1 fun y H2 => r x y H2 Q) : tOp r ta tb σ H Q := h
theorem lst_intro {ta : TA} {σ : L2.St} {H : Hp} {Q : VK} (h : ta σ H fun vs H1 => vs.length ≤ sizeLine ∧ ∀ p, H1 p = none → Q (.ref p) (upd H1 p (.lst vs))) : tLst ta σ H Q := h
theorem cons_intro {te : TE} {tr : TA} {σ : L2.St} {H : Hp} {Q : List V → Hp → Prop} (h : te σ H fun v H1 => tr σ H1 fun vs H2 => Q (v :: vs) H2) : tCons te tr σ H Q := h
theorem call_intro {sp : Sp} {Ew : XK} {ta : TA} {σ : L2.St} {H : Hp} {Q : VK} (h : ta σ H fun vs H1 => sp (vs ++ []) H1 Q Ew) : tCall sp [] Ew ta σ H Q := h
theorem j_u {D : Ends} {σ : L2.St} {o : Addr} {H0 Hk F H : Hp} {n way : Nat} {va : V} {xs : List Rat} {Ew : XK} (h1 : σ[1]? = some (some (.ref o))) (h3 : σ[3]? = some (some va)) (h6 : σ[6]? = some (some (.int (way : Int)))) (n7 : n ≤ 7) (g : GJ o Hk H0 F H) (ra : Rw K F va n xs)
    (k : ∀ v us H2 F2, GJ o Hk H0 F2 H2 → Ex F F2 → Rw K F2 v n us → D.nx (σ.set 7 (some v)) H2) :
    tAsg (tIf (tAnd (tTest (tOp (rNeD K) (tVar 3) (tLst tNil))) (tTest (tOp (rIn K false) (tVar 6) (tTup (tCons (tC (.int 2)) (tCons (tC (.int 4)) (tCons (tC (.int 5)) (tCons (tC (.int 7)) tNil)))))))) (tOp rCat (tLst (tCons (tCall (spPick K) [] Ew (tCons (tVar 1) (tCons (tLst (tCons (tTup (tCons (tC (.int 0)) (tCons (tC (.int 1)) tNil))) (tCons (tTup (tCons (tC (.int 0)) (tCons (tC (.int 1)) tNil))) (tCons (tTup (tCons (tC (.int 0)) (tCons (tC (.int 1)) tNil))) (tCons (tOp (rIxL K) (tVar 3) (tC (.int 0))) tNil))))) tNil))) tNil)) (tSl (rSlL K) (tVar 3) (tPart (tC (.int 1))) tNoPart)) (tCB (rList K) (tCons (tVar 3) tNil))) (gName 7) D σ H := by
  have va' : ∀ F', Ex F F' → E (rLst (rQ K)) (tVar 3) σ F' xs := fun F' e => e_var (Y.up e ra.r) h3
  refine (t_and (t_test (e_neNil (s := rInt) (va' F (Ex.refl F)) en_nil)) fun _ => t_test (e_in4 (e_var (x := (way : Int)) rfl h6))) H g.f _ fun H1 e1 => ?_
  have g1 := g.trans (GJ.of g.fo g.j (Grow.of g.f e1))
  split
  · next c =>
    have hn := pos_of ra.l (Bool.and_eq_true_iff.mp c).1
    have hx : 0 < xs.length := by rw [ra.l]; exact hn
    have menu : EN (rQ K) (tLst (tCons (tTup (tCons (tC (.int 0)) (tCons (tC (.int 1)) tNil))) (tCons (tTup (tCons (tC (.int 0)) (tCons (tC (.int 1)) tNil))) (tCons (tTup (tCons (tC (.int 0)) (tCons (tC (.int 1)) tNil))) (tCons (tOp (rIxL K) (tVar 3) (tC (.int 0))) tNil))))) σ F [0, 0, 0, at_ xs 0] :=
      en_lst (eas_cons z_pair fun F1 e1 => eas_cons z_pair fun F2 e2 => eas_cons z_pair fun F3 e3 => eas_cons (e_at0 (va' _ ((e1.trans e2).trans e3)) hx) fun _ _ => eas_nil) (by show 4 ≤ 1000; decide)
    refine op_intro (lst_intro (cons_intro (call_intro ((ea_cons (e_var (r := rV) (x := V.ref o) rfl h1) (ea_cons menu.e ea_nil)) H1 g1.f _ fun vs H2 F2 g2 hp => ?_))))
    obtain ⟨v, ws, rfl, hv, v2, ws2, rfl, hv2, hn'⟩ := hp
    cases hv; cases hn'
    have gg := g1.trans (GJ.of g1.fo g1.j g2)
    refine ⟨F2, gg.f, o, v2, _, rfl, gg.fo, gg.j, hv2, by show 0 < 4; decide, by show 4 < 1000; decide, fun y u H3 F3 hy g3 hu => ?_⟩
    have fy : Fr y := by
      have a0 : Fr (at_ xs 0) := ra.f _ (List.mem_of_getElem? (at_get hx))
      simp only [List.mem_cons, List.not_mem_nil, or_false] at hy
      rcases hy with rfl | rfl | rfl | rfl
      · exact Fr0
      · exact Fr0
      · exact Fr0
      · exact a0
    have g13 := gg.trans g3
    refine ⟨sz_of (show 1 ≤ 100000 by decide), fun p hp => ?_⟩
    have gp := (Grow.refl g13.f).new (o := .lst [u]) hp
    refine ((EN.as (en_slice (va' _ (g2.k.trans (g3.k.trans gp.k))) (eo_some e_int) eo_none) (cutL_from xs 1))) _ gp.f _ fun p2 vs2 H4 F4 g4 fp2 hp2 h4 hv4 => ?_
    have hb : H4 p = some (.lst [u]) := g4.f _ _ (g4.k _ _ upd_same)
    refine ⟨p, p2, [u], vs2, rfl, rfl, hb, h4, sz_of (by rw [p_len hv4, List.length_drop]; show 1 + (xs.length - 1) ≤ 100000; rw [ra.l]; omega), fun p3 hp3 => ?_⟩
    have g5 := (gp.trans g4).new (o := .lst ([u] ++ vs2)) hp3
    have g6 := g13.trans (GJ.of g13.fo g13.j g5)
    obtain ⟨l1, f1⟩ := led hn ra.l ra.f fy
    have f4 : F4 p3 = none := (gp.trans g4).f.free hp3
    exact k (.ref p3) _ _ _ g6 ((g2.k.trans g3.k).trans g5.k) ⟨⟨p3, _, rfl, upd_same, p_app (.cons (Y.up g5.k hu) .nil) (p_up (Ex.new f4) hv4)⟩, l1, f1⟩
  · refine (EN.e (en_list (va' F (Ex.refl F)))) H1 g1.f _ fun v H2 F2 g2 hv => ?_
    exact k v xs H2 F2 (g1.trans (GJ.of g1.fo g1.j g2)) g2.k ⟨hv, ra.l, ra.f⟩
theorem j_u2 {D : Ends} {σ : L2.St} {o : Addr} {H0 Hk F H : Hp} {n way : Nat} {va vu : V} {xs us : List Rat} {Ew : XK} (h1 : σ[1]? = some (some (.ref o))) (h3 : σ[3]? = some (some va)) (h6 : σ[6]? = some (some (.int (way : Int)))) (h7 : σ[7]? = some (some vu)) (n7 : n ≤ 7) (g : GJ o Hk H0 F H) (ra : Rw K F va n xs) (ru : Rw K F vu n us)
    (k : ∀ v us H2 F2, GJ o Hk H0 F2 H2 → Ex F F2 → Rw K F2 v n us → D.nx (σ.set 7 (some v)) H2) :
    tIfS (tAnd (tTest (tOp (rNeD K) (tVar 3) (tLst tNil))) (tAnd (tTest (tOp (rIn K false) (tVar 6) (tTup (tCons (tC (.int 3)) (tCons (tC (.int 6)) tNil))))) (tTest (tOp (rI0 fun i j => .bl (decide (i > j))) (tCall spDraw [] Ew (tCons (tVar 1) (tCons (tC (.int 4)) tNil))) (tC (.int 0)))))) (tAsg (tOp rCat (tLst (tCons (tTup (tCons (tC (.int 1)) (tCons (tC (.int 1)) tNil))) tNil)) (tSl (rSlL K) (tVar 3) (tPart (tC (.int 1))) tNoPart)) (gName 7)) tNext D σ H := by
  have va' : ∀ F', Ex F F' → E (rLst (rQ K)) (tVar 3) σ F' xs := fun F' e => e_var (Y.up e ra.r) h3
  have stay : ∀ H2 F2, GJ o Hk H0 F2 H2 → Ex F F2 → D.nx σ H2 := fun H2 F2 g2 e => by
    have := k vu us H2 F2 g2 e (ru.up e)
    rwa [set_id h7] at this
  refine (t_test (e_neNil (s := rInt) (va' F (Ex.refl F)) en_nil)) H g.f _ fun H1 e1 => ?_
  have g1 := g.trans (GJ.of g.fo g.j (Grow.of g.f e1))
  split
  · next c =>
    have hn := pos_of ra.l c
    refine (t_test (e_in2 (e_var (x := (way : Int)) rfl h6))) H1 g1.f _ fun H2 e2 => ?_
    have g2 := g1.trans (GJ.of g1.fo g1.j (Grow.of g1.f e2))
    split
    · refine j_draw (Hk := F) (e_var (r := rV) rfl h1) (e_int (n := 4)) (by decide) (by decide) g2.f g2.fo g2.j fun d H3 F3 d0 d1 g3 => ?_
      refine ⟨d, 0, rfl, rfl, _, rfl, ?_⟩
      have g4 := g2.trans g3
      dsimp only
      split
      · refine (e_led o_pair (va' F3 g3.k) (by rw [ra.l]; exact n7)) H3 g4.f _ fun v H4 F4 g5 hv => ?_
        obtain ⟨l1, f1⟩ := led hn ra.l ra.f Fr1
        exact k v _ H4 F4 (g4.trans (GJ.of g4.fo g4.j g5)) (g3.k.trans g5.k) ⟨hv, l1, f1⟩
      · exact stay H3 F3 g4 g3.k
    · exact stay H2 F g2 (Ex.refl F)
  · exact stay H1 F g1 (Ex.refl F)
theorem neg2 (b t : Int) : Rat.divInt (-b) (-t) = Rat.divInt b t := by
  have := Rat.divInt_mul_right (n := b) (d := t) (show (-1 : Int) ≠ 0 by decide)
  rwa [Int.mul_neg_one, Int.mul_neg_one] at this
/-- the inverse of a drawn fraction -/
theorem Fr.inv {x : Rat} (h : Fr x) (h0 : x ≠ 0) {D M : Nat} (g : Good D M) : Wd D 1 (1 / x) := by
  obtain ⟨t, b, rfl, t1, t2, b1, b2⟩ := h
  have ht : t ≠ 0 := fun z => h0 (by rw [z]; exact Rat.zero_divInt _)
  have e : (1 : Rat) / Rat.divInt t b = Rat.divInt (if t < 0 then -b else b) ((t.natAbs : Nat) : Int) := by
    rw [Rat.div_def, Rat.inv_divInt, Rat.one_mul]
    split
    · rw [show ((t.natAbs : Nat) : Int) = -t by omega, neg2]
    · rw [show ((t.natAbs : Nat) : Int) = t by omega]
  rw [e]
  refine Wd.frac (Nat.dvd_trans (dvd60 (by omega) (by omega)) g.dv) g.one ?_
  have := g.ge
  split <;> omega
theorem Fr.invF {x : Rat} (h : Fr x) (h0 : x ≠ 0) : Fr (1 / x) := by
  obtain ⟨t, b, rfl, t1, t2, b1, b2⟩ := h
  have ht : t ≠ 0 := fun z => h0 (by rw [z]; exact Rat.zero_divInt _)
  refine ⟨if t < 0 then -b else b, t.natAbs, ?_, ?_, ?_, by omega, by omega⟩
  · rw [Rat.div_def, Rat.inv_divInt, Rat.one_mul]
    split
    · rw [show ((t.natAbs : Nat) : Int) = -t by omega, neg2]
    · rw [show ((t.natAbs : Nat) : Int) = t by omega]
  · split <;> omega
  · split <;> omega
end
end Y8

set_option Elab.async false
set_option linter.all false
set_option maxRecDepth 100000
set_option maxHeartbeats 4000000
/-! # The law's loop -/
namespace Y8
open PySem L2 Y Ser
section
variable {P : Program} {w : World} {K : PySem.W.Frag} {mg : Str → Option Value} {base : Heap}
theorem inv_wd {D : Nat} {t b : Int} (hD : 1 ≤ D) (h0 : t ≠ 0) (h1 : t.natAbs ∣ D) (h2 : b.natAbs ≤ D) : Wd D 1 (1 / Rat.divInt t b) := by
  have e : (1 : Rat) / Rat.divInt t b = Rat.divInt (if t < 0 then -b else b) ((t.natAbs : Nat) : Int) := by
    rw [Rat.div_def, Rat.inv_divInt, Rat.one_mul]
    split
    · rw [show ((t.natAbs : Nat) : Int) = -t by omega, neg2]
    · rw [show ((t.natAbs : Nat) : Int) = t by omega]
  rw [e]
  exact Wd.frac h1 hD (by split <;> omega)
theorem one_sub {t b t' b' : Int} (hb : 1 ≤ b) (hb' : 1 ≤ b') : 1 - Rat.divInt t b * Rat.divInt t' b' = Rat.divInt (b * b' - t * t') (b * b') := by
  rw [Rat.divInt_eq_div, Rat.divInt_eq_div, Rat.divInt_eq_div]
  have h1 : (b : Rat) ≠ 0 := fun z => by have : b = 0 := by exact_mod_cast z
                                         omega
  have h2 : (b' : Rat) ≠ 0 := fun z => by have : b' = 0 := by exact_mod_cast z
                                          omega
  push_cast
  grind
/-- the drawn number -/
def Np (p : Rat) : Prop := ∃ t b : Int, p = Rat.divInt t b ∧ -6 ≤ t ∧ t ≤ 6 ∧ 1 ≤ b ∧ b ≤ 4
theorem g60 {D M : Nat} (g : Good D M) : 60 ≤ D := Nat.le_of_dvd (by have := g.ge; omega) g.dv
theorem wd_tb {D M : Nat} (g : Good D M) {t b : Int} (h1 : 1 ≤ b) (h2 : b ≤ 4) (h3 : t.natAbs ≤ 60) : Wd D 1 (Rat.divInt t b) := by
  have hb : ((b.toNat : Nat) : Int) = b := by omega
  rw [← hb]
  exact Wd.frac (Nat.dvd_trans (dvd60 (by omega) (by omega)) g.dv) g.one (by have := g60 g; omega)
theorem Np.wd {p : Rat} (h : Np p) {D M : Nat} (g : Good D M) : Wd D 1 p := by
  obtain ⟨t, b, rfl, t1, t2, b1, b2⟩ := h
  exact wd_tb g b1 b2 (by omega)
theorem at_fr {xs : List Rat} (h : ∀ x ∈ xs, Fr x) (k : Nat) : Fr (at_ xs k) := by
  by_cases hk : k < xs.length
  · exact h _ (List.mem_of_getElem? (at_get hk))
  · rw [at_over (by omega)]; exact Fr0
theorem preW {way n : Nat} {us ws : List Rat} {p : Rat} (hw : way ≤ 7) (n7 : n ≤ 7) (hu : us.length = n) (hv : ws.length = n) (fu : ∀ x ∈ us, Fr x) (fw : ∀ x ∈ ws, Fr x) (hp : Np p) : PreW way us ws p := by
  refine ⟨hw, by omega, by omega, ?_⟩
  obtain ⟨t, b, e1, t1, t2, b1, b2⟩ := at_fr fu 0
  obtain ⟨t', b', e2, t1', t2', b1', b2'⟩ := at_fr fw 0
  have bb : 1 ≤ b * b' ∧ b * b' ≤ 16 := ⟨by have : 0 < b * b' := Int.mul_pos (by omega) (by omega)
                                            omega, by have := Int.mul_le_mul b2 b2' (by omega) (by omega); omega⟩
  have tt : (t * t').natAbs ≤ 16 := by rw [Int.natAbs_mul]; exact Nat.mul_le_mul (show t.natAbs ≤ 4 by omega) (show t'.natAbs ≤ 4 by omega)
  obtain ⟨N, hN⟩ : ∃ N : Int, N = b * b' - t * t' := ⟨_, rfl⟩
  have hNa : N.natAbs ≤ 32 := by omega
  obtain ⟨D, hD⟩ : ∃ D : Nat, D = 60 * (if N = 0 then 1 else N.natAbs) := ⟨_, rfl⟩
  have hd : 60 ≤ D ∧ D ≤ 1920 := by rw [hD]; split <;> omega
  have g : Good D 300 := ⟨by omega, by rw [hD]; exact Nat.dvd_mul_right _ _, Nat.lt_of_le_of_lt (Nat.pow_le_pow_left hd.2 300) (by decide +kernel)⟩
  refine ⟨D, 300, 1, 1, g, Aw.mem fun x hx => (fu x hx).wd g, Aw.mem fun x hx => (fw x hx).wd g, hp.wd g, fun _ h0 => (at_fr fw 0).inv h0 g, fun _ h0 => ?_, by omega, fun _ => by omega⟩
  rw [e1, e2, one_sub b1 b1', ← hN] at h0 ⊢
  have n0 : N ≠ 0 := fun z => h0 (by rw [z]; exact Rat.zero_divInt _)
  exact inv_wd (by omega) n0 (by rw [hD, if_neg n0]; exact Nat.dvd_mul_left _ _) (by omega)
theorem j_v {D : Ends} {σ : L2.St} {o : Addr} {H0 Hk F H : Hp} {n way : Nat} {va vb vu vv : V} {xs ys us ws : List Rat} {Ew Ew' : XK} (h1 : σ[1]? = some (some (.ref o))) (h3 : σ[3]? = some (some va)) (h4 : σ[4]? = some (some vb)) (h6 : σ[6]? = some (some (.int (way : Int)))) (h7 : σ[7]? = some (some vu)) (h8 : σ[8]? = some (some vv))
    (h34 : ∀ v, (σ.set 7 (some v))[3]? = some (some va) ∧ (σ.set 7 (some v))[4]? = some (some vb)) (n7 : n ≤ 7) (g : GJ o Hk H0 F H) (ra : Rw K F va n xs) (rb : Rw K F vb n ys) (ru : Rw K F vu n us) (rv : Rw K F vv n ws)
    (k : ∀ v v' us ws H2 F2, GJ o Hk H0 F2 H2 → Ex F F2 → Rw K F2 v n us → Rw K F2 v' n ws → D.nx ((σ.set 7 (some v)).set 8 (some v')) H2) :
    tIfS (tAnd (tTest (tOp (rNeD K) (tVar 3) (tLst tNil))) (tAnd (tTest (tOp rEq (tVar 6) (tC (.int 7)))) (tAnd (tTest (tOp rEq (tCall spDraw [] Ew (tCons (tVar 1) (tCons (tC (.int 3)) tNil))) (tC (.int 0)))) (tTest (tOp rNe (tOp (rIxT K) (tOp (rIxL K) (tVar 3) (tC (.int 0))) (tC (.int 0))) (tC (.int 0)))))))
      (tSeq (tAsg (tCB (rList K) (tCons (tVar 3) tNil)) (gName 7)) (tAsg (tOp rCat (tLst (tCons (tCall (spQQ K (fun x1 x2 => x1 / x2) pD) [] Ew' (tCons (tTup (tCons (tC (.int 1)) (tCons (tC (.int 1)) tNil))) (tCons (tOp (rIxL K) (tVar 3) (tC (.int 0))) tNil))) tNil)) (tSl (rSlL K) (tVar 4) (tPart (tC (.int 1))) tNoPart)) (gName 8))) tNext D σ H := by
  have va' : ∀ F', Ex F F' → E (rLst (rQ K)) (tVar 3) σ F' xs := fun F' e => e_var (Y.up e ra.r) h3
  have stay : ∀ H2 F2, GJ o Hk H0 F2 H2 → Ex F F2 → D.nx σ H2 := fun H2 F2 g2 e => by
    have := k vu vv us ws H2 F2 g2 e (ru.up e) (rv.up e)
    rwa [set_id h7, set_id h8] at this
  refine (t_test (e_neNil (s := rInt) (va' F (Ex.refl F)) en_nil)) H g.f _ fun H1 e1 => ?_
  have g1 := g.trans (GJ.of g.fo g.j (Grow.of g.f e1))
  split
  · next c =>
    have hn := pos_of ra.l c
    have hx : 0 < xs.length := by rw [ra.l]; exact hn
    refine (t_test (e_eqI (e_var (x := (way : Int)) rfl h6) e_int)) H1 g1.f _ fun H2 e2 => ?_
    have g2 := g1.trans (GJ.of g1.fo g1.j (Grow.of g1.f e2))
    split
    · refine j_draw (Hk := F) (e_var (r := rV) rfl h1) (e_int (n := 3)) (by decide) (by decide) g2.f g2.fo g2.j fun d H3 F3 d0 d1 g3 => ?_
      refine ⟨rfl, _, rfl, ?_⟩
      have g4 := g2.trans g3
      dsimp only
      split
      · refine (t_test (e_neI (e_top (e_at0 (va' F3 g3.k) hx)) e_int)) H3 g4.f _ fun H4 e4 => ?_
        have g5 := g4.trans (GJ.of g4.fo g4.j (Grow.of g4.f e4))
        split
        · next c4 =>
          have a0 : at_ xs 0 ≠ 0 := fun z => by rw [z] at c4; exact absurd c4 (by decide)
          have fa : Fr (at_ xs 0) := at_fr ra.f 0
          have g0 : Good 60 600 := ⟨by decide, by decide, by decide +kernel⟩
          refine (EN.e (en_list (va' F3 g3.k))) H4 g5.f _ fun v H5 F5 g6 hv => ?_
          have g7 := g5.trans (GJ.of g5.fo g5.j g6)
          have e5 := g3.k.trans g6.k
          refine (e_led (y := 1 / at_ xs 0) (xs := ys) (e_QQ o_pair (e_at0 (e_var (Y.up e5 ra.r) (h34 v).1) hx) Fr1.s4 fa.s4 ⟨a0, num_small g0 (fa.wd g0) (by decide)⟩) (e_var (Y.up e5 rb.r) (h34 v).2) (by rw [rb.l]; exact n7)) H5 g7.f _ fun v' H6 F6 g8 hv' => ?_
          obtain ⟨l1, f1⟩ := led hn rb.l rb.f (fa.invF a0)
          exact k v v' xs _ H6 F6 (g7.trans (GJ.of g7.fo g7.j g8)) (e5.trans g8.k) ⟨Y.up g8.k hv, ra.l, ra.f⟩ ⟨hv', l1, f1⟩
        · exact stay H4 F3 g5 g3.k
      · exact stay H3 F3 g4 g3.k
    · exact stay H2 F g2 (Ex.refl F)
  · exact stay H1 F g1 (Ex.refl F)
theorem e_so {C : Addr} {σ : L2.St} {Hk : Hp} {ta tb tc td : TE} {way : Nat} {xs ys : List Rat} {p : Rat} {n : Int} {Ew : XK} (hn : n = (way : Int)) (hw : E rInt ta σ Hk n) (ha : E (rLst (rNum C)) tb σ Hk xs) (hb : E (rLst (rNum C)) tc σ Hk ys) (hp : E (rNum C) td σ Hk p) (pre : PreW way xs ys p) :
    E (rTold C) (tCall (spSo K C) [] Ew (tCons ta (tCons tb (tCons tc (tCons td tNil))))) σ Hk (dueF way xs ys p) := by
  subst hn
  have ea := ea_cons hw (ea_cons ha (ea_cons hb (ea_cons hp ea_nil)))
  cases hd : dueF way xs ys p with
  | none =>
    exact e_call (r := rTold C) (x := none) ea fun F H vs Q ex hv q => by
      obtain ⟨v, ws, rfl, hv, v2, ws2, rfl, hv2, v3, ws3, rfl, hv3, v4, ws4, rfl, hv4, hn⟩ := hv
      cases hv; cases hn
      exact ⟨F, ex, way, v2, v3, v4, xs, ys, p, rfl, hv2, hv3, hv4, pre, by rw [hd]; exact fun v H F g hv => q v H F g hv⟩
  | some zs =>
    have : EN (rRat C) (tCall (spSo K C) [] Ew (tCons ta (tCons tb (tCons tc (tCons td tNil))))) σ Hk zs := en_call ea fun F H vs Q ex hv q => by
      obtain ⟨v, ws, rfl, hv, v2, ws2, rfl, hv2, v3, ws3, rfl, hv3, v4, ws4, rfl, hv4, hn⟩ := hv
      cases hv; cases hn
      exact ⟨F, ex, way, v2, v3, v4, xs, ys, p, rfl, hv2, hv3, hv4, pre, by rw [hd]; exact q⟩
    exact this.e
theorem e_dueC {σ : L2.St} {Hk : Hp} {ta tb tc td : TE} {way : Nat} {xs ys : List Rat} {p : Rat} {n : Int} {Ew : XK} (hn : n = (way : Int)) (hw : E rInt ta σ Hk n) (ha : E (rLst (rQ K)) tb σ Hk xs) (hb : E (rLst (rQ K)) tc σ Hk ys) (hp : E (rQ K) td σ Hk p) (pre : PreW way xs ys p) :
    E (rDue K) (tCall (spDue K) [] Ew (tCons ta (tCons tb (tCons tc (tCons td tNil))))) σ Hk (dueF way xs ys p) := by
  subst hn
  exact e_call (ea_cons hw (ea_cons ha (ea_cons hb (ea_cons hp ea_nil)))) fun F H vs Q ex hv q => by
    obtain ⟨v, ws, rfl, hv, v2, ws2, rfl, hv2, v3, ws3, rfl, hv3, v4, ws4, rfl, hv4, hn⟩ := hv
    cases hv; cases hn
    exact ⟨F, ex, way, v2, v3, v4, xs, ys, p, rfl, hv2, hv3, hv4, pre, q⟩
theorem rat_num {C : Addr} {F : Hp} {v : V} {x : Rat} (h : rRat C F v x) : rNum C F v x := .inr h
theorem rats_num {C : Addr} {F : Hp} {v : V} {xs : List Rat} (h : rLst (rRat C) F v xs) : rLst (rNum C) F v xs := by
  obtain ⟨a, vs, h1, h2, h3⟩ := h
  exact ⟨a, vs, h1, h2, p_imp (fun _ _ q => .inr q) h3⟩
theorem E.rn {C : Addr} {σ : L2.St} {Hk : Hp} {te : TE} {x : Rat} (h : E (rRat C) te σ Hk x) : E (rNum C) te σ Hk x := fun H e Q q => h H e Q fun v H2 F g hv => q v H2 F g (.inr hv)
theorem E.rns {C : Addr} {σ : L2.St} {Hk : Hp} {te : TE} {xs : List Rat} (h : E (rLst (rRat C)) te σ Hk xs) : E (rLst (rNum C)) te σ Hk xs := fun H e Q q => h H e Q fun v H2 F g hv => q v H2 F g (rats_num hv)
theorem dueF_len {way : Nat} {xs ys zs : List Rat} {p : Rat} (h : dueF way xs ys p = some zs) : zs.length = xs.length := by
  unfold dueF at h
  split at h
  · cases h; exact mulL_len _ _
  · obtain ⟨_, rfl⟩ := some_of h; exact divL_len _ _
  · obtain ⟨_, rfl⟩ := some_of h; exact expL_len _
  · obtain ⟨_, rfl⟩ := some_of h; exact logL_len _
  · obtain ⟨_, rfl⟩ := some_of h; exact tanL_len _
  · obtain ⟨_, rfl⟩ := some_of h; exact atanL_len _
  · obtain ⟨_, rfl⟩ := some_of h; exact powL_len _ _
  · obtain ⟨_, rfl⟩ := some_of h; exact arcL_len _ _
end
end Y8

set_option Elab.async false
set_option linter.all false
set_option maxRecDepth 100000
set_option maxHeartbeats 8000000
/-! # One turn of the law's loop -/
namespace Y8
open PySem L2 Y Ser
section
variable {P : Program} {w : World} {K : PySem.W.Frag} {mg : Str → Option Value} {base : Heap}
theorem asg_intro {te : TE} {i : Nat} {D : Ends} {σ : L2.St} {H : Hp} (h : te σ H fun v H1 => D.nx (σ.set i (some v)) H1) : tAsg te (gName i) D σ H := h
theorem resN_of {α : Type} {r : Rp α} [Mono r] {Hk H : Hp} {xs : List α} {Q : VK} (k : Res (rLst r) Hk H xs Q) : ResN r Hk H xs Q := fun p vs H2 F g fp hp h2 hv => by
  refine k (.ref p) H2 (upd F p (.lst vs)) ⟨g.h, g.k.trans (Ex.new fp), Ex.put g.f h2, fun b h1 h3 => ?_⟩ ⟨p, vs, rfl, upd_same, p_up (Ex.new fp) hv⟩
  by_cases z : b = p
  · subst z; exact hp
  · rw [upd_ne z] at h3; exact g.n b h1 h3
theorem j_so {C : Addr} {D : Ends} {σ : L2.St} {Hk H : Hp} {va vb vp : V} {way : Nat} {xs ys : List Rat} {p : Rat} {Ew : XK} (h6 : σ[6]? = some (some (.int (way : Int)))) (h9 : σ[9]? = some (some va)) (h10 : σ[10]? = some (some vb)) (h11 : σ[11]? = some (some vp)) (ex : Ex Hk H) (ha : rLst (rNum C) Hk va xs) (hb : rLst (rNum C) Hk vb ys) (hp : rNum C Hk vp p) (pre : PreW way xs ys p)
    (k1 : ∀ zs q vs H2 F, dueF way xs ys p = some zs → Grow Hk H F H2 → F q = none → H q = none → H2 q = some (.lst vs) → Paired (rRat C F) vs zs → D.nx (σ.set 13 (some (.ref q))) H2)
    (k2 : ∀ H2 F, dueF way xs ys p = none → Grow Hk H F H2 → D.nx (σ.set 13 (some (.str bn))) H2) : tAsg (tCall (spSo K C) [] Ew (tCons (tVar 6) (tCons (tVar 9) (tCons (tVar 10) (tCons (tVar 11) tNil))))) (gName 13) D σ H := by
  refine ⟨_, h6, _, h9, _, h10, _, h11, Hk, ex, way, va, vb, vp, xs, ys, p, rfl, ha, hb, hp, pre, ?_⟩
  cases hd : dueF way xs ys p with
  | none => exact fun v H2 F g hv => by cases hv; exact k2 H2 F hd g
  | some zs => exact fun q vs H2 F g fq hq h2 hv => k1 zs q vs H2 F hd g fq hq h2 hv
/-- the turn: from the lists handed in on -/
def tTail (K : PySem.W.Frag) (C : Addr) : TS :=
  tSeq (tAsg (tCall (spHand K C) [] E0 (tCons (tVar 1) (tCons (tVar 7) tNil))) (gName 9))
  (tSeq (tAsg (tCall (spHand K C) [] E0 (tCons (tVar 1) (tCons (tVar 8) tNil))) (gName 10))
  (tSeq (tAsg (tMake C (spInit C) [] E0 (tCons (tOp (rIxT K) (tVar 5) (tC (.int 0))) (tCons (tOp (rIxT K) (tVar 5) (tC (.int 1))) tNil))) (gName 11))
  (tSeq (tAsg (tCall (spDue K) [] E0 (tCons (tVar 6) (tCons (tVar 7) (tCons (tVar 8) (tCons (tVar 5) tNil))))) (gName 12))
  (tSeq (tAsg (tCall (spSo K C) [] E0 (tCons (tVar 6) (tCons (tVar 9) (tCons (tVar 10) (tCons (tVar 11) tNil))))) (gName 13))
  (tSeq (tIfS (tOr (tNot (tB (tCall (spFit K C) [] E0 (tCons (tVar 13) (tCons (tVar 12) tNil))))) (tOr (tNot (tB (tCall (spKept K C) [] E0 (tCons (tVar 9) (tCons (tVar 7) tNil))))) (tNot (tB (tCall (spKept K C) [] E0 (tCons (tVar 10) (tCons (tVar 8) tNil))))))) (tRet (tC (.bl false))) tNext)
  (tSeq (tIfS (tB (tCB (rIsi K) (tCons (tVar 12) (tCons (tC (.ty "str")) tNil)))) tCont tNext)
  (tSeq (tDrop (tBM K "list" rAppend (tVar 13) (tCons (tC (.int 3)) tNil)))
    (tIfS (tOr (tNot (tB (tCall (spFit K C) [] E0 (tCons (tCall (spSo K C) [] E0 (tCons (tVar 6) (tCons (tVar 9) (tCons (tVar 10) (tCons (tVar 11) tNil))))) (tCons (tVar 12) tNil))))) (tNot (tB (tCall (spKept K C) [] E0 (tCons (tVar 9) (tCons (tVar 7) tNil)))))) (tRet (tC (.bl false))) tNext))))))))
theorem j_tail (T : Txt K mg) {D : Ends} {o : Addr} {H0 Hk F H : Hp} {n way : Nat} {x0 x2 x3 x4 x9 x10 x11 x12 x13 x14 x15 : Option V} {vn vu vv : V} {us ws : List Rat} {p : Rat} (w7 : way ≤ 7) (n7 : n ≤ 7) (hp : Np p) (g : GJ o Hk H0 F H) (rn : rQ K F vn p) (ru : Rw K F vu n us) (rv : Rw K F vv n ws)
    (k : ∀ y9 y10 y11 y12 y13 H2 F2, GJ o Hk H0 F2 H2 → Ex F F2 → D.nx [x0, some (.ref o), x2, x3, x4, some vn, some (.int (way : Int)), some vu, some vv, y9, y10, y11, y12, y13, x14, x15] H2)
    (hc : D.ct = D.nx) : tTail K T.cR D [x0, some (.ref o), x2, x3, x4, some vn, some (.int (way : Int)), some vu, some vv, x9, x10, x11, x12, x13, x14, x15] H := by
  have pre := preW w7 n7 ru.l rv.l ru.f rv.f hp
  have g0 : Good 60 600 := ⟨by decide, by decide, by decide +kernel⟩
  have p4 : S4 p := s4 g0 (hp.wd g0) (by decide)
  refine asg_intro (j_hand rfl (e_var ru.r rfl) (by have := ru.l; omega) (fun x hx => (ru.f x hx).s4) g fun v9 H2 F2 g2 e2 hv9 => ?_)
  refine asg_intro (j_hand rfl (e_var (Y.up e2 rv.r) rfl) (by have := rv.l; omega) (fun x hx => (rv.f x hx).s4) g2 fun v10 H3 F3 g3 e3 hv10 => ?_)
  have e23 := e2.trans e3
  refine s_set (r := rRat T.cR) (x := p) (e_ratio (e_top (e_var (Y.up e23 rn) rfl)) (e_bot (e_var (Y.up e23 rn) rfl)) (den0 p) (pow49 (S4.den p4)) (q_def p)) g3.f fun v11 H4 F4 g4 hv11 => ?_
  have e4 := e23.trans g4.k
  refine s_set (r := rDue K) (x := dueF way us ws p) (e_dueC rfl (e_var rfl rfl) (e_var (Y.up e4 ru.r) rfl) (e_var (Y.up e4 rv.r) rfl) (e_var (Y.up e4 rn) rfl) pre) g4.f fun v12 H5 F5 g5 hv12 => ?_
  have e5 := e4.trans g5.k
  have gg : GJ o Hk H0 F5 H5 := g3.trans (GJ.of g3.fo g3.j (g4.trans g5))
  have k9 : rLst (rNum T.cR) F5 v9 us := Y.up (e3.trans (g4.k.trans g5.k)) hv9
  have k10 : rLst (rNum T.cR) F5 v10 ws := Y.up (g4.k.trans g5.k) hv10
  have k11 : rNum T.cR F5 v11 p := rat_num (Y.up g5.k hv11)
  have lim : ∀ ys, dueF way us ws p = some ys → ys.length ≤ 1000 := fun ys h => by rw [dueF_len h, ru.l]; omega
  have kept : ∀ σ F6, Ex F5 F6 → σ[9]? = some (some v9) → σ[7]? = some (some vu) → E rBl (tCall (spKept K T.cR) [] E0 (tCons (tVar 9) (tCons (tVar 7) tNil))) σ F6 true := fun σ F6 e h9 h7 => e_kept (e_var (Y.up e k9) h9) (e_var (Y.up (e5.trans e) ru.r) h7) (by have := ru.l; omega)
  have kept2 : ∀ σ F6, Ex F5 F6 → σ[10]? = some (some v10) → σ[8]? = some (some vv) → E rBl (tCall (spKept K T.cR) [] E0 (tCons (tVar 10) (tCons (tVar 8) tNil))) σ F6 true := fun σ F6 e h9 h7 => e_kept (e_var (Y.up e k10) h9) (e_var (Y.up (e5.trans e) rv.r) h7) (by have := rv.l; omega)
  refine j_so rfl rfl rfl rfl gg.f k9 k10 k11 pre (fun zs q vs H6 F6 hd g6 fq hq h6 hv6 => ?_) (fun H6 F6 hd g6 => ?_)
  · rw [hd] at hv12
    have q0 : q ≠ o := gg.j.ne hq
    have H0q : H0 q = none := by
      cases z : H0 q with
      | none => rfl
      | some u => have := gg.g.h q u (by rw [dl_ne q0]; exact z); rw [dl_ne q0, hq] at this; cases this
    have g7 := gg.trans (GJ.of gg.fo gg.j g6)
    have exq : Ex (upd F6 q (.lst vs)) H6 := Ex.put g6.f h6
    have kq : Ex F5 (upd F6 q (.lst vs)) := g6.k.trans (Ex.new fq)
    try dsimp only
    refine s_if (K := upd F6 q (.lst vs)) (b := false) ((t_or (t_not (t_b (e_fit (o := some zs) (e_var (r := rTold T.cR) (x := some zs) (show rLst (rRat T.cR) _ _ zs from ⟨q, vs, rfl, upd_same, p_up (Ex.new fq) hv6⟩) rfl) (e_var (r := rDue K) (x := some zs) (Y.up kq hv12) rfl) (fun ys h => lim ys (hd.trans h))))) fun _ => t_or (t_not (t_b (kept _ _ kq rfl rfl))) fun _ => t_not (t_b (kept2 _ _ kq rfl rfl))).as rfl) exq (fun c => nomatch c) (fun _ H7 e7 => ?_)
    refine s_if (K := F6) (b := false) (t_b (e_isi (r := rLst (rQ K)) (x := zs) (e_var (Y.up g6.k (show rLst (rQ K) F5 v12 zs from hv12)) rfl) (.ty _) ty_lst kLS)) (g6.f.trans e7) (fun c => nomatch c) (fun _ H8 e8 => ?_)
    try dsimp only
    refine s_app (K := F6) (r := rInt) (x := 3) rfl fq (e8 _ _ (e7 _ _ h6)) (by have := p_len hv6; have := lim zs hd; omega) ((g6.f.trans e7).trans e8) e_int fun v9' H9 F9 g9 hv9' f9 => ?_
    have g10 : GJ o Hk H0 F9 (upd H9 q (.lst (vs ++ [v9']))) := (((g7.trans (GJ.of g7.fo g7.j (Grow.of g7.f (e7.trans e8)))).trans (GJ.of g7.fo ((g7.j.mono (Ex.refl _) (e7.trans e8))) g9))).mut q0 f9 H0q
    have k9' := g6.k.trans g9.k
    try dsimp only
    refine s_if (K := F9) (b := false) ((t_or (t_not (t_b (e_fit (o := some zs) (hd ▸ e_so rfl (e_var (r := rInt) (x := (way : Int)) rfl rfl) (e_var (Y.up k9' k9) rfl) (e_var (Y.up k9' k10) rfl) (e_var (Y.up k9' k11) rfl) pre) (e_var (r := rDue K) (x := some zs) (Y.up k9' hv12) rfl) (fun ys h => lim ys (hd.trans h))))) fun _ => t_not (t_b (kept _ _ k9' rfl rfl))).as rfl) g10.f (fun c => nomatch c) (fun _ Hz ez => ?_)
    exact k _ _ _ _ _ Hz F9 (g10.trans (GJ.of g10.fo g10.j (Grow.of g10.f ez))) (e5.trans k9')
  · rw [hd] at hv12
    have g7 := gg.trans (GJ.of gg.fo gg.j g6)
    try dsimp only
    refine s_if (K := F6) (b := false) ((t_or (t_not (t_b (e_fit (o := none) (e_var (r := rTold T.cR) (x := none) (show V.str bn = V.str bn from rfl) rfl) (e_var (r := rDue K) (x := none) (Y.up g6.k hv12) rfl) (fun ys h => nomatch h)))) fun _ => t_or (t_not (t_b (kept _ _ g6.k rfl rfl))) fun _ => t_not (t_b (kept2 _ _ g6.k rfl rfl))).as rfl) g6.f (fun c => nomatch c) (fun _ H7 e7 => ?_)
    refine s_if (K := F6) (b := true) (t_b (e_isi (r := rStr) (x := bn) (e_var (show v12 = .str bn from hv12) rfl) (.ty _) ty_str kSS)) (g6.f.trans e7) (fun _ H8 e8 => ?_) (fun c => nomatch c)
    show D.ct _ H8
    rw [hc]
    exact k _ _ _ _ _ H8 F6 (g7.trans (GJ.of g7.fo g7.j (Grow.of g7.f (e7.trans e8)))) (e5.trans g6.k)
end
end Y8

set_option Elab.async false
set_option linter.all false
set_option maxRecDepth 100000
set_option maxHeartbeats 8000000
/-! # The law -/
namespace Y8
open PySem L2 Y Ser
section
variable {P : Program} {w : World} {K : PySem.W.Frag} {mg : Str → Option Value} {base : Heap}
/-- a first number of size n, then the row's others -/
theorem led0 {y : Rat} {xs : List Rat} {n : Nat} (hl : xs.length = n) (h : ∀ x ∈ xs, Fr x) (hy : Fr y) : ([y].take n ++ xs.drop 1).length = n ∧ (∀ x ∈ [y].take n ++ xs.drop 1, Fr x) ∧ (0 < n → at_ ([y].take n ++ xs.drop 1) 0 = y) := by
  cases n with
  | zero =>
    rw [List.eq_nil_of_length_eq_zero hl]
    exact ⟨rfl, (fun x hx => by simp at hx), fun h => absurd h (by omega)⟩
  | succ n =>
    rw [List.take_succ_cons, List.take_nil]
    obtain ⟨l1, f1⟩ := led (by omega) hl h hy
    exact ⟨l1, f1, fun _ => rfl⟩
theorem e_led0 {α : Type} {r : Rp α} [Mono r] {σ : L2.St} {Hk : Hp} {te ta tn : TE} {y : α} {xs : List α} {n : Nat} (he : E r te σ Hk y) (ha : E (rLst r) ta σ Hk xs) (hn : E rInt tn σ Hk (n : Int)) (h7 : xs.length ≤ 7) : E (rLst r) (tOp rCat (tSl (rSlL K) (tLst (tCons te tNil)) tNoPart (tPart tn)) (tSl (rSlL K) ta (tPart (tC (.int 1))) tNoPart)) σ Hk ([y].take n ++ xs.drop 1) :=
  EN.e (en_cat (EN.e (EN.as (en_slice (EN.e (en_one he)) eo_none (eo_some hn)) (cutL_to [y] n))) (EN.e (EN.as (en_slice ha (eo_some e_int) eo_none) (cutL_from xs 1))) (by rw [List.length_drop, List.length_take]; have : [y].length = 1 := rfl; omega))
theorem sub2 (p : Rat) : Rat.divInt (p.num - 2 * p.den) p.den = p - 2 := by
  have h := q_sub p 2
  have e1 : (2 : Rat).num = 2 := rfl
  have e2 : (2 : Rat).den = 1 := rfl
  rw [e1, e2] at h
  have : p.num * ((1 : Nat) : Int) - 2 * (p.den : Int) = p.num - 2 * p.den := by push_cast; omega
  rw [this, show (p.den : Int) * ((1 : Nat) : Int) = (p.den : Int) by push_cast; omega] at h
  exact h
theorem Np.sub2 {p : Rat} (h : Np p) {D M : Nat} (g : Good D M) : Wd D 1 (p - 2) := by
  obtain ⟨t, b, rfl, t1, t2, b1, b2⟩ := h
  have e : Rat.divInt t b - 2 = Rat.divInt (t - 2 * b) b := by
    rw [Rat.divInt_eq_div, Rat.divInt_eq_div]
    have h1 : (b : Rat) ≠ 0 := fun z => by have : b = 0 := by exact_mod_cast z
                                           omega
    push_cast
    grind
  rw [e]
  exact wd_tb g b1 b2 (by omega)
theorem e_dueS {σ : L2.St} {Hk : Hp} {ta tb tc td : TE} {way : Nat} {xs ys zs : List Rat} {p : Rat} {n : Int} {Ew : XK} (hd : dueF way xs ys p = some zs) (hn : n = (way : Int)) (hw : E rInt ta σ Hk n) (ha : E (rLst (rQ K)) tb σ Hk xs) (hb : E (rLst (rQ K)) tc σ Hk ys) (hp : E (rQ K) td σ Hk p) (pre : PreW way xs ys p) :
    E (rLst (rQ K)) (tCall (spDue K) [] Ew (tCons ta (tCons tb (tCons tc (tCons td tNil))))) σ Hk zs := by
  have := e_dueC (Ew := Ew) hn hw ha hb hp pre
  rw [hd] at this
  exact this
/-- what comes behind the loop -/
theorem j_end (T : Txt K mg) {D : Ends} {o : Addr} {H0 Hk F H : Hp} {n : Nat} {x0 x6 x7 x8 x9 x10 x11 x12 x13 x14 x15 : Option V} {va vb vn : V} {xs ys : List Rat} {p : Rat} {Q : VK} (hD : D.rt = Q) (n7 : n ≤ 7) (hp : Np p) (g : GJ o Hk H0 F H) (rn : rQ K F vn p) (ra : Rw K F va n xs) (rb : Rw K F vb n ys) (q : ∀ H', Q (.bl true) H') :
    (tSeq (tAsg (tOp rCat (tSl (rSlL K) (tLst (tCons (tTup (tCons (tC (.int 0)) (tCons (tC (.int 1)) tNil))) tNil)) tNoPart (tPart (tVar 2))) (tSl (rSlL K) (tVar 3) (tPart (tC (.int 1))) tNoPart)) (gName 7))
    (tSeq (tAsg (tOp rCat (tSl (rSlL K) (tLst (tCons (tTup (tCons (tC (.int 0)) (tCons (tC (.int 1)) tNil))) tNil)) tNoPart (tPart (tVar 2))) (tSl (rSlL K) (tVar 4) (tPart (tC (.int 1))) tNoPart)) (gName 8))
    (tSeq (tAsg (tCall (spHand K T.cR) [] E0 (tCons (tVar 1) (tCons (tVar 7) tNil))) (gName 9))
    (tSeq (tAsg (tCall (spHand K T.cR) [] E0 (tCons (tVar 1) (tCons (tVar 8) tNil))) (gName 10))
    (tSeq (tIfS (tOr (tNot (tB (tCall (spRats K T.cR) [] E0 (tCons (tCall (spLX T.cN (rNum T.cR) (rRat T.cR) logL (fun xs => Sz (fun w => 8 * w + 23) xs) fun xs => okF xs 1) [] E0 (tCons (tCall (spLX T.cN (rNum T.cR) (rRat T.cR) expL (Sz fun w => 6 * (w + 3)) fun xs => okF xs 0) [] E0 (tCons (tVar 9) tNil)) tNil)) (tCons (tVar 7) tNil)))))
        (tNot (tB (tCall (spRats K T.cR) [] E0 (tCons (tCall (spLX T.cN (rNum T.cR) (rRat T.cR) atanL (fun xs => Sz (fun w => 15 * w + 37) xs) fun xs => okF xs 0) [] E0 (tCons (tCall (spLX T.cN (rNum T.cR) (rRat T.cR) tanL (Sz fun w => 13 * (w + 4)) fun xs => okF xs 0) [] E0 (tCons (tVar 9) tNil)) tNil)) (tCons (tVar 7) tNil)))))) (tRet (tC (.bl false))) tNext)
    (tSeq (tIfS (tNot (tB (tCall (spRats K T.cR) [] E0 (tCons (tCall (spLX T.cN (rNum T.cR) (rRat T.cR) expL (Sz fun w => 6 * (w + 3)) fun xs => okF xs 0) [] E0 (tCons (tCall (spLX T.cN (rNum T.cR) (rRat T.cR) logL (fun xs => Sz (fun w => 8 * w + 23) xs) fun xs => okF xs 1) [] E0 (tCons (tOp rCat (tSl (rSlL K) (tLst (tCons (tC (.int 1)) tNil)) tNoPart (tPart (tVar 2))) (tSl (rSlL K) (tVar 9) (tPart (tC (.int 1))) tNoPart)) tNil)) tNil))
        (tCons (tOp rCat (tSl (rSlL K) (tLst (tCons (tTup (tCons (tC (.int 1)) (tCons (tC (.int 1)) tNil))) tNil)) tNoPart (tPart (tVar 2))) (tSl (rSlL K) (tVar 7) (tPart (tC (.int 1))) tNoPart)) tNil))))) (tRet (tC (.bl false))) tNext)
    (tSeq (tAsg (tCall (spDue K) [] E0 (tCons (tC (.int 7)) (tCons (tCall (spLL (rQ K) (rQ K) tanL (Sz fun w => 13 * (w + 4))) [] E0 (tCons (tVar 7) tNil)) (tCons (tCall (spLL (rQ K) (rQ K) tanL (Sz fun w => 13 * (w + 4))) [] E0 (tCons (tVar 8) tNil)) (tCons (tVar 5) tNil))))) (gName 12))
    (tSeq (tAsg (tCall (spLX T.cN (rNum T.cR) (rRat T.cR) tanL (Sz fun w => 13 * (w + 4)) fun xs => okF xs 0) [] E0 (tCons (tCall (spHand K T.cR) [] E0 (tCons (tVar 1) (tCons (tCall (spMix K) [] E0 (tCons (tVar 7) (tCons (tTup (tCons (tC (.int 1)) (tCons (tC (.int 1)) tNil))) (tCons (tVar 8) (tCons (tTup (tCons (tC (.int 1)) (tCons (tC (.int 1)) tNil))) tNil))))) tNil))) tNil)) (gName 14))
    (tSeq (tIfS (tOr (tNot (tB (tCall (spRats K T.cR) [] E0 (tCons (tVar 14) (tCons (tVar 12) tNil)))))
        (tNot (tB (tCall (spRats K T.cR) [] E0 (tCons (tCall (spRX T.cN (rNum T.cR) (rLst (rNum T.cR)) (rRat T.cR) arcL PreA okA) [] E0 (tCons (tCall (spLX T.cN (rNum T.cR) (rRat T.cR) tanL (Sz fun w => 13 * (w + 4)) fun xs => okF xs 0) [] E0 (tCons (tVar 9) tNil)) (tCons (tCall (spLX T.cN (rNum T.cR) (rRat T.cR) tanL (Sz fun w => 13 * (w + 4)) fun xs => okF xs 0) [] E0 (tCons (tVar 10) tNil)) tNil))) (tCons (tVar 12) tNil)))))) (tRet (tC (.bl false))) tNext)
    (tSeq (tAsg (tOp rCat (tSl (rSlL K) (tLst (tCons (tC (.int 1)) tNil)) tNoPart (tPart (tVar 2))) (tSl (rSlL K) (tVar 9) (tPart (tC (.int 1))) tNoPart)) (gName 15))
    (tSeq (tAsg (tCall (spDue K) [] E0 (tCons (tC (.int 6)) (tCons (tOp rCat (tSl (rSlL K) (tLst (tCons (tTup (tCons (tC (.int 1)) (tCons (tC (.int 1)) tNil))) tNil)) tNoPart (tPart (tVar 2))) (tSl (rSlL K) (tVar 7) (tPart (tC (.int 1))) tNoPart)) (tCons (tVar 8) (tCons (tVar 5) tNil))))) (gName 12))
    (tRet (tCall (spRats K T.cR) [] E0 (tCons (tCall (spRX T.cN (rNum T.cR) (rLst (rNum T.cR)) (rRat T.cR) mulL Pre2 fun x x_1 => True) [] E0 (tCons (tCall (spRX T.cN (rNum T.cR) (rNum T.cR) (rRat T.cR) powL PreP okP) [] E0 (tCons (tVar 15) (tCons (tC (.int 2)) tNil)))
        (tCons (tCall (spRX T.cN (rNum T.cR) (rNum T.cR) (rRat T.cR) powL PreP okP) [] E0 (tCons (tVar 15) (tCons (tMake T.cR (spInit T.cR) [] E0 (tCons (tOp (rI0 fun i j => .int (i - j)) (tOp (rIxT K) (tVar 5) (tC (.int 0))) (tOp (rI CMulW fun i j => .int (i * j)) (tC (.int 2)) (tOp (rIxT K) (tVar 5) (tC (.int 1))))) (tCons (tOp (rIxT K) (tVar 5) (tC (.int 1))) tNil))) tNil))) tNil))) (tCons (tVar 12) tNil)))))))))))))))
      D [x0, some (.ref o), some (.int (n : Int)), some va, some vb, some vn, x6, x7, x8, x9, x10, x11, x12, x13, x14, x15] H := by
  have g0 : Good 60 600 := ⟨by decide, by decide, by decide +kernel⟩
  obtain ⟨lu, fu, hu0⟩ := led0 ra.l ra.f Fr0
  obtain ⟨lw, fw, hw0⟩ := led0 rb.l rb.f Fr0
  refine s_set (e_led0 (r := rQ K) z_pair (e_var ra.r rfl) (e_var rfl rfl) (by rw [ra.l]; exact n7)) g.f fun v7 H1 F1 g1 hv7 => ?_
  refine s_set (e_led0 (r := rQ K) z_pair (e_var (Y.up g1.k rb.r) rfl) (e_var rfl rfl) (by rw [rb.l]; exact n7)) g1.f fun v8 H2 F2 g2 hv8 => ?_
  generalize hU : [(0 : Rat)].take n ++ xs.drop 1 = us at lu fu hu0 hv7
  generalize hW : [(0 : Rat)].take n ++ ys.drop 1 = ws at lw fw hw0 hv8
  have u00 : at_ us 0 = 0 := by
    by_cases hn : 0 < n
    · exact hu0 hn
    · exact at_over (by omega)
  have w00 : at_ ws 0 = 0 := by
    by_cases hn : 0 < n
    · exact hw0 hn
    · exact at_over (by omega)
  have au : Aw 60 1 us := Aw.mem fun x hx => (fu x hx).wd g0
  have aw : Aw 60 1 ws := Aw.mem fun x hx => (fw x hx).wd g0
  have us7 : us.length ≤ 7 := by omega
  have ws7 : ws.length ≤ 7 := by omega
  have g2' : GJ o Hk H0 F2 H2 := g.trans (GJ.of g.fo g.j (g1.trans g2))
  refine asg_intro (j_hand rfl (e_var (Y.up g2.k hv7) rfl) (by omega) (fun x hx => (fu x hx).s4) g2' fun v9 H3 F3 g3 e3 hv9 => ?_)
  refine asg_intro (j_hand rfl (e_var (Y.up e3 hv8) rfl) (by omega) (fun x hx => (fw x hx).s4) g3 fun v10 H4 F4 g4 e4 hv10 => ?_)
  have k7 : rLst (rQ K) F4 v7 us := Y.up (g2.k.trans (e3.trans e4)) hv7
  have k8 : rLst (rQ K) F4 v8 ws := Y.up (e3.trans e4) hv8
  have k9 : rLst (rNum T.cR) F4 v9 us := Y.up e4 hv9
  have kn : rQ K F4 vn p := Y.up ((g1.k.trans g2.k).trans (e3.trans e4)) rn
  -- what the readings tell, at any later heap and slots
  have te1 : ∀ {σ F'}, Ex F4 F' → σ[9]? = some (some v9) → EN (rRat T.cR) (tCall (spLX T.cN (rNum T.cR) (rRat T.cR) expL (Sz fun w => 6 * (w + 3)) fun xs => okF xs 0) [] E0 (tCons (tVar 9) tNil)) σ F' (expL us) := fun e h => e_LX (e_var (Y.up e k9) h) ⟨us7, 60, 600, 1, g0, au, by decide⟩ (fun _ => u00)
  have tt1 : ∀ {σ F'}, Ex F4 F' → σ[9]? = some (some v9) → EN (rRat T.cR) (tCall (spLX T.cN (rNum T.cR) (rRat T.cR) tanL (Sz fun w => 13 * (w + 4)) fun xs => okF xs 0) [] E0 (tCons (tVar 9) tNil)) σ F' (tanL us) := fun e h => e_LX (e_var (Y.up e k9) h) ⟨us7, 60, 600, 1, g0, au, by decide⟩ (fun _ => u00)
  have tt2 : ∀ {σ F'}, Ex F4 F' → σ[10]? = some (some v10) → EN (rRat T.cR) (tCall (spLX T.cN (rNum T.cR) (rRat T.cR) tanL (Sz fun w => 13 * (w + 4)) fun xs => okF xs 0) [] E0 (tCons (tVar 10) tNil)) σ F' (tanL ws) := fun e h => e_LX (e_var (Y.up e hv10) h) ⟨ws7, 60, 600, 1, g0, aw, by decide⟩ (fun _ => w00)
  have wtu := tanL_W g0 us7 au
  have wtw := tanL_W g0 ws7 aw
  have weu := expL_W g0 us7 au
  try dsimp only
  refine s_if (K := F4) (b := false) ((t_or (t_not (t_b (e_rats (xs := us) ((EN.as (e_LX (E.rns (EN.e (te1 (Ex.refl _) rfl))) ⟨by rw [expL_len]; exact us7, 60, 600, _, g0, weu, by decide⟩ (fun h => by rw [expL_len] at h; rw [expL_at h, if_pos rfl])) (log_of_exp us u00)).e) (e_var k7 rfl) (by omega)))) fun _ => t_not (t_b (e_rats (xs := us) ((EN.as (e_LX (E.rns (EN.e (tt1 (Ex.refl _) rfl))) ⟨by rw [tanL_len]; exact us7, 60, 600, _, g0, wtu, by decide⟩ (fun _ => tanL_0 us)) (atan_of_tan us u00)).e) (e_var k7 rfl) (by omega)))).as rfl) g4.f (fun c => nomatch c) (fun _ H5 e5 => ?_)
  obtain ⟨l1, f1, h10⟩ := led0 (y := 1) lu fu Fr1
  have one1 : ∀ {σ F'}, Ex F4 F' → σ[2]? = some (some (.int (n : Int))) → σ[9]? = some (some v9) → E (rLst (rNum T.cR)) (tOp rCat (tSl (rSlL K) (tLst (tCons (tC (.int 1)) tNil)) tNoPart (tPart (tVar 2))) (tSl (rSlL K) (tVar 9) (tPart (tC (.int 1))) tNoPart)) σ F' ([1].take n ++ us.drop 1) := fun e h2 h => e_led0 (e_c (.inl ⟨rfl, rfl⟩)) (e_var (Y.up e k9) h) (e_var rfl h2) us7
  have one2 : ∀ {σ F'}, Ex F4 F' → σ[2]? = some (some (.int (n : Int))) → σ[7]? = some (some v7) → E (rLst (rQ K)) (tOp rCat (tSl (rSlL K) (tLst (tCons (tTup (tCons (tC (.int 1)) (tCons (tC (.int 1)) tNil))) tNil)) tNoPart (tPart (tVar 2))) (tSl (rSlL K) (tVar 7) (tPart (tC (.int 1))) tNoPart)) σ F' ([1].take n ++ us.drop 1) := fun e h2 h => e_led0 o_pair (e_var (Y.up e k7) h) (e_var rfl h2) us7
  generalize hO : [(1 : Rat)].take n ++ us.drop 1 = os at l1 f1 h10 one1 one2
  have os7 : os.length ≤ 7 := by omega
  have ao : Aw 60 1 os := Aw.mem fun x hx => (f1 x hx).wd g0
  have oo : okF os 1 := fun h => h10 (by omega)
  have wlo := logL_W g0 os7 ao oo
  try dsimp only
  refine s_if (K := F4) (b := false) ((t_not (t_b (e_rats (xs := os) ((EN.as (e_LX (E.rns (EN.e (e_LX (one1 (Ex.refl _) rfl rfl) ⟨os7, 60, 600, 1, g0, ao, by decide⟩ oo))) ⟨by rw [logL_len]; exact os7, 60, 600, _, g0, wlo, by decide⟩ (fun _ => smd_0 _)) (exp_of_log os oo)).e) (one2 (Ex.refl _) rfl rfl) (by omega)))).as rfl) (g4.f.trans e5) (fun c => nomatch c) (fun _ H6 e6 => ?_)
  have d7 : dueF 7 (tanL us) (tanL ws) p = some (arcL (tanL us) (tanL ws)) := by
    unfold dueF
    exact if_pos (show okA (tanL us) (tanL ws) from fun _ => by rw [tanL_0, tanL_0]; grind)
  have x0' : 1 - at_ (tanL us) 0 * at_ (tanL ws) 0 = 1 := by rw [tanL_0, tanL_0]; grind
  have pre7 : PreW 7 (tanL us) (tanL ws) p := ⟨by omega, by rw [tanL_len, tanL_len]; omega, by rw [tanL_len]; exact us7, 60, 600, 6 * (1 + 4), 0, g0, wtu, wtw, hp.wd g0, fun h => absurd h (by decide), fun _ _ => inv_one g0 x0', by decide, fun h => absurd h (by decide)⟩
  try dsimp only
  refine s_set (r := rLst (rQ K)) (x := arcL (tanL us) (tanL ws)) (e_dueS d7 (by rfl) e_int (EN.e (e_LL (e_var k7 rfl) ⟨us7, 60, 600, 1, g0, au, by decide⟩)) (EN.e (e_LL (e_var k8 rfl) ⟨ws7, 60, 600, 1, g0, aw, by decide⟩)) (e_var kn rfl) pre7) ((g4.f.trans e5).trans e6) fun v12 H7 F7 g7 hv12 => ?_
  have g7' : GJ o Hk H0 F7 H7 := (g4.trans (GJ.of g4.fo g4.j (Grow.of g4.f (e5.trans e6)))).trans (GJ.of g4.fo (g4.j.mono (Ex.refl _) (e5.trans e6)) g7)
  have gm : Good 60 600 := g0
  have wm := mixL_w (s := 1) (t := 1) (w' := 0) g0.ge au aw (Wd.one g0.one) (Wd.one g0.one)
  have sum0 : at_ (addL us ws) 0 = 0 := by
    by_cases hn : 0 < us.length
    · rw [add_at hn, u00, w00]; grind
    · exact at_over (by rw [addL_len]; omega)
  refine asg_intro (call_intro (cons_intro (j_hand (xs := addL us ws) rfl ((EN.e (e_mix (e_var (Y.up g7.k k7) rfl) o_pair (e_var (Y.up g7.k k8) rfl) o_pair (by omega) us7 g0 au aw (Wd.one g0.one) (Wd.one g0.one) (show 0 + 1 + 1 ≤ 600 by decide))).as (mix_one us ws)) (by rw [addL_len]; omega) (fun x hx => s4 g0 (((mix_one us ws) ▸ wm : Aw 60 _ (addL us ws)).at hx) (by decide)) g7' fun v13 H8 F8 g8 e8 hv13 => ?_)))
  refine ⟨F8, g8.f, v13, _, rfl, hv13, ⟨by rw [addL_len]; exact us7, 60, 600, _, g0, (mix_one us ws) ▸ wm, by decide⟩, .inl ⟨fun _ => sum0, resN_of fun v14 H9 F9 g9 hv14 => ?_⟩⟩
  rw [tan_of_sum us ws (by omega)] at hv14
  have g9' := g8.trans (GJ.of g8.fo g8.j g9)
  have e49 : Ex F4 F9 := g7.k.trans (e8.trans g9.k)
  have k12 : rLst (rQ K) F9 v12 (arcL (tanL us) (tanL ws)) := Y.up (e8.trans g9.k) hv12
  have al : (arcL (tanL us) (tanL ws)).length ≤ 1000 := by rw [arcL_len, tanL_len]; omega
  try dsimp only
  refine s_if (K := F9) (b := false) ((t_or (t_not (t_b (e_rats (e_var hv14 rfl) (e_var k12 rfl) al))) fun _ => t_not (t_b (e_rats (EN.e (e_RX (E.rns (EN.e (tt1 e49 rfl))) (E.rns (EN.e (tt2 e49 rfl))) ⟨by rw [tanL_len, tanL_len]; omega, by rw [tanL_len]; exact us7, 60, 600, 6 * (1 + 4), 0, g0, wtu, wtw, fun _ => inv_one g0 x0', by decide⟩ (fun _ => by rw [tanL_0, tanL_0]; grind))) (e_var k12 rfl) al))).as rfl) g9'.f (fun c => nomatch c) (fun _ Ha ea => ?_)
  try dsimp only
  refine s_set (r := rLst (rNum T.cR)) (x := os) (one1 e49 rfl rfl) (g9'.f.trans ea) fun v15 Hb Fb gb hv15 => ?_
  have e4b : Ex F4 Fb := e49.trans gb.k
  have d6 : dueF 6 os ws p = some (powL os p) := by
    unfold dueF
    exact if_pos (show okP os p from oo)
  try dsimp only
  refine s_set (r := rLst (rQ K)) (x := powL os p) (e_dueS d6 (by rfl) e_int (one2 e4b rfl rfl) (e_var (Y.up e4b k8) rfl) (e_var (Y.up e4b kn) rfl) (preW (n := n) (by decide) n7 (by omega) (by omega) f1 fw hp)) gb.f fun v12' Hc Fc gc hv12' => ?_
  have e4c : Ex F4 Fc := e4b.trans gc.k
  have kn' : rQ K Fc vn p := Y.up e4c kn
  have p4 : S4 p := s4 g0 (hp.wd g0) (by decide)
  have k15 : rLst (rNum T.cR) Fc v15 os := Y.up gc.k hv15
  have w2 : Wd 60 1 (2 : Rat) := g0.nat (k := 2) (by decide)
  have pr1 : PreP os 2 := ⟨os7, 60, 600, 1, 1, g0, ao, w2, by decide⟩
  have pr2 : PreP os (p - 2) := ⟨os7, 60, 600, 1, 1, g0, ao, hp.sub2 g0, by decide⟩
  have wp1 := powL_W g0 os7 ao w2
  have wp2 := powL_W g0 os7 ao (hp.sub2 g0)
  refine s_ret (r := rBl) (x := true) (K := Fc) (e_rats (xs := powL os p) (EN.e (EN.as (e_RX (E.rns (EN.e (e_RX (e_var k15 rfl) (e_c (r := rNum T.cR) (x := 2) (.inl ⟨rfl, rfl⟩)) pr1 oo))) (E.rns (EN.e (e_RX (e_var k15 rfl) (E.rn (e_ratio (q := p - 2) (e_i0 (e_top (e_var kn' rfl)) (e_i e_int (e_bot (e_var kn' rfl)) (mulOk (a := 2) (b := 4000) (by decide) (S4.den p4) (by decide) (by decide) (by decide)))) (e_bot (e_var kn' rfl)) (den0 p) (pow49 (S4.den p4)) (sub2 p))) pr2 oo)))
    ⟨by rw [powL_len, powL_len], by rw [powL_len]; exact os7, 60, 600, 6 * (1 + 1 + 4), g0, wp1, wp2, by decide⟩ trivial) ((pow_times os 2 (p - 2) oo).trans (by congr 1; grind)))) (e_var hv12' rfl) (by rw [powL_len]; omega)) gc.f ?_
  exact fun v H F _ hv => by cases hv; rw [show D.rt = Q from hD]; exact q H
end
end Y8

set_option Elab.async false
set_option linter.all false
set_option maxRecDepth 100000
set_option maxHeartbeats 8000000
/-! # The law keeps its promise -/
namespace Y8
open PySem L2 Y Ser
section
variable {P : Program} {w : World} {K : PySem.W.Frag} {mg : Str → Option Value} {base : Heap}
def spLaw (K : PySem.W.Frag) : Sp := fun vs H Q _ => ∃ a, ∃ ns : List Int, vs = [.ref a] ∧ SqL K H a (ns.map V.int) ∧ ns.length ≤ 63 ∧ ∀ H', Q (.bl true) H'
theorem ok_law (T : Txt K mg) : FnOk P w K mg base CX0 10 T.d_law.a T.d_law.fd ["script"] (spLaw K) := by
  refine T.d_law.F.ok sc_law (fun vs H Q Ew h => ?_) (fun cdv A outer s H vs Q Ew hr h => ?_)
  · obtain ⟨_, _, rfl, _⟩ := h; rfl
  · obtain ⟨a0, ns, rfl, hS, hl, q⟩ := h
    refine ⟨_, (pss_cons (ps_set (i := 1) sc_law.nd rfl (Or.inl rfl) (pe_call (ok__law_jar T) (hr.mono (by decide)) (by rfl) T.g__law_jar T.d__law_jar.F.kp T.d__law_jar.b .nil pass0 (pa_cons (pv 0) pa_nil)))
      (pss_cons (ps_set (i := 2) sc_law.nd rfl (Or.inl rfl) (pe_call (ok__law_draw T) (hr.mono (by decide)) (by rfl) T.g__law_draw T.d__law_draw.F.kp T.d__law_draw.b .nil pass0 (pa_cons (pv 1) (pa_cons pe_int pa_nil))))
      (pss_cons (ps_set (i := 3) sc_law.nd rfl (Or.inl rfl) (pe_call (ok__law_numbers T) (hr.mono (by decide)) (by rfl) T.g__law_numbers T.d__law_numbers.F.kp T.d__law_numbers.b .nil pass0 (pa_cons (pv 1) (pa_cons (pv 2) pa_nil))))
      (pss_cons (ps_set (i := 4) sc_law.nd rfl (Or.inl rfl) (pe_call (ok__law_numbers T) (hr.mono (by decide)) (by rfl) T.g__law_numbers T.d__law_numbers.F.kp T.d__law_numbers.b .nil pass0 (pa_cons (pv 1) (pa_cons (pv 2) pa_nil))))
      (pss_cons (ps_set (i := 5) sc_law.nd rfl (Or.inl rfl) (pe_call (ok__law_low T) (hr.mono (by decide)) (by rfl) T.g__law_low T.d__law_low.F.kp T.d__law_low.b .nil pass0 (pa_cons (pe_op op_sub (pe_call (ok__law_draw T) (hr.mono (by decide)) (by rfl) T.g__law_draw T.d__law_draw.F.kp T.d__law_draw.b .nil pass0 (pa_cons (pv 1) (pa_cons pe_int pa_nil))) pe_int) (pa_cons (pe_op op_add pe_int (pe_call (ok__law_draw T) (hr.mono (by decide)) (by rfl) T.g__law_draw T.d__law_draw.F.kp T.d__law_draw.b .nil pass0 (pa_cons (pv 1) (pa_cons pe_int pa_nil)))) pa_nil))))
      (pss_cons (ps_for PassesOwn.never rfl (pi_range1 (by rfl) T.n_range (pa_cons pe_int pa_nil)) (pg_name (i := 6) sc_law.nd rfl (Or.inl rfl) (hf := Or.inr rfl))
      (pss_cons (ps_set (i := 7) sc_law.nd rfl (Or.inl rfl) (pe_ifExp (PW.pt (pw_and (pt_cmpR (op_neD hr.units) (pv 3) (pe_lst pa_nil) (nomark _)) (pw_and1 (pt_cmpR op_in_seq (pv 6) (pe_tup (pa_cons pe_int (pa_cons pe_int (pa_cons pe_int (pa_cons pe_int pa_nil))))) (by rfl))))) (pe_op op_cat (pe_lst (pa_cons (pe_call (ok__law_pick T) (hr.mono (by decide)) (by rfl) T.g__law_pick T.d__law_pick.F.kp T.d__law_pick.b .nil pass0 (pa_cons (pv 1) (pa_cons (pe_lst (pa_cons (pe_tup (pa_cons pe_int (pa_cons pe_int pa_nil))) (pa_cons (pe_tup (pa_cons pe_int (pa_cons pe_int pa_nil))) (pa_cons (pe_tup (pa_cons pe_int (pa_cons pe_int pa_nil))) (pa_cons (pe_ix (ix_listK (K := K) rfl) (pv 3) pe_int (fun _ _ => rfl)) pa_nil))))) pa_nil))) pa_nil)) (pe_slice (sl_listK (K := K) rfl) (pv 3) (po_some pe_int) po_none)) (pe_callTy (c_listK (K := K) rfl) (by rfl) T.n_list (by decide +kernel) (pa_cons (pv 3) pa_nil))))
      (pss_cons (ps_if (PW.pt (pw_and (pt_cmpR (op_neD hr.units) (pv 3) (pe_lst pa_nil) (nomark _)) (pw_and (pt_cmpR op_in_seq (pv 6) (pe_tup (pa_cons pe_int (pa_cons pe_int pa_nil))) (by rfl)) (pw_and1 (pt_cmpR op_gt (pe_call (ok__law_draw T) (hr.mono (by decide)) (by rfl) T.g__law_draw T.d__law_draw.F.kp T.d__law_draw.b .nil pass0 (pa_cons (pv 1) (pa_cons pe_int pa_nil))) pe_int (nomark _)))))) (pss_one (ps_set (i := 7) sc_law.nd rfl (Or.inl rfl) (pe_op op_cat (pe_lst (pa_cons (pe_tup (pa_cons pe_int (pa_cons pe_int pa_nil))) pa_nil)) (pe_slice (sl_listK (K := K) rfl) (pv 3) (po_some pe_int) po_none)))) pss_nil)
      (pss_cons (ps_set (i := 8) sc_law.nd rfl (Or.inl rfl) (pe_callTy (c_listK (K := K) rfl) (by rfl) T.n_list (by decide +kernel) (pa_cons (pv 4) pa_nil)))
      (pss_cons (ps_if (PW.pt (pw_and (pt_cmpR (op_neD hr.units) (pv 3) (pe_lst pa_nil) (nomark _)) (pw_and (pt_cmpR op_eq (pv 6) pe_int (nomark _)) (pw_and (pt_cmpR op_eq (pe_call (ok__law_draw T) (hr.mono (by decide)) (by rfl) T.g__law_draw T.d__law_draw.F.kp T.d__law_draw.b .nil pass0 (pa_cons (pv 1) (pa_cons pe_int pa_nil))) pe_int (nomark _)) (pw_and1 (pt_cmpR op_ne (pe_ix (ix_tupK (K := K) rfl) (pe_ix (ix_listK (K := K) rfl) (pv 3) pe_int (fun _ _ => rfl)) pe_int (fun _ _ => rfl)) pe_int (nomark _))))))) (pss_cons (ps_set (i := 7) sc_law.nd rfl (Or.inl rfl) (pe_callTy (c_listK (K := K) rfl) (by rfl) T.n_list (by decide +kernel) (pa_cons (pv 3) pa_nil)))
      (pss_one (ps_set (i := 8) sc_law.nd rfl (Or.inl rfl) (pe_op op_cat (pe_lst (pa_cons (pe_call (ok__law_part T) (hr.mono (by decide)) (by rfl) T.g__law_part T.d__law_part.F.kp T.d__law_part.b .nil pass0 (pa_cons (pe_tup (pa_cons pe_int (pa_cons pe_int pa_nil))) (pa_cons (pe_ix (ix_listK (K := K) rfl) (pv 3) pe_int (fun _ _ => rfl)) pa_nil))) pa_nil)) (pe_slice (sl_listK (K := K) rfl) (pv 4) (po_some pe_int) po_none))))) pss_nil)
      (pss_cons (ps_set (i := 9) sc_law.nd rfl (Or.inl rfl) (pe_call (ok__law_handed T) (hr.mono (by decide)) (by rfl) T.g__law_handed T.d__law_handed.F.kp T.d__law_handed.b .nil pass0 (pa_cons (pv 1) (pa_cons (pv 7) pa_nil))))
      (pss_cons (ps_set (i := 10) sc_law.nd rfl (Or.inl rfl) (pe_call (ok__law_handed T) (hr.mono (by decide)) (by rfl) T.g__law_handed T.d__law_handed.F.kp T.d__law_handed.b .nil pass0 (pa_cons (pv 1) (pa_cons (pv 8) pa_nil))))
      (pss_cons (ps_set (i := 11) sc_law.nd rfl (Or.inl rfl) (pe_make T.mk_Ratio (ok_Ratio_init T) (hr.mono (by decide)) rfl T.g_Ratio T.d_Ratio_init.b .nil pass0 (pa_cons (pe_ix (ix_tupK (K := K) rfl) (pv 5) pe_int (fun _ _ => rfl)) (pa_cons (pe_ix (ix_tupK (K := K) rfl) (pv 5) pe_int (fun _ _ => rfl)) pa_nil))))
      (pss_cons (ps_set (i := 12) sc_law.nd rfl (Or.inl rfl) (pe_call (ok__law_due T) (hr.mono (by decide)) (by rfl) T.g__law_due T.d__law_due.F.kp T.d__law_due.b .nil pass0 (pa_cons (pv 6) (pa_cons (pv 7) (pa_cons (pv 8) (pa_cons (pv 5) pa_nil))))))
      (pss_cons (ps_set (i := 13) sc_law.nd rfl (Or.inl rfl) (pe_call (ok__law_called_so T) (hr.mono (by decide)) (by rfl) T.g__law_called_so T.d__law_called_so.F.kp T.d__law_called_so.b .nil pass0 (pa_cons (pv 6) (pa_cons (pv 9) (pa_cons (pv 10) (pa_cons (pv 11) pa_nil))))))
      (pss_cons (ps_if (PW.pt (pw_or (pt_not (pt_val (pe_call (ok__law_fits_due T) (hr.mono (by decide)) (by rfl) T.g__law_fits_due T.d__law_fits_due.F.kp T.d__law_fits_due.b .nil pass0 (pa_cons (pv 13) (pa_cons (pv 12) pa_nil))))) (pw_or (pt_not (pt_val (pe_call (ok__law_kept T) (hr.mono (by decide)) (by rfl) T.g__law_kept T.d__law_kept.F.kp T.d__law_kept.b .nil pass0 (pa_cons (pv 9) (pa_cons (pv 7) pa_nil))))) (pw_or1 (pt_not (pt_val (pe_call (ok__law_kept T) (hr.mono (by decide)) (by rfl) T.g__law_kept T.d__law_kept.F.kp T.d__law_kept.b .nil pass0 (pa_cons (pv 10) (pa_cons (pv 8) pa_nil))))))))) (pss_one (ps_ret pe_bl)) pss_nil)
      (pss_cons (ps_if (pt_val (pe_callB (c_isiK (K := K) rfl) (by rfl) T.n_isinstance (by decide +kernel) (pa_cons (pv 12) (pa_cons (pe_bltn (v := .ty "str") (by rfl) T.n_str (by decide +kernel) rfl) pa_nil)))) (pss_one ps_continue) pss_nil)
      (pss_cons (ps_expr (pe_bm PySem.F.plainAttrs_list PySem.F.slot_list_append PySem.F.type_list_append mt_append (pv 13) (pa_cons pe_int pa_nil)))
      (pss_one (ps_if (PW.pt (pw_or (pt_not (pt_val (pe_call (ok__law_fits_due T) (hr.mono (by decide)) (by rfl) T.g__law_fits_due T.d__law_fits_due.F.kp T.d__law_fits_due.b .nil pass0 (pa_cons (pe_call (ok__law_called_so T) (hr.mono (by decide)) (by rfl) T.g__law_called_so T.d__law_called_so.F.kp T.d__law_called_so.b .nil pass0 (pa_cons (pv 6) (pa_cons (pv 9) (pa_cons (pv 10) (pa_cons (pv 11) pa_nil))))) (pa_cons (pv 12) pa_nil))))) (pw_or1 (pt_not (pt_val (pe_call (ok__law_kept T) (hr.mono (by decide)) (by rfl) T.g__law_kept T.d__law_kept.F.kp T.d__law_kept.b .nil pass0 (pa_cons (pv 9) (pa_cons (pv 7) pa_nil)))))))) (pss_one (ps_ret pe_bl)) pss_nil)))))))))))))))
      (pss_cons (ps_set (i := 7) sc_law.nd rfl (Or.inl rfl) (pe_op op_cat (pe_slice (sl_listK (K := K) rfl) (pe_lst (pa_cons (pe_tup (pa_cons pe_int (pa_cons pe_int pa_nil))) pa_nil)) po_none (po_some (pv 2))) (pe_slice (sl_listK (K := K) rfl) (pv 3) (po_some pe_int) po_none)))
      (pss_cons (ps_set (i := 8) sc_law.nd rfl (Or.inl rfl) (pe_op op_cat (pe_slice (sl_listK (K := K) rfl) (pe_lst (pa_cons (pe_tup (pa_cons pe_int (pa_cons pe_int pa_nil))) pa_nil)) po_none (po_some (pv 2))) (pe_slice (sl_listK (K := K) rfl) (pv 4) (po_some pe_int) po_none)))
      (pss_cons (ps_set (i := 9) sc_law.nd rfl (Or.inl rfl) (pe_call (ok__law_handed T) (hr.mono (by decide)) (by rfl) T.g__law_handed T.d__law_handed.F.kp T.d__law_handed.b .nil pass0 (pa_cons (pv 1) (pa_cons (pv 7) pa_nil))))
      (pss_cons (ps_set (i := 10) sc_law.nd rfl (Or.inl rfl) (pe_call (ok__law_handed T) (hr.mono (by decide)) (by rfl) T.g__law_handed T.d__law_handed.F.kp T.d__law_handed.b .nil pass0 (pa_cons (pv 1) (pa_cons (pv 8) pa_nil))))
      (pss_cons (ps_if (PW.pt (pw_or (pt_not (pt_val (pe_call (ok__law_ratios T) (hr.mono (by decide)) (by rfl) T.g__law_ratios T.d__law_ratios.F.kp T.d__law_ratios.b .nil pass0 (pa_cons (pe_call (ok_log_series T) (hr.mono (by decide)) (by rfl) T.g_log_series T.d_log_series.F.kp T.d_log_series.b .nil passLN (pa_cons (pe_call (ok_exp_series T) (hr.mono (by decide)) (by rfl) T.g_exp_series T.d_exp_series.F.kp T.d_exp_series.b .nil passLN (pa_cons (pv 9) pa_nil)) pa_nil)) (pa_cons (pv 7) pa_nil))))) (pw_or1 (pt_not (pt_val (pe_call (ok__law_ratios T) (hr.mono (by decide)) (by rfl) T.g__law_ratios T.d__law_ratios.F.kp T.d__law_ratios.b .nil pass0 (pa_cons (pe_call (ok_atan_series T) (hr.mono (by decide)) (by rfl) T.g_atan_series T.d_atan_series.F.kp T.d_atan_series.b .nil passLN (pa_cons (pe_call (ok_tan_series T) (hr.mono (by decide)) (by rfl) T.g_tan_series T.d_tan_series.F.kp T.d_tan_series.b .nil passLN (pa_cons (pv 9) pa_nil)) pa_nil)) (pa_cons (pv 7) pa_nil)))))))) (pss_one (ps_ret pe_bl)) pss_nil)
      (pss_cons (ps_if (pt_not (pt_val (pe_call (ok__law_ratios T) (hr.mono (by decide)) (by rfl) T.g__law_ratios T.d__law_ratios.F.kp T.d__law_ratios.b .nil pass0 (pa_cons (pe_call (ok_exp_series T) (hr.mono (by decide)) (by rfl) T.g_exp_series T.d_exp_series.F.kp T.d_exp_series.b .nil passLN (pa_cons (pe_call (ok_log_series T) (hr.mono (by decide)) (by rfl) T.g_log_series T.d_log_series.F.kp T.d_log_series.b .nil passLN (pa_cons (pe_op op_cat (pe_slice (sl_listK (K := K) rfl) (pe_lst (pa_cons pe_int pa_nil)) po_none (po_some (pv 2))) (pe_slice (sl_listK (K := K) rfl) (pv 9) (po_some pe_int) po_none)) pa_nil)) pa_nil)) (pa_cons (pe_op op_cat (pe_slice (sl_listK (K := K) rfl) (pe_lst (pa_cons (pe_tup (pa_cons pe_int (pa_cons pe_int pa_nil))) pa_nil)) po_none (po_some (pv 2))) (pe_slice (sl_listK (K := K) rfl) (pv 7) (po_some pe_int) po_none)) pa_nil))))) (pss_one (ps_ret pe_bl)) pss_nil)
      (pss_cons (ps_set (i := 12) sc_law.nd rfl (Or.inl rfl) (pe_call (ok__law_due T) (hr.mono (by decide)) (by rfl) T.g__law_due T.d__law_due.F.kp T.d__law_due.b .nil pass0 (pa_cons pe_int (pa_cons (pe_call (ok__law_xtan T) (hr.mono (by decide)) (by rfl) T.g__law_xtan T.d__law_xtan.F.kp T.d__law_xtan.b .nil pass0 (pa_cons (pv 7) pa_nil)) (pa_cons (pe_call (ok__law_xtan T) (hr.mono (by decide)) (by rfl) T.g__law_xtan T.d__law_xtan.F.kp T.d__law_xtan.b .nil pass0 (pa_cons (pv 8) pa_nil)) (pa_cons (pv 5) pa_nil))))))
      (pss_cons (ps_set (i := 14) sc_law.nd rfl (Or.inl rfl) (pe_call (ok_tan_series T) (hr.mono (by decide)) (by rfl) T.g_tan_series T.d_tan_series.F.kp T.d_tan_series.b .nil passLN (pa_cons (pe_call (ok__law_handed T) (hr.mono (by decide)) (by rfl) T.g__law_handed T.d__law_handed.F.kp T.d__law_handed.b .nil pass0 (pa_cons (pv 1) (pa_cons (pe_call (ok__law_xmix T) (hr.mono (by decide)) (by rfl) T.g__law_xmix T.d__law_xmix.F.kp T.d__law_xmix.b .nil pass0 (pa_cons (pv 7) (pa_cons (pe_tup (pa_cons pe_int (pa_cons pe_int pa_nil))) (pa_cons (pv 8) (pa_cons (pe_tup (pa_cons pe_int (pa_cons pe_int pa_nil))) pa_nil))))) pa_nil))) pa_nil)))
      (pss_cons (ps_if (PW.pt (pw_or (pt_not (pt_val (pe_call (ok__law_ratios T) (hr.mono (by decide)) (by rfl) T.g__law_ratios T.d__law_ratios.F.kp T.d__law_ratios.b .nil pass0 (pa_cons (pv 14) (pa_cons (pv 12) pa_nil))))) (pw_or1 (pt_not (pt_val (pe_call (ok__law_ratios T) (hr.mono (by decide)) (by rfl) T.g__law_ratios T.d__law_ratios.F.kp T.d__law_ratios.b .nil pass0 (pa_cons (pe_call (ok_arcs_added T) (hr.mono (by decide)) (by rfl) T.g_arcs_added T.d_arcs_added.F.kp T.d_arcs_added.b .nil passLN (pa_cons (pe_call (ok_tan_series T) (hr.mono (by decide)) (by rfl) T.g_tan_series T.d_tan_series.F.kp T.d_tan_series.b .nil passLN (pa_cons (pv 9) pa_nil)) (pa_cons (pe_call (ok_tan_series T) (hr.mono (by decide)) (by rfl) T.g_tan_series T.d_tan_series.F.kp T.d_tan_series.b .nil passLN (pa_cons (pv 10) pa_nil)) pa_nil))) (pa_cons (pv 12) pa_nil)))))))) (pss_one (ps_ret pe_bl)) pss_nil)
      (pss_cons (ps_set (i := 15) sc_law.nd rfl (Or.inl rfl) (pe_op op_cat (pe_slice (sl_listK (K := K) rfl) (pe_lst (pa_cons pe_int pa_nil)) po_none (po_some (pv 2))) (pe_slice (sl_listK (K := K) rfl) (pv 9) (po_some pe_int) po_none)))
      (pss_cons (ps_set (i := 12) sc_law.nd rfl (Or.inl rfl) (pe_call (ok__law_due T) (hr.mono (by decide)) (by rfl) T.g__law_due T.d__law_due.F.kp T.d__law_due.b .nil pass0 (pa_cons pe_int (pa_cons (pe_op op_cat (pe_slice (sl_listK (K := K) rfl) (pe_lst (pa_cons (pe_tup (pa_cons pe_int (pa_cons pe_int pa_nil))) pa_nil)) po_none (po_some (pv 2))) (pe_slice (sl_listK (K := K) rfl) (pv 7) (po_some pe_int) po_none)) (pa_cons (pv 8) (pa_cons (pv 5) pa_nil))))))
      (pss_one (ps_ret (pe_call (ok__law_ratios T) (hr.mono (by decide)) (by rfl) T.g__law_ratios T.d__law_ratios.F.kp T.d__law_ratios.b .nil pass0 (pa_cons (pe_call (ok_times2 T) (hr.mono (by decide)) (by rfl) T.g_times_series T.d_times2.F.kp T.d_times2.b .nil passLN (pa_cons (pe_call (ok_power_series T) (hr.mono (by decide)) (by rfl) T.g_power_series T.d_power_series.F.kp T.d_power_series.b .nil passLN (pa_cons (pv 15) (pa_cons pe_int pa_nil))) (pa_cons (pe_call (ok_power_series T) (hr.mono (by decide)) (by rfl) T.g_power_series T.d_power_series.F.kp T.d_power_series.b .nil passLN (pa_cons (pv 15) (pa_cons (pe_make T.mk_Ratio (ok_Ratio_init T) (hr.mono (by decide)) rfl T.g_Ratio T.d_Ratio_init.b .nil pass0 (pa_cons (pe_op op_sub (pe_ix (ix_tupK (K := K) rfl) (pv 5) pe_int (fun _ _ => rfl)) (pe_op op_mulW pe_int (pe_ix (ix_tupK (K := K) rfl) (pv 5) pe_int (fun _ _ => rfl)))) (pa_cons (pe_ix (ix_tupK (K := K) rfl) (pv 5) pe_int (fun _ _ => rfl)) pa_nil))) pa_nil))) pa_nil))) (pa_cons (pv 12) pa_nil)))))))))))))))))))))), ?_⟩
    refine asg_intro ⟨_, rfl, H, Ex.refl H, _, ns, rfl, ⟨a0, rfl, hS⟩, hl, fun o H1 F1 g1 fo j1 => ?_⟩
    refine asg_intro (j_draw (Hk := F1) (e_var (r := rV) rfl rfl) (e_int (n := 8)) (by decide) (by decide) g1.f fo j1 fun d H2 F2 d0 d1 g2 => ?_)
    obtain ⟨n, rfl⟩ : ∃ n : Nat, d = (n : Int) := ⟨d.toNat, by omega⟩
    have n7 : n ≤ 7 := by omega
    refine j_nums (n := n) rfl rfl n7 g2 fun va xs H3 F3 g3 e3 ra => ?_
    refine j_nums (n := n) rfl rfl n7 g3 fun vb ys H4 F4 g4 e4 rb => ?_
    have ra := ra.up e4
    refine asg_intro (call_intro (cons_intro (op_intro (j_draw (Hk := F4) (e_var (r := rV) rfl rfl) (e_int (n := 13)) (by decide) (by decide) g4.f g4.fo g4.j fun t H5 F5 t0 t1 g5 => ?_))))
    refine ⟨t, 6, rfl, rfl, ?_⟩
    refine cons_intro (op_intro ?_)
    refine j_draw (Hk := F5) (e_var (r := rV) rfl rfl) (e_int (n := 4)) (by decide) (by decide) g5.f g5.fo g5.j fun t' H6 F6 t0' t1' g6 => ?_
    refine ⟨1, t', rfl, rfl, ?_⟩
    refine ⟨F6, g6.f, t - 6, 1 + t', rfl, by omega, Nat.lt_of_lt_of_le (show _ < 2 ^ 4 by omega) (Nat.pow_le_pow_right (by decide) (by decide)), fun vn H7 F7 g7 rn => ?_⟩
    have g8 : GJ o F1 H1 F7 H7 := (g4.trans (g5.trans g6)).trans (GJ.of g6.fo g6.j g7)
    have e47 : Ex F4 F7 := (g5.k.trans g6.k).trans g7.k
    have ra := ra.up e47
    have rb := rb.up e47
    obtain ⟨p, hp⟩ : ∃ p, p = Rat.divInt (t - 6) (1 + t') := ⟨_, rfl⟩
    rw [← hp] at rn
    have np : Np p := ⟨t - 6, 1 + t', hp, by omega, by omega, by omega, by omega⟩
    try dsimp only
    refine s_forR1 (K := F7) (n := 8) e_int (by decide) (by decide) g8.f
      (fun k σ' H' => ∃ x6 x7 x8 x9 x10 x11 x12 x13 F, σ' = [some (.ref a0), some (.ref o), some (.int (n : Int)), some va, some vb, some vn, x6, x7, x8, x9, x10, x11, x12, x13, none, none] ∧ GJ o F1 H1 F H' ∧ Ex F7 F)
      (fun H8 e8 => ⟨none, none, none, none, none, none, none, none, F7, rfl, g8.trans (GJ.of g8.fo g8.j (Grow.of g8.f e8)), Ex.refl _⟩) ?_ ?_
    · rintro k σ' H' hk ⟨x6, x7, x8, x9, x10, x11, x12, x13, F, rfl, gF, eF⟩
      have w7 : k ≤ 7 := by omega
      refine j_u (n := n) (way := k) rfl rfl rfl n7 gF (ra.up eF) fun vu us Ha Fa ga ea ru => ?_
      refine j_u2 (n := n) (way := k) rfl rfl rfl rfl n7 ga (ra.up (eF.trans ea)) ru fun vu us Hb Fb gb eb ru => ?_
      have eFb := (eF.trans ea).trans eb
      refine s_set (EN.e (en_list (r := rQ K) (xs := ys) (e_var (rb.up eFb).r rfl))) gb.f fun vv Hc Fc gc hvv => ?_
      have gc' : GJ o F1 H1 Fc Hc := gb.trans (GJ.of gb.fo gb.j gc)
      have eFc := eFb.trans gc.k
      refine j_v (n := n) (way := k) rfl rfl rfl rfl rfl rfl (fun _ => ⟨rfl, rfl⟩) n7 gc' (ra.up eFc) (rb.up eFc) (ru.up gc.k) ⟨hvv, rb.l, rb.f⟩ fun vu vv us ws Hd Fd gd ed ru rv => ?_
      have eFd := eFc.trans ed
      exact j_tail T (n := n) (way := k) w7 n7 np gd (Y.up eFd rn) ru rv (fun y9 y10 y11 y12 y13 He Fe ge ee => ⟨_, _, _, _, _, _, _, _, Fe, rfl, ge, eFd.trans ee⟩) rfl
    · rintro σ' H' ⟨x6, x7, x8, x9, x10, x11, x12, x13, F, rfl, gF, eF⟩
      exact j_end T (n := n) rfl n7 np gF (Y.up eF rn) (ra.up eF) (rb.up eF) q
end
end Y8

set_option maxHeartbeats 0
set_option maxRecDepth 100000
section
open PySem PyProof.Rows PySem.Spec
namespace Y8
open PySem L2 Y Ser PySem.W
theorem exm_own {K : Frag} {C : Addr} (a : subIn K (.ref C) (.type "BaseException") = some true) (b : isClsIn K C = true) (c : typeIn K (.ref C) = some (.type "type")) (d : subIn K (.ref C) (.ref C) = some true) : exmOne K (.ref C) (.ref C) = some true := by
  have b' : (clsIn K C).isSome = true := b
  have c' : (typeIn K (.ref C) == some (Value.type "type")) = true := by rw [c]; rfl
  have a' : (subIn K (.ref C) (.type "BaseException") == some true) = true := by rw [a]; rfl
  show (if (subIn K (.ref C) (.type "BaseException") == some true) = true then (if ((clsIn K C).isSome && typeIn K (.ref C) == some (.type "type")) = true then subIn K (.ref C) (.ref C) else none) else none) = some true
  rw [a', b', c', d]; rfl
theorem kit_own {K : Frag} {C : Addr} (b : isClsIn K C = true) (c : typeIn K (.ref C) = some (.type "type")) (d : subIn K (.type "int") (.ref C) = some false) : kitOne K (.type "int") (.ref C) = some false := by
  have b' : (clsIn K C).isSome = true := b
  have c' : (typeIn K (.ref C) == some (Value.type "type")) = true := by rw [c]; rfl
  show (if ((clsIn K C).isSome && typeIn K (.ref C) == some (.type "type")) = true then subIn K (.type "int") (.ref C) else none) = some false
  rw [b', c', d]; rfl
theorem all_mk {K : Frag} {h : Heap} {mg : Str → Option Value} {fa : Addr} (X : K.In h) (G : h.Ns mainGlobals mg) (hfa : mg "law" = some (.ref fa))
  {cR cN aZ aO : Addr}
  {nm q : Str} {N : Addr} {bs : List Value} {sn : List Str} {sub : List Value} {ab : Bool} {col : Option Bool} {dd : Option Addr} {m0 m1 m2 m3 m5 : Option Value}
  {odZ odO : Option Addr} {nZ nO : Nat} {slZ slO : Array (Option Value)} {tz0 tz1 to0 to1 : Tok} {TR : Addr} {ocR : Value} {odR : Option Addr} {tr : Tok} {nR : Nat} {slR : Array (Option Value)}
  {f0 : Addr} {od0 an0 : Option Addr} {sl0 : Array (Option Value)} {oc0 kV0 dc0 pm0 cd0 ct0 : Value}
  {f1 : Addr} {od1 an1 : Option Addr} {sl1 : Array (Option Value)} {oc1 kV1 dc1 pm1 cd1 ct1 : Value}
  {f2 : Addr} {od2 an2 : Option Addr} {sl2 : Array (Option Value)} {oc2 kV2 dc2 pm2 cd2 ct2 : Value}
  {f3 : Addr} {od3 an3 : Option Addr} {sl3 : Array (Option Value)} {oc3 kV3 dc3 pm3 cd3 ct3 : Value}
  {f4 : Addr} {od4 an4 : Option Addr} {sl4 : Array (Option Value)} {oc4 kV4 dc4 pm4 cd4 ct4 : Value}
  {f5 : Addr} {od5 an5 : Option Addr} {sl5 : Array (Option Value)} {oc5 kV5 dc5 pm5 cd5 ct5 : Value}
  {f6 : Addr} {od6 an6 : Option Addr} {sl6 : Array (Option Value)} {oc6 kV6 dc6 pm6 cd6 ct6 : Value}
  {f7 : Addr} {od7 an7 : Option Addr} {sl7 : Array (Option Value)} {oc7 kV7 dc7 pm7 cd7 ct7 : Value}
  {f8 : Addr} {od8 an8 : Option Addr} {sl8 : Array (Option Value)} {oc8 kV8 dc8 pm8 cd8 ct8 : Value}
  {f9 : Addr} {od9 an9 : Option Addr} {sl9 : Array (Option Value)} {oc9 kV9 dc9 pm9 cd9 ct9 : Value}
  {f10 : Addr} {od10 an10 : Option Addr} {sl10 : Array (Option Value)} {oc10 kV10 dc10 pm10 cd10 ct10 : Value}
  {f11 : Addr} {od11 an11 : Option Addr} {sl11 : Array (Option Value)} {oc11 kV11 dc11 pm11 cd11 ct11 : Value}
  {f12 : Addr} {od12 an12 : Option Addr} {sl12 : Array (Option Value)} {oc12 kV12 dc12 pm12 cd12 ct12 : Value}
  {f13 : Addr} {od13 an13 : Option Addr} {sl13 : Array (Option Value)} {oc13 kV13 dc13 pm13 cd13 ct13 : Value}
  {f14 : Addr} {od14 an14 : Option Addr} {sl14 : Array (Option Value)} {oc14 kV14 dc14 pm14 cd14 ct14 : Value}
  {f15 : Addr} {od15 an15 : Option Addr} {sl15 : Array (Option Value)} {oc15 kV15 dc15 pm15 cd15 ct15 : Value}
  {f16 : Addr} {od16 an16 : Option Addr} {sl16 : Array (Option Value)} {oc16 kV16 dc16 pm16 cd16 ct16 : Value}
  {f17 : Addr} {od17 an17 : Option Addr} {sl17 : Array (Option Value)} {oc17 kV17 dc17 pm17 cd17 ct17 : Value}
  {f18 : Addr} {od18 an18 : Option Addr} {sl18 : Array (Option Value)} {oc18 kV18 dc18 pm18 cd18 ct18 : Value}
  {f19 : Addr} {od19 an19 : Option Addr} {sl19 : Array (Option Value)} {oc19 kV19 dc19 pm19 cd19 ct19 : Value}
  {f20 : Addr} {od20 an20 : Option Addr} {sl20 : Array (Option Value)} {oc20 kV20 dc20 pm20 cd20 ct20 : Value}
  {f21 : Addr} {od21 an21 : Option Addr} {sl21 : Array (Option Value)} {oc21 kV21 dc21 pm21 cd21 ct21 : Value}
  {f22 : Addr} {od22 an22 : Option Addr} {sl22 : Array (Option Value)} {oc22 kV22 dc22 pm22 cd22 ct22 : Value}
  {f23 : Addr} {od23 an23 : Option Addr} {sl23 : Array (Option Value)} {oc23 kV23 dc23 pm23 cd23 ct23 : Value}
  {f24 : Addr} {od24 an24 : Option Addr} {sl24 : Array (Option Value)} {oc24 kV24 dc24 pm24 cd24 ct24 : Value}
  {f25 : Addr} {od25 an25 : Option Addr} {sl25 : Array (Option Value)} {oc25 kV25 dc25 pm25 cd25 ct25 : Value}
  {f26 : Addr} {od26 an26 : Option Addr} {sl26 : Array (Option Value)} {oc26 kV26 dc26 pm26 cd26 ct26 : Value}
  {f27 : Addr} {od27 an27 : Option Addr} {sl27 : Array (Option Value)} {oc27 kV27 dc27 pm27 cd27 ct27 : Value}
  {f28 : Addr} {od28 an28 : Option Addr} {sl28 : Array (Option Value)} {oc28 kV28 dc28 pm28 cd28 ct28 : Value}
  {f29 : Addr} {od29 an29 : Option Addr} {sl29 : Array (Option Value)} {oc29 kV29 dc29 pm29 cd29 ct29 : Value}
  {f30 : Addr} {od30 an30 : Option Addr} {sl30 : Array (Option Value)} {oc30 kV30 dc30 pm30 cd30 ct30 : Value}
  {f31 : Addr} {od31 an31 : Option Addr} {sl31 : Array (Option Value)} {oc31 kV31 dc31 pm31 cd31 ct31 : Value}
  {f32 : Addr} {od32 an32 : Option Addr} {sl32 : Array (Option Value)} {oc32 kV32 dc32 pm32 cd32 ct32 : Value}
  {f33 : Addr} {od33 an33 : Option Addr} {sl33 : Array (Option Value)} {oc33 kV33 dc33 pm33 cd33 ct33 : Value}
  {f34 : Addr} {od34 an34 : Option Addr} {sl34 : Array (Option Value)} {oc34 kV34 dc34 pm34 cd34 ct34 : Value}
  {f35 : Addr} {od35 an35 : Option Addr} {sl35 : Array (Option Value)} {oc35 kV35 dc35 pm35 cd35 ct35 : Value}
  {f36 : Addr} {od36 an36 : Option Addr} {sl36 : Array (Option Value)} {oc36 kV36 dc36 pm36 cd36 ct36 : Value}
  {f37 : Addr} {od37 an37 : Option Addr} {sl37 : Array (Option Value)} {oc37 kV37 dc37 pm37 cd37 ct37 : Value}
  {f38 : Addr} {od38 an38 : Option Addr} {sl38 : Array (Option Value)} {oc38 kV38 dc38 pm38 cd38 ct38 : Value}
  {f39 : Addr} {od39 an39 : Option Addr} {sl39 : Array (Option Value)} {oc39 kV39 dc39 pm39 cd39 ct39 : Value}
  {f40 : Addr} {od40 an40 : Option Addr} {sl40 : Array (Option Value)} {oc40 kV40 dc40 pm40 cd40 ct40 : Value}
  {f41 : Addr} {od41 an41 : Option Addr} {sl41 : Array (Option Value)} {oc41 kV41 dc41 pm41 cd41 ct41 : Value}
  {f42 : Addr} {od42 an42 : Option Addr} {sl42 : Array (Option Value)} {oc42 kV42 dc42 pm42 cd42 ct42 : Value}
  {f43 : Addr} {od43 an43 : Option Addr} {sl43 : Array (Option Value)} {oc43 kV43 dc43 pm43 cd43 ct43 : Value}
  {f44 : Addr} {od44 an44 : Option Addr} {sl44 : Array (Option Value)} {oc44 kV44 dc44 pm44 cd44 ct44 : Value}
  {f45 : Addr} {od45 an45 : Option Addr} {sl45 : Array (Option Value)} {oc45 kV45 dc45 pm45 cd45 ct45 : Value}
  {f46 : Addr} {od46 an46 : Option Addr} {sl46 : Array (Option Value)} {oc46 kV46 dc46 pm46 cd46 ct46 : Value}
  {f47 : Addr} {od47 an47 : Option Addr} {sl47 : Array (Option Value)} {oc47 kV47 dc47 pm47 cd47 ct47 : Value}
  {f48 : Addr} {od48 an48 : Option Addr} {sl48 : Array (Option Value)} {oc48 kV48 dc48 pm48 cd48 ct48 : Value}
  {f49 : Addr} {od49 an49 : Option Addr} {sl49 : Array (Option Value)} {oc49 kV49 dc49 pm49 cd49 ct49 : Value}
  {f50 : Addr} {od50 an50 : Option Addr} {sl50 : Array (Option Value)} {oc50 kV50 dc50 pm50 cd50 ct50 : Value}
  {f51 : Addr} {od51 an51 : Option Addr} {sl51 : Array (Option Value)} {oc51 kV51 dc51 pm51 cd51 ct51 : Value}
  {f52 : Addr} {od52 an52 : Option Addr} {sl52 : Array (Option Value)} {oc52 kV52 dc52 pm52 cd52 ct52 : Value}
  {f53 : Addr} {od53 an53 : Option Addr} {sl53 : Array (Option Value)} {oc53 kV53 dc53 pm53 cd53 ct53 : Value}
  {f54 : Addr} {od54 an54 : Option Addr} {sl54 : Array (Option Value)} {oc54 kV54 dc54 pm54 cd54 ct54 : Value}
  {f55 : Addr} {od55 an55 : Option Addr} {sl55 : Array (Option Value)} {oc55 kV55 dc55 pm55 cd55 ct55 : Value}
  {f56 : Addr} {od56 an56 : Option Addr} {sl56 : Array (Option Value)} {oc56 kV56 dc56 pm56 cd56 ct56 : Value}
  {f57 : Addr} {od57 an57 : Option Addr} {sl57 : Array (Option Value)} {oc57 kV57 dc57 pm57 cd57 ct57 : Value}
  {f58 : Addr} {od58 an58 : Option Addr} {sl58 : Array (Option Value)} {oc58 kV58 dc58 pm58 cd58 ct58 : Value}
  {f59 : Addr} {od59 an59 : Option Addr} {sl59 : Array (Option Value)} {oc59 kV59 dc59 pm59 cd59 ct59 : Value}
  {f60 : Addr} {od60 an60 : Option Addr} {sl60 : Array (Option Value)} {oc60 kV60 dc60 pm60 cd60 ct60 : Value}
  {f61 : Addr} {od61 an61 : Option Addr} {sl61 : Array (Option Value)} {oc61 kV61 dc61 pm61 cd61 ct61 : Value}
  {f62 : Addr} {od62 an62 : Option Addr} {sl62 : Array (Option Value)} {oc62 kV62 dc62 pm62 cd62 ct62 : Value}
  {f63 : Addr} {od63 an63 : Option Addr} {sl63 : Array (Option Value)} {oc63 kV63 dc63 pm63 cd63 ct63 : Value}
  {f64 : Addr} {od64 an64 : Option Addr} {sl64 : Array (Option Value)} {oc64 kV64 dc64 pm64 cd64 ct64 : Value}
  (aC : nsIn K mainGlobals "Ratio" = some (some (.ref cR)))
  (c_pg : plainGet K cR Str.empty = true)
  (c_hd : hasDictIn K cR = true)
  (c_po : plainOver K cR = true)
  (c_sa : findIn K (.ref cR) "__setattr__" = some (some (.builtin "object.__setattr__")))
  (c_t : findIn K (.ref cR) "top" = some none)
  (c_b : findIn K (.ref cR) "bottom" = some none)
  (c_mk : makesIn K cR = true)
  (c_kp : keepIn K (.ref cR) = true)
  (c_ha : findIn K (.ref cR) "__class__" = some (some (.builtin "object.__class__")))
  (c_hn : specialIn K (.builtin "object.__class__") "__get__" = some (some (.builtin "getset_descriptor.__get__")))
  (c_ht : takesIn K (.builtin "object.__class__") = some true)
  (c_hm : mroIn K cR (.type "object") = some true)
  (c_ic : isClsIn K cR = true)
  (c_ty : typeIn K (.ref cR) = some (.type "type"))
  (c_si : subIn K (.type "int") (.ref cR) = some false)
  (aN : nsIn K mainGlobals "BadNumber" = some (some (.ref cN)))
  (xN : K.lookup cN = some (excClassObj nm q cN N bs [.type "ValueError", .type "Exception", .type "BaseException", .type "object"] true sn sub ab col dd m0 m1 m2 m3 m5 "ValueError.__new__"))
  (n_sa : findIn K (.ref cN) "__setattr__" = some (some (.builtin "object.__setattr__")))
  (n_ex : subIn K (.ref cN) (.type "BaseException") = some true)
  (n_ty : typeIn K (.ref cN) = some (.type "type"))
  (n_kp : keepIn K (.ref cN) = true)
  (n_ga : findIn K (.ref cN) "__getattribute__" = some (some (.builtin "BaseException.__getattribute__")))
  (n_gg : findIn K (.ref cN) "__getattr__" = some none)
  (n_hd : hasDictIn K cN = true)
  (n_co : findIn K (.ref cN) "code" = some none)
  (n_wh : findIn K (.ref cN) "why" = some none)
  (n_vv : findCls K (.type "ValueError") (.type "type") "__init__" = some (.val (.builtin "ValueError.__init__")))
  (n_ic : isClsIn K cN = true)
  (n_ss : subIn K (.ref cN) (.ref cN) = some true)
  (aZ_ : nsIn K mainGlobals "ZERO" = some (some (.ref aZ)))
  (zL : K.lookup aZ = some ⟨.type "tuple", odZ, .seq #[.int 0 tz0, .int 1 tz1] nZ, slZ⟩)
  (aO_ : nsIn K mainGlobals "ONE" = some (some (.ref aO)))
  (oL : K.lookup aO = some ⟨.type "tuple", odO, .seq #[.int 1 to0, .int 1 to1] nO, slO⟩)
  (gg : nsIn K mainGlobals "gcd" = some (some (.builtin "math.gcd")))
  (z_isinstance : nsIn K mainGlobals "isinstance" = some none)
  (z_int : nsIn K mainGlobals "int" = some none)
  (z_bool : nsIn K mainGlobals "bool" = some none)
  (z_str : nsIn K mainGlobals "str" = some none)
  (z_list : nsIn K mainGlobals "list" = some none)
  (z_tuple : nsIn K mainGlobals "tuple" = some none)
  (z_len : nsIn K mainGlobals "len" = some none)
  (z_abs : nsIn K mainGlobals "abs" = some none)
  (z_sum : nsIn K mainGlobals "sum" = some none)
  (z_range : nsIn K mainGlobals "range" = some none)
  (z_zip : nsIn K mainGlobals "zip" = some none)
  (z_enumerate : nsIn K mainGlobals "enumerate" = some none)
  (z_ValueError : nsIn K mainGlobals "ValueError" = some none)
  (a0 : findIn K (.ref cN) "__init__" = some (some (.ref f0)))
  (t0 : typeIn K (.ref f0) = some (.type "function"))
  (l0 : K.lookup f0 = some ⟨oc0, od0, .func (fnOf "__init__" "BadNumber.__init__" (L2.defArgs s_BadNumber_init) (L2.defBody s_BadNumber_init) (L2.defScope s_BadNumber_init) .none kV0 dc0 pm0 an0 cd0 ct0), sl0⟩)
  (c0 : codeIn K cd0 "BadNumber.__init__" = true)
  (k0 : keepIn K (.ref f0) = true)
  (a1 : nsIn K mainGlobals "_is_whole" = some (some (.ref f1)))
  (l1 : K.lookup f1 = some ⟨oc1, od1, .func (fnOf "_is_whole" "_is_whole" (L2.defArgs s__is_whole) (L2.defBody s__is_whole) (L2.defScope s__is_whole) .none kV1 dc1 pm1 an1 cd1 ct1), sl1⟩)
  (c1 : codeIn K cd1 "_is_whole" = true)
  (k1 : keepIn K (.ref f1) = true)
  (a2 : findIn K (.ref cR) "__init__" = some (some (.ref f2)))
  (t2 : isFn K (.ref f2) = true)
  (l2 : K.lookup f2 = some ⟨oc2, od2, .func (fnOf "__init__" "Ratio.__init__" (L2.defArgs s_Ratio_init) (L2.defBody s_Ratio_init) (L2.defScope s_Ratio_init) (.ref TR) kV2 dc2 pm2 an2 cd2 ct2), sl2⟩)
  (dR : K.lookup TR = some ⟨ocR, odR, .seq #[.int 1 tr] nR, slR⟩)
  (c2 : codeIn K cd2 "Ratio.__init__" = true)
  (k2 : keepIn K (.ref f2) = true)
  (a3 : nsIn K mainGlobals "low" = some (some (.ref f3)))
  (l3 : K.lookup f3 = some ⟨oc3, od3, .func (fnOf "low" "low" (L2.defArgs s_low) (L2.defBody s_low) (L2.defScope s_low) .none kV3 dc3 pm3 an3 cd3 ct3), sl3⟩)
  (c3 : codeIn K cd3 "low" = true)
  (k3 : keepIn K (.ref f3) = true)
  (a4 : nsIn K mainGlobals "add" = some (some (.ref f4)))
  (l4 : K.lookup f4 = some ⟨oc4, od4, .func (fnOf "add" "add" (L2.defArgs s_add) (L2.defBody s_add) (L2.defScope s_add) .none kV4 dc4 pm4 an4 cd4 ct4), sl4⟩)
  (c4 : codeIn K cd4 "add" = true)
  (k4 : keepIn K (.ref f4) = true)
  (a5 : nsIn K mainGlobals "sub" = some (some (.ref f5)))
  (l5 : K.lookup f5 = some ⟨oc5, od5, .func (fnOf "sub" "sub" (L2.defArgs s_sub) (L2.defBody s_sub) (L2.defScope s_sub) .none kV5 dc5 pm5 an5 cd5 ct5), sl5⟩)
  (c5 : codeIn K cd5 "sub" = true)
  (k5 : keepIn K (.ref f5) = true)
  (a6 : nsIn K mainGlobals "mul" = some (some (.ref f6)))
  (l6 : K.lookup f6 = some ⟨oc6, od6, .func (fnOf "mul" "mul" (L2.defArgs s_mul) (L2.defBody s_mul) (L2.defScope s_mul) .none kV6 dc6 pm6 an6 cd6 ct6), sl6⟩)
  (c6 : codeIn K cd6 "mul" = true)
  (k6 : keepIn K (.ref f6) = true)
  (a7 : nsIn K mainGlobals "div" = some (some (.ref f7)))
  (l7 : K.lookup f7 = some ⟨oc7, od7, .func (fnOf "div" "div" (L2.defArgs s_div) (L2.defBody s_div) (L2.defScope s_div) .none kV7 dc7 pm7 an7 cd7 ct7), sl7⟩)
  (c7 : codeIn K cd7 "div" = true)
  (k7 : keepIn K (.ref f7) = true)
  (a8 : nsIn K mainGlobals "of_number" = some (some (.ref f8)))
  (l8 : K.lookup f8 = some ⟨oc8, od8, .func (fnOf "of_number" "of_number" (L2.defArgs s_of_number) (L2.defBody s_of_number) (L2.defScope s_of_number) .none kV8 dc8 pm8 an8 cd8 ct8), sl8⟩)
  (c8 : codeIn K cd8 "of_number" = true)
  (k8 : keepIn K (.ref f8) = true)
  (a9 : nsIn K mainGlobals "pairs_of" = some (some (.ref f9)))
  (l9 : K.lookup f9 = some ⟨oc9, od9, .func (fnOf "pairs_of" "pairs_of" (L2.defArgs s_pairs_of) (L2.defBody s_pairs_of) (L2.defScope s_pairs_of) .none kV9 dc9 pm9 an9 cd9 ct9), sl9⟩)
  (c9 : codeIn K cd9 "pairs_of" = true)
  (k9 : keepIn K (.ref f9) = true)
  (a10 : nsIn K mainGlobals "ratios_of" = some (some (.ref f10)))
  (l10 : K.lookup f10 = some ⟨oc10, od10, .func (fnOf "ratios_of" "ratios_of" (L2.defArgs s_ratios_of) (L2.defBody s_ratios_of) (L2.defScope s_ratios_of) .none kV10 dc10 pm10 an10 cd10 ct10), sl10⟩)
  (c10 : codeIn K cd10 "ratios_of" = true)
  (k10 : keepIn K (.ref f10) = true)
  (a11 : nsIn K mainGlobals "constant_row" = some (some (.ref f11)))
  (l11 : K.lookup f11 = some ⟨oc11, od11, .func (fnOf "constant_row" "constant_row" (L2.defArgs s_constant_row) (L2.defBody s_constant_row) (L2.defScope s_constant_row) .none kV11 dc11 pm11 an11 cd11 ct11), sl11⟩)
  (c11 : codeIn K cd11 "constant_row" = true)
  (k11 : keepIn K (.ref f11) = true)
  (a12 : nsIn K mainGlobals "plus" = some (some (.ref f12)))
  (l12 : K.lookup f12 = some ⟨oc12, od12, .func (fnOf "plus" "plus" (L2.defArgs s_plus) (L2.defBody s_plus) (L2.defScope s_plus) .none kV12 dc12 pm12 an12 cd12 ct12), sl12⟩)
  (c12 : codeIn K cd12 "plus" = true)
  (k12 : keepIn K (.ref f12) = true)
  (a13 : nsIn K mainGlobals "minus" = some (some (.ref f13)))
  (l13 : K.lookup f13 = some ⟨oc13, od13, .func (fnOf "minus" "minus" (L2.defArgs s_minus) (L2.defBody s_minus) (L2.defScope s_minus) .none kV13 dc13 pm13 an13 cd13 ct13), sl13⟩)
  (c13 : codeIn K cd13 "minus" = true)
  (k13 : keepIn K (.ref f13) = true)
  (a14 : nsIn K mainGlobals "shared_row" = some (some (.ref f14)))
  (l14 : K.lookup f14 = some ⟨oc14, od14, .func (fnOf "shared_row" "shared_row" (L2.defArgs s_shared_row) (L2.defBody s_shared_row) (L2.defScope s_shared_row) .none kV14 dc14 pm14 an14 cd14 ct14), sl14⟩)
  (c14 : codeIn K cd14 "shared_row" = true)
  (k14 : keepIn K (.ref f14) = true)
  (a15 : nsIn K mainGlobals "folded" = some (some (.ref f15)))
  (l15 : K.lookup f15 = some ⟨oc15, od15, .func (fnOf "folded" "folded" (L2.defArgs s_folded) (L2.defBody s_folded) (L2.defScope s_folded) .none kV15 dc15 pm15 an15 cd15 ct15), sl15⟩)
  (c15 : codeIn K cd15 "folded" = true)
  (k15 : keepIn K (.ref f15) = true)
  (a16 : nsIn K mainGlobals "times_coefs" = some (some (.ref f16)))
  (l16 : K.lookup f16 = some ⟨oc16, od16, .func (fnOf "times" "times" (L2.defArgs s_times) (L2.defBody s_times) (L2.defScope s_times) .none kV16 dc16 pm16 an16 cd16 ct16), sl16⟩)
  (c16 : codeIn K cd16 "times" = true)
  (k16 : keepIn K (.ref f16) = true)
  (a17 : nsIn K mainGlobals "over_coefs" = some (some (.ref f17)))
  (l17 : K.lookup f17 = some ⟨oc17, od17, .func (fnOf "over" "over" (L2.defArgs s_over) (L2.defBody s_over) (L2.defScope s_over) .none kV17 dc17 pm17 an17 cd17 ct17), sl17⟩)
  (c17 : codeIn K cd17 "over" = true)
  (k17 : keepIn K (.ref f17) = true)
  (a18 : nsIn K mainGlobals "slope_row" = some (some (.ref f18)))
  (l18 : K.lookup f18 = some ⟨oc18, od18, .func (fnOf "slope_row" "slope_row" (L2.defArgs s_slope_row) (L2.defBody s_slope_row) (L2.defScope s_slope_row) .none kV18 dc18 pm18 an18 cd18 ct18), sl18⟩)
  (c18 : codeIn K cd18 "slope_row" = true)
  (k18 : keepIn K (.ref f18) = true)
  (a19 : nsIn K mainGlobals "summed_slopes" = some (some (.ref f19)))
  (l19 : K.lookup f19 = some ⟨oc19, od19, .func (fnOf "summed_slopes" "summed_slopes" (L2.defArgs s_summed_slopes) (L2.defBody s_summed_slopes) (L2.defScope s_summed_slopes) .none kV19 dc19 pm19 an19 cd19 ct19), sl19⟩)
  (c19 : codeIn K cd19 "summed_slopes" = true)
  (k19 : keepIn K (.ref f19) = true)
  (a20 : nsIn K mainGlobals "weighted" = some (some (.ref f20)))
  (l20 : K.lookup f20 = some ⟨oc20, od20, .func (fnOf "weighted" "weighted" (L2.defArgs s_weighted) (L2.defBody s_weighted) (L2.defScope s_weighted) .none kV20 dc20 pm20 an20 cd20 ct20), sl20⟩)
  (c20 : codeIn K cd20 "weighted" = true)
  (k20 : keepIn K (.ref f20) = true)
  (a21 : nsIn K mainGlobals "check_first" = some (some (.ref f21)))
  (l21 : K.lookup f21 = some ⟨oc21, od21, .func (fnOf "check_first" "check_first" (L2.defArgs s_check_first) (L2.defBody s_check_first) (L2.defScope s_check_first) .none kV21 dc21 pm21 an21 cd21 ct21), sl21⟩)
  (c21 : codeIn K cd21 "check_first" = true)
  (k21 : keepIn K (.ref f21) = true)
  (a22 : nsIn K mainGlobals "exp_of" = some (some (.ref f22)))
  (l22 : K.lookup f22 = some ⟨oc22, od22, .func (fnOf "exp_of" "exp_of" (L2.defArgs s_exp_of) (L2.defBody s_exp_of) (L2.defScope s_exp_of) .none kV22 dc22 pm22 an22 cd22 ct22), sl22⟩)
  (c22 : codeIn K cd22 "exp_of" = true)
  (k22 : keepIn K (.ref f22) = true)
  (a23 : nsIn K mainGlobals "log_of" = some (some (.ref f23)))
  (l23 : K.lookup f23 = some ⟨oc23, od23, .func (fnOf "log_of" "log_of" (L2.defArgs s_log_of) (L2.defBody s_log_of) (L2.defScope s_log_of) .none kV23 dc23 pm23 an23 cd23 ct23), sl23⟩)
  (c23 : codeIn K cd23 "log_of" = true)
  (k23 : keepIn K (.ref f23) = true)
  (a24 : nsIn K mainGlobals "tan_of" = some (some (.ref f24)))
  (l24 : K.lookup f24 = some ⟨oc24, od24, .func (fnOf "tan_of" "tan_of" (L2.defArgs s_tan_of) (L2.defBody s_tan_of) (L2.defScope s_tan_of) .none kV24 dc24 pm24 an24 cd24 ct24), sl24⟩)
  (c24 : codeIn K cd24 "tan_of" = true)
  (k24 : keepIn K (.ref f24) = true)
  (a25 : nsIn K mainGlobals "atan_of" = some (some (.ref f25)))
  (l25 : K.lookup f25 = some ⟨oc25, od25, .func (fnOf "atan_of" "atan_of" (L2.defArgs s_atan_of) (L2.defBody s_atan_of) (L2.defScope s_atan_of) .none kV25 dc25 pm25 an25 cd25 ct25), sl25⟩)
  (c25 : codeIn K cd25 "atan_of" = true)
  (k25 : keepIn K (.ref f25) = true)
  (a26 : nsIn K mainGlobals "power_of" = some (some (.ref f26)))
  (l26 : K.lookup f26 = some ⟨oc26, od26, .func (fnOf "power_of" "power_of" (L2.defArgs s_power_of) (L2.defBody s_power_of) (L2.defScope s_power_of) .none kV26 dc26 pm26 an26 cd26 ct26), sl26⟩)
  (c26 : codeIn K cd26 "power_of" = true)
  (k26 : keepIn K (.ref f26) = true)
  (a27 : nsIn K mainGlobals "arcs_of" = some (some (.ref f27)))
  (l27 : K.lookup f27 = some ⟨oc27, od27, .func (fnOf "arcs_of" "arcs_of" (L2.defArgs s_arcs_of) (L2.defBody s_arcs_of) (L2.defScope s_arcs_of) .none kV27 dc27 pm27 an27 cd27 ct27), sl27⟩)
  (c27 : codeIn K cd27 "arcs_of" = true)
  (k27 : keepIn K (.ref f27) = true)
  (a28 : nsIn K mainGlobals "times_series" = some (some (.ref f28)))
  (l28 : K.lookup f28 = some ⟨oc28, od28, .func (fnOf "times" "times" (L2.defArgs s_times2) (L2.defBody s_times2) (L2.defScope s_times2) .none kV28 dc28 pm28 an28 cd28 ct28), sl28⟩)
  (c28 : codeIn K cd28 "times" = true)
  (k28 : keepIn K (.ref f28) = true)
  (a29 : nsIn K mainGlobals "over_series" = some (some (.ref f29)))
  (l29 : K.lookup f29 = some ⟨oc29, od29, .func (fnOf "over" "over" (L2.defArgs s_over2) (L2.defBody s_over2) (L2.defScope s_over2) .none kV29 dc29 pm29 an29 cd29 ct29), sl29⟩)
  (c29 : codeIn K cd29 "over" = true)
  (k29 : keepIn K (.ref f29) = true)
  (a30 : nsIn K mainGlobals "exp_series" = some (some (.ref f30)))
  (l30 : K.lookup f30 = some ⟨oc30, od30, .func (fnOf "exp_series" "exp_series" (L2.defArgs s_exp_series) (L2.defBody s_exp_series) (L2.defScope s_exp_series) .none kV30 dc30 pm30 an30 cd30 ct30), sl30⟩)
  (c30 : codeIn K cd30 "exp_series" = true)
  (k30 : keepIn K (.ref f30) = true)
  (a31 : nsIn K mainGlobals "log_series" = some (some (.ref f31)))
  (l31 : K.lookup f31 = some ⟨oc31, od31, .func (fnOf "log_series" "log_series" (L2.defArgs s_log_series) (L2.defBody s_log_series) (L2.defScope s_log_series) .none kV31 dc31 pm31 an31 cd31 ct31), sl31⟩)
  (c31 : codeIn K cd31 "log_series" = true)
  (k31 : keepIn K (.ref f31) = true)
  (a32 : nsIn K mainGlobals "tan_series" = some (some (.ref f32)))
  (l32 : K.lookup f32 = some ⟨oc32, od32, .func (fnOf "tan_series" "tan_series" (L2.defArgs s_tan_series) (L2.defBody s_tan_series) (L2.defScope s_tan_series) .none kV32 dc32 pm32 an32 cd32 ct32), sl32⟩)
  (c32 : codeIn K cd32 "tan_series" = true)
  (k32 : keepIn K (.ref f32) = true)
  (a33 : nsIn K mainGlobals "atan_series" = some (some (.ref f33)))
  (l33 : K.lookup f33 = some ⟨oc33, od33, .func (fnOf "atan_series" "atan_series" (L2.defArgs s_atan_series) (L2.defBody s_atan_series) (L2.defScope s_atan_series) .none kV33 dc33 pm33 an33 cd33 ct33), sl33⟩)
  (c33 : codeIn K cd33 "atan_series" = true)
  (k33 : keepIn K (.ref f33) = true)
  (a34 : nsIn K mainGlobals "power_series" = some (some (.ref f34)))
  (l34 : K.lookup f34 = some ⟨oc34, od34, .func (fnOf "power_series" "power_series" (L2.defArgs s_power_series) (L2.defBody s_power_series) (L2.defScope s_power_series) .none kV34 dc34 pm34 an34 cd34 ct34), sl34⟩)
  (c34 : codeIn K cd34 "power_series" = true)
  (k34 : keepIn K (.ref f34) = true)
  (a35 : nsIn K mainGlobals "arcs_added" = some (some (.ref f35)))
  (l35 : K.lookup f35 = some ⟨oc35, od35, .func (fnOf "arcs_added" "arcs_added" (L2.defArgs s_arcs_added) (L2.defBody s_arcs_added) (L2.defScope s_arcs_added) .none kV35 dc35 pm35 an35 cd35 ct35), sl35⟩)
  (c35 : codeIn K cd35 "arcs_added" = true)
  (k35 : keepIn K (.ref f35) = true)
  (a36 : nsIn K mainGlobals "_law_jar" = some (some (.ref f36)))
  (l36 : K.lookup f36 = some ⟨oc36, od36, .func (fnOf "_law_jar" "_law_jar" (L2.defArgs s__law_jar) (L2.defBody s__law_jar) (L2.defScope s__law_jar) .none kV36 dc36 pm36 an36 cd36 ct36), sl36⟩)
  (c36 : codeIn K cd36 "_law_jar" = true)
  (k36 : keepIn K (.ref f36) = true)
  (a37 : nsIn K mainGlobals "_law_draw" = some (some (.ref f37)))
  (l37 : K.lookup f37 = some ⟨oc37, od37, .func (fnOf "_law_draw" "_law_draw" (L2.defArgs s__law_draw) (L2.defBody s__law_draw) (L2.defScope s__law_draw) .none kV37 dc37 pm37 an37 cd37 ct37), sl37⟩)
  (c37 : codeIn K cd37 "_law_draw" = true)
  (k37 : keepIn K (.ref f37) = true)
  (a38 : nsIn K mainGlobals "_law_pick" = some (some (.ref f38)))
  (l38 : K.lookup f38 = some ⟨oc38, od38, .func (fnOf "_law_pick" "_law_pick" (L2.defArgs s__law_pick) (L2.defBody s__law_pick) (L2.defScope s__law_pick) .none kV38 dc38 pm38 an38 cd38 ct38), sl38⟩)
  (c38 : codeIn K cd38 "_law_pick" = true)
  (k38 : keepIn K (.ref f38) = true)
  (a39 : nsIn K mainGlobals "_law_low" = some (some (.ref f39)))
  (l39 : K.lookup f39 = some ⟨oc39, od39, .func (fnOf "_law_low" "_law_low" (L2.defArgs s__law_low) (L2.defBody s__law_low) (L2.defScope s__law_low) .none kV39 dc39 pm39 an39 cd39 ct39), sl39⟩)
  (c39 : codeIn K cd39 "_law_low" = true)
  (k39 : keepIn K (.ref f39) = true)
  (a40 : nsIn K mainGlobals "_law_plus" = some (some (.ref f40)))
  (l40 : K.lookup f40 = some ⟨oc40, od40, .func (fnOf "_law_plus" "_law_plus" (L2.defArgs s__law_plus) (L2.defBody s__law_plus) (L2.defScope s__law_plus) .none kV40 dc40 pm40 an40 cd40 ct40), sl40⟩)
  (c40 : codeIn K cd40 "_law_plus" = true)
  (k40 : keepIn K (.ref f40) = true)
  (a41 : nsIn K mainGlobals "_law_minus" = some (some (.ref f41)))
  (l41 : K.lookup f41 = some ⟨oc41, od41, .func (fnOf "_law_minus" "_law_minus" (L2.defArgs s__law_minus) (L2.defBody s__law_minus) (L2.defScope s__law_minus) .none kV41 dc41 pm41 an41 cd41 ct41), sl41⟩)
  (c41 : codeIn K cd41 "_law_minus" = true)
  (k41 : keepIn K (.ref f41) = true)
  (a42 : nsIn K mainGlobals "_law_by" = some (some (.ref f42)))
  (l42 : K.lookup f42 = some ⟨oc42, od42, .func (fnOf "_law_by" "_law_by" (L2.defArgs s__law_by) (L2.defBody s__law_by) (L2.defScope s__law_by) .none kV42 dc42 pm42 an42 cd42 ct42), sl42⟩)
  (c42 : codeIn K cd42 "_law_by" = true)
  (k42 : keepIn K (.ref f42) = true)
  (a43 : nsIn K mainGlobals "_law_part" = some (some (.ref f43)))
  (l43 : K.lookup f43 = some ⟨oc43, od43, .func (fnOf "_law_part" "_law_part" (L2.defArgs s__law_part) (L2.defBody s__law_part) (L2.defScope s__law_part) .none kV43 dc43 pm43 an43 cd43 ct43), sl43⟩)
  (c43 : codeIn K cd43 "_law_part" = true)
  (k43 : keepIn K (.ref f43) = true)
  (a44 : nsIn K mainGlobals "_law_whole" = some (some (.ref f44)))
  (l44 : K.lookup f44 = some ⟨oc44, od44, .func (fnOf "_law_whole" "_law_whole" (L2.defArgs s__law_whole) (L2.defBody s__law_whole) (L2.defScope s__law_whole) .none kV44 dc44 pm44 an44 cd44 ct44), sl44⟩)
  (c44 : codeIn K cd44 "_law_whole" = true)
  (k44 : keepIn K (.ref f44) = true)
  (a45 : nsIn K mainGlobals "_law_like" = some (some (.ref f45)))
  (l45 : K.lookup f45 = some ⟨oc45, od45, .func (fnOf "_law_like" "_law_like" (L2.defArgs s__law_like) (L2.defBody s__law_like) (L2.defScope s__law_like) .none kV45 dc45 pm45 an45 cd45 ct45), sl45⟩)
  (c45 : codeIn K cd45 "_law_like" = true)
  (k45 : keepIn K (.ref f45) = true)
  (a46 : nsIn K mainGlobals "_law_ratio" = some (some (.ref f46)))
  (l46 : K.lookup f46 = some ⟨oc46, od46, .func (fnOf "_law_ratio" "_law_ratio" (L2.defArgs s__law_ratio) (L2.defBody s__law_ratio) (L2.defScope s__law_ratio) .none kV46 dc46 pm46 an46 cd46 ct46), sl46⟩)
  (c46 : codeIn K cd46 "_law_ratio" = true)
  (k46 : keepIn K (.ref f46) = true)
  (a47 : nsIn K mainGlobals "_law_ratios" = some (some (.ref f47)))
  (l47 : K.lookup f47 = some ⟨oc47, od47, .func (fnOf "_law_ratios" "_law_ratios" (L2.defArgs s__law_ratios) (L2.defBody s__law_ratios) (L2.defScope s__law_ratios) .none kV47 dc47 pm47 an47 cd47 ct47), sl47⟩)
  (c47 : codeIn K cd47 "_law_ratios" = true)
  (k47 : keepIn K (.ref f47) = true)
  (a48 : nsIn K mainGlobals "_law_dot" = some (some (.ref f48)))
  (l48 : K.lookup f48 = some ⟨oc48, od48, .func (fnOf "_law_dot" "_law_dot" (L2.defArgs s__law_dot) (L2.defBody s__law_dot) (L2.defScope s__law_dot) .none kV48 dc48 pm48 an48 cd48 ct48), sl48⟩)
  (c48 : codeIn K cd48 "_law_dot" = true)
  (k48 : keepIn K (.ref f48) = true)
  (a49 : nsIn K mainGlobals "_law_xmul" = some (some (.ref f49)))
  (l49 : K.lookup f49 = some ⟨oc49, od49, .func (fnOf "_law_xmul" "_law_xmul" (L2.defArgs s__law_xmul) (L2.defBody s__law_xmul) (L2.defScope s__law_xmul) .none kV49 dc49 pm49 an49 cd49 ct49), sl49⟩)
  (c49 : codeIn K cd49 "_law_xmul" = true)
  (k49 : keepIn K (.ref f49) = true)
  (a50 : nsIn K mainGlobals "_law_xmix" = some (some (.ref f50)))
  (l50 : K.lookup f50 = some ⟨oc50, od50, .func (fnOf "_law_xmix" "_law_xmix" (L2.defArgs s__law_xmix) (L2.defBody s__law_xmix) (L2.defScope s__law_xmix) .none kV50 dc50 pm50 an50 cd50 ct50), sl50⟩)
  (c50 : codeIn K cd50 "_law_xmix" = true)
  (k50 : keepIn K (.ref f50) = true)
  (a51 : nsIn K mainGlobals "_law_xdiv" = some (some (.ref f51)))
  (l51 : K.lookup f51 = some ⟨oc51, od51, .func (fnOf "_law_xdiv" "_law_xdiv" (L2.defArgs s__law_xdiv) (L2.defBody s__law_xdiv) (L2.defScope s__law_xdiv) .none kV51 dc51 pm51 an51 cd51 ct51), sl51⟩)
  (c51 : codeIn K cd51 "_law_xdiv" = true)
  (k51 : keepIn K (.ref f51) = true)
  (a52 : nsIn K mainGlobals "_law_xrated" = some (some (.ref f52)))
  (l52 : K.lookup f52 = some ⟨oc52, od52, .func (fnOf "_law_xrated" "_law_xrated" (L2.defArgs s__law_xrated) (L2.defBody s__law_xrated) (L2.defScope s__law_xrated) .none kV52 dc52 pm52 an52 cd52 ct52), sl52⟩)
  (c52 : codeIn K cd52 "_law_xrated" = true)
  (k52 : keepIn K (.ref f52) = true)
  (a53 : nsIn K mainGlobals "_law_xsummed" = some (some (.ref f53)))
  (l53 : K.lookup f53 = some ⟨oc53, od53, .func (fnOf "_law_xsummed" "_law_xsummed" (L2.defArgs s__law_xsummed) (L2.defBody s__law_xsummed) (L2.defScope s__law_xsummed) .none kV53 dc53 pm53 an53 cd53 ct53), sl53⟩)
  (c53 : codeIn K cd53 "_law_xsummed" = true)
  (k53 : keepIn K (.ref f53) = true)
  (a54 : nsIn K mainGlobals "_law_xexp" = some (some (.ref f54)))
  (l54 : K.lookup f54 = some ⟨oc54, od54, .func (fnOf "_law_xexp" "_law_xexp" (L2.defArgs s__law_xexp) (L2.defBody s__law_xexp) (L2.defScope s__law_xexp) .none kV54 dc54 pm54 an54 cd54 ct54), sl54⟩)
  (c54 : codeIn K cd54 "_law_xexp" = true)
  (k54 : keepIn K (.ref f54) = true)
  (a55 : nsIn K mainGlobals "_law_xtan" = some (some (.ref f55)))
  (l55 : K.lookup f55 = some ⟨oc55, od55, .func (fnOf "_law_xtan" "_law_xtan" (L2.defArgs s__law_xtan) (L2.defBody s__law_xtan) (L2.defScope s__law_xtan) .none kV55 dc55 pm55 an55 cd55 ct55), sl55⟩)
  (c55 : codeIn K cd55 "_law_xtan" = true)
  (k55 : keepIn K (.ref f55) = true)
  (a56 : nsIn K mainGlobals "_law_xlog" = some (some (.ref f56)))
  (l56 : K.lookup f56 = some ⟨oc56, od56, .func (fnOf "_law_xlog" "_law_xlog" (L2.defArgs s__law_xlog) (L2.defBody s__law_xlog) (L2.defScope s__law_xlog) .none kV56 dc56 pm56 an56 cd56 ct56), sl56⟩)
  (c56 : codeIn K cd56 "_law_xlog" = true)
  (k56 : keepIn K (.ref f56) = true)
  (a57 : nsIn K mainGlobals "_law_xatan" = some (some (.ref f57)))
  (l57 : K.lookup f57 = some ⟨oc57, od57, .func (fnOf "_law_xatan" "_law_xatan" (L2.defArgs s__law_xatan) (L2.defBody s__law_xatan) (L2.defScope s__law_xatan) .none kV57 dc57 pm57 an57 cd57 ct57), sl57⟩)
  (c57 : codeIn K cd57 "_law_xatan" = true)
  (k57 : keepIn K (.ref f57) = true)
  (a58 : nsIn K mainGlobals "_law_numbers" = some (some (.ref f58)))
  (l58 : K.lookup f58 = some ⟨oc58, od58, .func (fnOf "_law_numbers" "_law_numbers" (L2.defArgs s__law_numbers) (L2.defBody s__law_numbers) (L2.defScope s__law_numbers) .none kV58 dc58 pm58 an58 cd58 ct58), sl58⟩)
  (c58 : codeIn K cd58 "_law_numbers" = true)
  (k58 : keepIn K (.ref f58) = true)
  (a59 : nsIn K mainGlobals "_law_handed" = some (some (.ref f59)))
  (l59 : K.lookup f59 = some ⟨oc59, od59, .func (fnOf "_law_handed" "_law_handed" (L2.defArgs s__law_handed) (L2.defBody s__law_handed) (L2.defScope s__law_handed) .none kV59 dc59 pm59 an59 cd59 ct59), sl59⟩)
  (c59 : codeIn K cd59 "_law_handed" = true)
  (k59 : keepIn K (.ref f59) = true)
  (a60 : nsIn K mainGlobals "_law_called_so" = some (some (.ref f60)))
  (l60 : K.lookup f60 = some ⟨oc60, od60, .func (fnOf "_law_called_so" "_law_called_so" (L2.defArgs s__law_called_so) (L2.defBody s__law_called_so) (L2.defScope s__law_called_so) .none kV60 dc60 pm60 an60 cd60 ct60), sl60⟩)
  (c60 : codeIn K cd60 "_law_called_so" = true)
  (k60 : keepIn K (.ref f60) = true)
  (a61 : nsIn K mainGlobals "_law_due" = some (some (.ref f61)))
  (l61 : K.lookup f61 = some ⟨oc61, od61, .func (fnOf "_law_due" "_law_due" (L2.defArgs s__law_due) (L2.defBody s__law_due) (L2.defScope s__law_due) .none kV61 dc61 pm61 an61 cd61 ct61), sl61⟩)
  (c61 : codeIn K cd61 "_law_due" = true)
  (k61 : keepIn K (.ref f61) = true)
  (a62 : nsIn K mainGlobals "_law_kept" = some (some (.ref f62)))
  (l62 : K.lookup f62 = some ⟨oc62, od62, .func (fnOf "_law_kept" "_law_kept" (L2.defArgs s__law_kept) (L2.defBody s__law_kept) (L2.defScope s__law_kept) .none kV62 dc62 pm62 an62 cd62 ct62), sl62⟩)
  (c62 : codeIn K cd62 "_law_kept" = true)
  (k62 : keepIn K (.ref f62) = true)
  (a63 : nsIn K mainGlobals "_law_fits_due" = some (some (.ref f63)))
  (l63 : K.lookup f63 = some ⟨oc63, od63, .func (fnOf "_law_fits_due" "_law_fits_due" (L2.defArgs s__law_fits_due) (L2.defBody s__law_fits_due) (L2.defScope s__law_fits_due) .none kV63 dc63 pm63 an63 cd63 ct63), sl63⟩)
  (c63 : codeIn K cd63 "_law_fits_due" = true)
  (k63 : keepIn K (.ref f63) = true)
  (a64 : nsIn K mainGlobals "law" = some (some (.ref f64)))
  (l64 : K.lookup f64 = some ⟨oc64, od64, .func (fnOf "law" "law" (L2.defArgs s_law) (L2.defBody s_law) (L2.defScope s_law) .none kV64 dc64 pm64 an64 cd64 ct64), sl64⟩)
  (c64 : codeIn K cd64 "law" = true)
  (k64 : keepIn K (.ref f64) = true)
  : ∃ T : Txt K mg, T.d_law.a = fa ∧ ∀ (s : Shared) (u : Value), BindsTo s T.d_law.fd ⟨[u], []⟩ [("script", u)] := by
  have e := hfa.symm.trans (mg_of X G a64)
  cases e
  have F0 := L2.fun_mk (st := s_BadNumber_init) l0 c0 k0
  have F1 := L2.fun_mk (st := s__is_whole) l1 c1 k1
  have F2 : FunD K "__init__" "Ratio.__init__" (L2.defArgs s_Ratio_init) (L2.defBody s_Ratio_init) (L2.defScope s_Ratio_init) [.int 1] [] f2 _ := ⟨⟨oc2, od2, .ref TR, kV2, dc2, pm2, an2, cd2, ct2, sl2, rfl, l2, c2, .inr ⟨by simp, TR, _, [.int 1 tr], nR, rfl, dR, rfl, .cons ⟨_, rfl⟩ .nil⟩, .inl rfl⟩, k2⟩
  obtain ⟨ds, hv, B2⟩ := F2.binds1 (ps := ["self", "top", "bottom"]) 3 1 (by simp) rfl (fun _ _ _ _ _ _ _ us its hu hi => match us, its, hu, hi with | [_, _, _], [_], _, _ => ⟨_, rfl, rfl⟩)
  have hds : ds = [] := by cases hv; rfl
  subst hds
  have F3 := L2.fun_mk (st := s_low) l3 c3 k3
  have F4 := L2.fun_mk (st := s_add) l4 c4 k4
  have F5 := L2.fun_mk (st := s_sub) l5 c5 k5
  have F6 := L2.fun_mk (st := s_mul) l6 c6 k6
  have F7 := L2.fun_mk (st := s_div) l7 c7 k7
  have F8 := L2.fun_mk (st := s_of_number) l8 c8 k8
  have F9 := L2.fun_mk (st := s_pairs_of) l9 c9 k9
  have F10 := L2.fun_mk (st := s_ratios_of) l10 c10 k10
  have F11 := L2.fun_mk (st := s_constant_row) l11 c11 k11
  have F12 := L2.fun_mk (st := s_plus) l12 c12 k12
  have F13 := L2.fun_mk (st := s_minus) l13 c13 k13
  have F14 := L2.fun_mk (st := s_shared_row) l14 c14 k14
  have F15 := L2.fun_mk (st := s_folded) l15 c15 k15
  have F16 := L2.fun_mk (st := s_times) l16 c16 k16
  have F17 := L2.fun_mk (st := s_over) l17 c17 k17
  have F18 := L2.fun_mk (st := s_slope_row) l18 c18 k18
  have F19 := L2.fun_mk (st := s_summed_slopes) l19 c19 k19
  have F20 := L2.fun_mk (st := s_weighted) l20 c20 k20
  have F21 := L2.fun_mk (st := s_check_first) l21 c21 k21
  have F22 := L2.fun_mk (st := s_exp_of) l22 c22 k22
  have F23 := L2.fun_mk (st := s_log_of) l23 c23 k23
  have F24 := L2.fun_mk (st := s_tan_of) l24 c24 k24
  have F25 := L2.fun_mk (st := s_atan_of) l25 c25 k25
  have F26 := L2.fun_mk (st := s_power_of) l26 c26 k26
  have F27 := L2.fun_mk (st := s_arcs_of) l27 c27 k27
  have F28 := L2.fun_mk (st := s_times2) l28 c28 k28
  have F29 := L2.fun_mk (st := s_over2) l29 c29 k29
  have F30 := L2.fun_mk (st := s_exp_series) l30 c30 k30
  have F31 := L2.fun_mk (st := s_log_series) l31 c31 k31
  have F32 := L2.fun_mk (st := s_tan_series) l32 c32 k32
  have F33 := L2.fun_mk (st := s_atan_series) l33 c33 k33
  have F34 := L2.fun_mk (st := s_power_series) l34 c34 k34
  have F35 := L2.fun_mk (st := s_arcs_added) l35 c35 k35
  have F36 := L2.fun_mk (st := s__law_jar) l36 c36 k36
  have F37 := L2.fun_mk (st := s__law_draw) l37 c37 k37
  have F38 := L2.fun_mk (st := s__law_pick) l38 c38 k38
  have F39 := L2.fun_mk (st := s__law_low) l39 c39 k39
  have F40 := L2.fun_mk (st := s__law_plus) l40 c40 k40
  have F41 := L2.fun_mk (st := s__law_minus) l41 c41 k41
  have F42 := L2.fun_mk (st := s__law_by) l42 c42 k42
  have F43 := L2.fun_mk (st := s__law_part) l43 c43 k43
  have F44 := L2.fun_mk (st := s__law_whole) l44 c44 k44
  have F45 := L2.fun_mk (st := s__law_like) l45 c45 k45
  have F46 := L2.fun_mk (st := s__law_ratio) l46 c46 k46
  have F47 := L2.fun_mk (st := s__law_ratios) l47 c47 k47
  have F48 := L2.fun_mk (st := s__law_dot) l48 c48 k48
  have F49 := L2.fun_mk (st := s__law_xmul) l49 c49 k49
  have F50 := L2.fun_mk (st := s__law_xmix) l50 c50 k50
  have F51 := L2.fun_mk (st := s__law_xdiv) l51 c51 k51
  have F52 := L2.fun_mk (st := s__law_xrated) l52 c52 k52
  have F53 := L2.fun_mk (st := s__law_xsummed) l53 c53 k53
  have F54 := L2.fun_mk (st := s__law_xexp) l54 c54 k54
  have F55 := L2.fun_mk (st := s__law_xtan) l55 c55 k55
  have F56 := L2.fun_mk (st := s__law_xlog) l56 c56 k56
  have F57 := L2.fun_mk (st := s__law_xatan) l57 c57 k57
  have F58 := L2.fun_mk (st := s__law_numbers) l58 c58 k58
  have F59 := L2.fun_mk (st := s__law_handed) l59 c59 k59
  have F60 := L2.fun_mk (st := s__law_called_so) l60 c60 k60
  have F61 := L2.fun_mk (st := s__law_due) l61 c61 k61
  have F62 := L2.fun_mk (st := s__law_kept) l62 c62 k62
  have F63 := L2.fun_mk (st := s__law_fits_due) l63 c63 k63
  have F64 := L2.fun_mk (st := s_law) l64 c64 k64
  exact ⟨{
    d_BadNumber_init := ⟨f0, _, F0, F0.binds fun _ _ _ _ _ _ us hl => match us, hl with | [_, _], _ => rfl⟩,
    d__is_whole := ⟨f1, _, F1, F1.binds fun _ _ _ _ _ _ us hl => match us, hl with | [_], _ => rfl⟩,
    g__is_whole := mg_of X G a1,
    d_Ratio_init := ⟨f2, _, F2, B2⟩,
    d_low := ⟨f3, _, F3, F3.binds fun _ _ _ _ _ _ us hl => match us, hl with | [_, _], _ => rfl⟩,
    g_low := mg_of X G a3,
    d_add := ⟨f4, _, F4, F4.binds fun _ _ _ _ _ _ us hl => match us, hl with | [_, _], _ => rfl⟩,
    g_add := mg_of X G a4,
    d_sub := ⟨f5, _, F5, F5.binds fun _ _ _ _ _ _ us hl => match us, hl with | [_, _], _ => rfl⟩,
    g_sub := mg_of X G a5,
    d_mul := ⟨f6, _, F6, F6.binds fun _ _ _ _ _ _ us hl => match us, hl with | [_, _], _ => rfl⟩,
    g_mul := mg_of X G a6,
    d_div := ⟨f7, _, F7, F7.binds fun _ _ _ _ _ _ us hl => match us, hl with | [_, _], _ => rfl⟩,
    g_div := mg_of X G a7,
    d_of_number := ⟨f8, _, F8, F8.binds fun _ _ _ _ _ _ us hl => match us, hl with | [_], _ => rfl⟩,
    g_of_number := mg_of X G a8,
    d_pairs_of := ⟨f9, _, F9, F9.binds fun _ _ _ _ _ _ us hl => match us, hl with | [_], _ => rfl⟩,
    g_pairs_of := mg_of X G a9,
    d_ratios_of := ⟨f10, _, F10, F10.binds fun _ _ _ _ _ _ us hl => match us, hl with | [_], _ => rfl⟩,
    g_ratios_of := mg_of X G a10,
    d_constant_row := ⟨f11, _, F11, F11.binds fun _ _ _ _ _ _ us hl => match us, hl with | [_, _], _ => rfl⟩,
    g_constant_row := mg_of X G a11,
    d_plus := ⟨f12, _, F12, F12.binds fun _ _ _ _ _ _ us hl => match us, hl with | [_, _], _ => rfl⟩,
    g_plus := mg_of X G a12,
    d_minus := ⟨f13, _, F13, F13.binds fun _ _ _ _ _ _ us hl => match us, hl with | [_, _], _ => rfl⟩,
    g_minus := mg_of X G a13,
    d_shared_row := ⟨f14, _, F14, F14.binds fun _ _ _ _ _ _ us hl => match us, hl with | [_], _ => rfl⟩,
    g_shared_row := mg_of X G a14,
    d_folded := ⟨f15, _, F15, F15.binds fun _ _ _ _ _ _ us hl => match us, hl with | [_, _, _], _ => rfl⟩,
    g_folded := mg_of X G a15,
    d_times := ⟨f16, _, F16, F16.binds fun _ _ _ _ _ _ us hl => match us, hl with | [_, _], _ => rfl⟩,
    g_times_coefs := mg_of X G a16,
    d_over := ⟨f17, _, F17, F17.binds fun _ _ _ _ _ _ us hl => match us, hl with | [_, _], _ => rfl⟩,
    g_over_coefs := mg_of X G a17,
    d_slope_row := ⟨f18, _, F18, F18.binds fun _ _ _ _ _ _ us hl => match us, hl with | [_], _ => rfl⟩,
    g_slope_row := mg_of X G a18,
    d_summed_slopes := ⟨f19, _, F19, F19.binds fun _ _ _ _ _ _ us hl => match us, hl with | [_], _ => rfl⟩,
    g_summed_slopes := mg_of X G a19,
    d_weighted := ⟨f20, _, F20, F20.binds fun _ _ _ _ _ _ us hl => match us, hl with | [_], _ => rfl⟩,
    g_weighted := mg_of X G a20,
    d_check_first := ⟨f21, _, F21, F21.binds fun _ _ _ _ _ _ us hl => match us, hl with | [_, _], _ => rfl⟩,
    g_check_first := mg_of X G a21,
    d_exp_of := ⟨f22, _, F22, F22.binds fun _ _ _ _ _ _ us hl => match us, hl with | [_], _ => rfl⟩,
    g_exp_of := mg_of X G a22,
    d_log_of := ⟨f23, _, F23, F23.binds fun _ _ _ _ _ _ us hl => match us, hl with | [_], _ => rfl⟩,
    g_log_of := mg_of X G a23,
    d_tan_of := ⟨f24, _, F24, F24.binds fun _ _ _ _ _ _ us hl => match us, hl with | [_], _ => rfl⟩,
    g_tan_of := mg_of X G a24,
    d_atan_of := ⟨f25, _, F25, F25.binds fun _ _ _ _ _ _ us hl => match us, hl with | [_], _ => rfl⟩,
    g_atan_of := mg_of X G a25,
    d_power_of := ⟨f26, _, F26, F26.binds fun _ _ _ _ _ _ us hl => match us, hl with | [_, _], _ => rfl⟩,
    g_power_of := mg_of X G a26,
    d_arcs_of := ⟨f27, _, F27, F27.binds fun _ _ _ _ _ _ us hl => match us, hl with | [_, _], _ => rfl⟩,
    g_arcs_of := mg_of X G a27,
    d_times2 := ⟨f28, _, F28, F28.binds fun _ _ _ _ _ _ us hl => match us, hl with | [_, _], _ => rfl⟩,
    g_times_series := mg_of X G a28,
    d_over2 := ⟨f29, _, F29, F29.binds fun _ _ _ _ _ _ us hl => match us, hl with | [_, _], _ => rfl⟩,
    g_over_series := mg_of X G a29,
    d_exp_series := ⟨f30, _, F30, F30.binds fun _ _ _ _ _ _ us hl => match us, hl with | [_], _ => rfl⟩,
    g_exp_series := mg_of X G a30,
    d_log_series := ⟨f31, _, F31, F31.binds fun _ _ _ _ _ _ us hl => match us, hl with | [_], _ => rfl⟩,
    g_log_series := mg_of X G a31,
    d_tan_series := ⟨f32, _, F32, F32.binds fun _ _ _ _ _ _ us hl => match us, hl with | [_], _ => rfl⟩,
    g_tan_series := mg_of X G a32,
    d_atan_series := ⟨f33, _, F33, F33.binds fun _ _ _ _ _ _ us hl => match us, hl with | [_], _ => rfl⟩,
    g_atan_series := mg_of X G a33,
    d_power_series := ⟨f34, _, F34, F34.binds fun _ _ _ _ _ _ us hl => match us, hl with | [_, _], _ => rfl⟩,
    g_power_series := mg_of X G a34,
    d_arcs_added := ⟨f35, _, F35, F35.binds fun _ _ _ _ _ _ us hl => match us, hl with | [_, _], _ => rfl⟩,
    g_arcs_added := mg_of X G a35,
    d__law_jar := ⟨f36, _, F36, F36.binds fun _ _ _ _ _ _ us hl => match us, hl with | [_], _ => rfl⟩,
    g__law_jar := mg_of X G a36,
    d__law_draw := ⟨f37, _, F37, F37.binds fun _ _ _ _ _ _ us hl => match us, hl with | [_, _], _ => rfl⟩,
    g__law_draw := mg_of X G a37,
    d__law_pick := ⟨f38, _, F38, F38.binds fun _ _ _ _ _ _ us hl => match us, hl with | [_, _], _ => rfl⟩,
    g__law_pick := mg_of X G a38,
    d__law_low := ⟨f39, _, F39, F39.binds fun _ _ _ _ _ _ us hl => match us, hl with | [_, _], _ => rfl⟩,
    g__law_low := mg_of X G a39,
    d__law_plus := ⟨f40, _, F40, F40.binds fun _ _ _ _ _ _ us hl => match us, hl with | [_, _], _ => rfl⟩,
    g__law_plus := mg_of X G a40,
    d__law_minus := ⟨f41, _, F41, F41.binds fun _ _ _ _ _ _ us hl => match us, hl with | [_, _], _ => rfl⟩,
    g__law_minus := mg_of X G a41,
    d__law_by := ⟨f42, _, F42, F42.binds fun _ _ _ _ _ _ us hl => match us, hl with | [_, _], _ => rfl⟩,
    g__law_by := mg_of X G a42,
    d__law_part := ⟨f43, _, F43, F43.binds fun _ _ _ _ _ _ us hl => match us, hl with | [_, _], _ => rfl⟩,
    g__law_part := mg_of X G a43,
    d__law_whole := ⟨f44, _, F44, F44.binds fun _ _ _ _ _ _ us hl => match us, hl with | [_], _ => rfl⟩,
    g__law_whole := mg_of X G a44,
    d__law_like := ⟨f45, _, F45, F45.binds fun _ _ _ _ _ _ us hl => match us, hl with | [_, _], _ => rfl⟩,
    g__law_like := mg_of X G a45,
    d__law_ratio := ⟨f46, _, F46, F46.binds fun _ _ _ _ _ _ us hl => match us, hl with | [_, _], _ => rfl⟩,
    g__law_ratio := mg_of X G a46,
    d__law_ratios := ⟨f47, _, F47, F47.binds fun _ _ _ _ _ _ us hl => match us, hl with | [_, _], _ => rfl⟩,
    g__law_ratios := mg_of X G a47,
    d__law_dot := ⟨f48, _, F48, F48.binds fun _ _ _ _ _ _ us hl => match us, hl with | [_, _, _, _], _ => rfl⟩,
    g__law_dot := mg_of X G a48,
    d__law_xmul := ⟨f49, _, F49, F49.binds fun _ _ _ _ _ _ us hl => match us, hl with | [_, _], _ => rfl⟩,
    g__law_xmul := mg_of X G a49,
    d__law_xmix := ⟨f50, _, F50, F50.binds fun _ _ _ _ _ _ us hl => match us, hl with | [_, _, _, _], _ => rfl⟩,
    g__law_xmix := mg_of X G a50,
    d__law_xdiv := ⟨f51, _, F51, F51.binds fun _ _ _ _ _ _ us hl => match us, hl with | [_, _], _ => rfl⟩,
    g__law_xdiv := mg_of X G a51,
    d__law_xrated := ⟨f52, _, F52, F52.binds fun _ _ _ _ _ _ us hl => match us, hl with | [_], _ => rfl⟩,
    g__law_xrated := mg_of X G a52,
    d__law_xsummed := ⟨f53, _, F53, F53.binds fun _ _ _ _ _ _ us hl => match us, hl with | [_], _ => rfl⟩,
    g__law_xsummed := mg_of X G a53,
    d__law_xexp := ⟨f54, _, F54, F54.binds fun _ _ _ _ _ _ us hl => match us, hl with | [_], _ => rfl⟩,
    g__law_xexp := mg_of X G a54,
    d__law_xtan := ⟨f55, _, F55, F55.binds fun _ _ _ _ _ _ us hl => match us, hl with | [_], _ => rfl⟩,
    g__law_xtan := mg_of X G a55,
    d__law_xlog := ⟨f56, _, F56, F56.binds fun _ _ _ _ _ _ us hl => match us, hl with | [_], _ => rfl⟩,
    g__law_xlog := mg_of X G a56,
    d__law_xatan := ⟨f57, _, F57, F57.binds fun _ _ _ _ _ _ us hl => match us, hl with | [_], _ => rfl⟩,
    g__law_xatan := mg_of X G a57,
    d__law_numbers := ⟨f58, _, F58, F58.binds fun _ _ _ _ _ _ us hl => match us, hl with | [_, _], _ => rfl⟩,
    g__law_numbers := mg_of X G a58,
    d__law_handed := ⟨f59, _, F59, F59.binds fun _ _ _ _ _ _ us hl => match us, hl with | [_, _], _ => rfl⟩,
    g__law_handed := mg_of X G a59,
    d__law_called_so := ⟨f60, _, F60, F60.binds fun _ _ _ _ _ _ us hl => match us, hl with | [_, _, _, _], _ => rfl⟩,
    g__law_called_so := mg_of X G a60,
    d__law_due := ⟨f61, _, F61, F61.binds fun _ _ _ _ _ _ us hl => match us, hl with | [_, _, _, _], _ => rfl⟩,
    g__law_due := mg_of X G a61,
    d__law_kept := ⟨f62, _, F62, F62.binds fun _ _ _ _ _ _ us hl => match us, hl with | [_, _], _ => rfl⟩,
    g__law_kept := mg_of X G a62,
    d__law_fits_due := ⟨f63, _, F63, F63.binds fun _ _ _ _ _ _ us hl => match us, hl with | [_, _], _ => rfl⟩,
    g__law_fits_due := mg_of X G a63,
    d_law := ⟨fa, _, F64, F64.binds fun _ _ _ _ _ _ us hl => match us, hl with | [_], _ => rfl⟩,
    g_law := mg_of X G a64,
    cR := cR,
    g_Ratio := mg_of X G aC,
    cl := ⟨c_pg, c_hd, c_po, c_sa⟩,
    noT := c_t,
    noB := c_b,
    mk_Ratio := ⟨c_mk, a2, t2, c_kp⟩,
    haR := c_ha,
    hnR := c_hn,
    htR := c_ht,
    hmR := c_hm,
    kIR := kit_own c_ic c_ty c_si,
    cN := cN,
    g_BadNumber := mg_of X G aN,
    oxN := ⟨⟨nm, q, N, bs, _, sn, sub, ab, col, dd, m0, m1, m2, m3, m5, xN, by decide +kernel⟩, n_sa, n_ex, n_ty, n_kp⟩,
    xfN := ⟨n_ga, n_gg, n_ex, n_hd⟩,
    iN := a0,
    tN := t0,
    nCode := n_co,
    nWhy := n_wh,
    vV := n_vv,
    teN := exm_own n_ex n_ic n_ty n_ss,
    aZ := aZ,
    g_ZERO := mg_of X G aZ_,
    zZ := fun H => .inr ⟨_, _, _, zL, rfl, rfl, by show 2 ≤ _; decide, .cons ⟨_, rfl⟩ (.cons ⟨_, rfl⟩ .nil)⟩,
    aO := aO,
    g_ONE := mg_of X G aO_,
    zO := fun H => .inr ⟨_, _, _, oL, rfl, rfl, by show 2 ≤ _; decide, .cons ⟨_, rfl⟩ (.cons ⟨_, rfl⟩ .nil)⟩,
    g_gcd := mg_of X G gg,
    n_isinstance := mg_none_of X G z_isinstance,
    n_int := mg_none_of X G z_int,
    n_bool := mg_none_of X G z_bool,
    n_str := mg_none_of X G z_str,
    n_list := mg_none_of X G z_list,
    n_tuple := mg_none_of X G z_tuple,
    n_len := mg_none_of X G z_len,
    n_abs := mg_none_of X G z_abs,
    n_sum := mg_none_of X G z_sum,
    n_range := mg_none_of X G z_range,
    n_zip := mg_none_of X G z_zip,
    n_enumerate := mg_none_of X G z_enumerate,
    n_ValueError := mg_none_of X G z_ValueError }, rfl, fun s u => .of_eq rfl⟩
end Y8
end
open PySem PySem.W PyProof.Rows
open_top k8_head for PySem.Challenge.rw_callsleft_k08_whole_series_undo_one_anot
set_option pp.deepTerms false
set_option maxRecDepth 100000 in
set_option maxHeartbeats 0 in
theorem PySem.Challenge.cw_callsleft_k08_whole_series_undo_one_anot_holds : PySem.Challenge.rw_callsleft_k08_whole_series_undo_one_anot.Holds := by
  refine k8_head ?_
  k_fill
  refine L2.walk_of (l := PySem.Challenge.rw_callsleft_k08_whole_series_undo_one_anot) (n := 63) (k := 10) (x := "script") (CX := fun _ => L2.CX0) (sp := fun w => Y8.spLaw _) rfl (by decide) rfl ⟨rfl, by decide, by decide⟩ (fun w h Y => PySem.W.kIn_of Y) ?F (fun _ _ a ns hl _ hS => ⟨a, ns, rfl, hS, hl, fun _ => rfl⟩) (fun _ _ _ _ _ h => h)
  case F =>
    intro w mg fa h KX G hmg
    refine' Exists.elim (Y8.all_mk KX G hmg ?aC ?c_pg ?c_hd ?c_po ?c_sa ?c_t ?c_b ?c_mk ?c_kp ?c_ha ?c_hn ?c_ht ?c_hm ?c_ic ?c_ty ?c_si ?aN ?xN ?n_sa ?n_ex ?n_ty ?n_kp ?n_ga ?n_gg ?n_hd ?n_co ?n_wh ?n_vv ?n_ic ?n_ss ?aZ_ ?zL ?aO_ ?oL ?gg ?z_isinstance ?z_int ?z_bool ?z_str ?z_list ?z_tuple ?z_len ?z_abs ?z_sum ?z_range ?z_zip ?z_enumerate ?z_ValueError ?a0 ?t0 ?l0 ?c0 ?k0 ?a1 ?l1 ?c1 ?k1 ?a2 ?t2 ?l2 ?dR ?c2 ?k2 ?a3 ?l3 ?c3 ?k3 ?a4 ?l4 ?c4 ?k4 ?a5 ?l5 ?c5 ?k5 ?a6 ?l6 ?c6 ?k6 ?a7 ?l7 ?c7 ?k7 ?a8 ?l8 ?c8 ?k8 ?a9 ?l9 ?c9 ?k9 ?a10 ?l10 ?c10 ?k10 ?a11 ?l11 ?c11 ?k11 ?a12 ?l12 ?c12 ?k12 ?a13 ?l13 ?c13 ?k13 ?a14 ?l14 ?c14 ?k14 ?a15 ?l15 ?c15 ?k15 ?a16 ?l16 ?c16 ?k16 ?a17 ?l17 ?c17 ?k17 ?a18 ?l18 ?c18 ?k18 ?a19 ?l19 ?c19 ?k19 ?a20 ?l20 ?c20 ?k20 ?a21 ?l21 ?c21 ?k21 ?a22 ?l22 ?c22 ?k22 ?a23 ?l23 ?c23 ?k23 ?a24 ?l24 ?c24 ?k24 ?a25 ?l25 ?c25 ?k25 ?a26 ?l26 ?c26 ?k26 ?a27 ?l27 ?c27 ?k27 ?a28 ?l28 ?c28 ?k28 ?a29 ?l29 ?c29 ?k29 ?a30 ?l30 ?c30 ?k30 ?a31 ?l31 ?c31 ?k31 ?a32 ?l32 ?c32 ?k32 ?a33 ?l33 ?c33 ?k33 ?a34 ?l34 ?c34 ?k34 ?a35 ?l35 ?c35 ?k35 ?a36 ?l36 ?c36 ?k36 ?a37 ?l37 ?c37 ?k37 ?a38 ?l38 ?c38 ?k38 ?a39 ?l39 ?c39 ?k39 ?a40 ?l40 ?c40 ?k40 ?a41 ?l41 ?c41 ?k41 ?a42 ?l42 ?c42 ?k42 ?a43 ?l43 ?c43 ?k43 ?a44 ?l44 ?c44 ?k44 ?a45 ?l45 ?c45 ?k45 ?a46 ?l46 ?c46 ?k46 ?a47 ?l47 ?c47 ?k47 ?a48 ?l48 ?c48 ?k48 ?a49 ?l49 ?c49 ?k49 ?a50 ?l50 ?c50 ?k50 ?a51 ?l51 ?c51 ?k51 ?a52 ?l52 ?c52 ?k52 ?a53 ?l53 ?c53 ?k53 ?a54 ?l54 ?c54 ?k54 ?a55 ?l55 ?c55 ?k55 ?a56 ?l56 ?c56 ?k56 ?a57 ?l57 ?c57 ?k57 ?a58 ?l58 ?c58 ?k58 ?a59 ?l59 ?c59 ?k59 ?a60 ?l60 ?c60 ?k60 ?a61 ?l61 ?c61 ?k61 ?a62 ?l62 ?c62 ?k62 ?a63 ?l63 ?c63 ?k63 ?a64 ?l64 ?c64 ?k64) ?fin
    (case fin => exact fun T e => ⟨T.d_law.fd, e.2, fun base _ _ => e.1 ▸ Y8.ok_law T⟩)
    (case aC => k_is)
    (case c_pg => k_is)
    (case c_hd => k_is)
    (case c_po => k_is)
    (case c_sa => k_is)
    (case c_t => k_is)
    (case c_b => k_is)
    (case c_mk => k_is)
    (case c_kp => k_is)
    (case c_ha => k_is)
    (case c_hn => k_is)
    (case c_ht => k_is)
    (case c_hm => k_is)
    (case c_ic => k_is)
    (case c_ty => k_is)
    (case c_si => k_is)
    (case aN => k_is)
    (case xN => k_is)
    (case n_sa => k_is)
    (case n_ex => k_is)
    (case n_ty => k_is)
    (case n_kp => k_is)
    (case n_ga => k_is)
    (case n_gg => k_is)
    (case n_hd => k_is)
    (case n_co => k_is)
    (case n_wh => k_is)
    (case n_vv => k_is)
    (case n_ic => k_is)
    (case n_ss => first | rfl | k_is)
    (case aZ_ => k_is)
    (case zL => k_is)
    (case aO_ => k_is)
    (case oL => k_is)
    (case gg => k_is)
    (case z_isinstance => k_is)
    (case z_int => k_is)
    (case z_bool => k_is)
    (case z_str => k_is)
    (case z_list => k_is)
    (case z_tuple => k_is)
    (case z_len => k_is)
    (case z_abs => k_is)
    (case z_sum => k_is)
    (case z_range => k_is)
    (case z_zip => k_is)
    (case z_enumerate => k_is)
    (case z_ValueError => k_is)
    (case a0 => k_is)
    (case t0 => k_is)
    (case l0 => k_is)
    (case c0 => k_is)
    (case k0 => k_is)
    (case a1 => k_is)
    (case l1 => k_is)
    (case c1 => k_is)
    (case k1 => k_is)
    (case a2 => k_is)
    (case t2 => k_is)
    (case l2 => k_is)
    (case dR => k_is)
    (case c2 => k_is)
    (case k2 => k_is)
    (case a3 => k_is)
    (case l3 => k_is)
    (case c3 => k_is)
    (case k3 => k_is)
    (case a4 => k_is)
    (case l4 => k_is)
    (case c4 => k_is)
    (case k4 => k_is)
    (case a5 => k_is)
    (case l5 => k_is)
    (case c5 => k_is)
    (case k5 => k_is)
    (case a6 => k_is)
    (case l6 => k_is)
    (case c6 => k_is)
    (case k6 => k_is)
    (case a7 => k_is)
    (case l7 => k_is)
    (case c7 => k_is)
    (case k7 => k_is)
    (case a8 => k_is)
    (case l8 => k_is)
    (case c8 => k_is)
    (case k8 => k_is)
    (case a9 => k_is)
    (case l9 => k_is)
    (case c9 => k_is)
    (case k9 => k_is)
    (case a10 => k_is)
    (case l10 => k_is)
    (case c10 => k_is)
    (case k10 => k_is)
    (case a11 => k_is)
    (case l11 => k_is)
    (case c11 => k_is)
    (case k11 => k_is)
    (case a12 => k_is)
    (case l12 => k_is)
    (case c12 => k_is)
    (case k12 => k_is)
    (case a13 => k_is)
    (case l13 => k_is)
    (case c13 => k_is)
    (case k13 => k_is)
    (case a14 => k_is)
    (case l14 => k_is)
    (case c14 => k_is)
    (case k14 => k_is)
    (case a15 => k_is)
    (case l15 => k_is)
    (case c15 => k_is)
    (case k15 => k_is)
    (case a16 => k_is)
    (case l16 => k_is)
    (case c16 => k_is)
    (case k16 => k_is)
    (case a17 => k_is)
    (case l17 => k_is)
    (case c17 => k_is)
    (case k17 => k_is)
    (case a18 => k_is)
    (case l18 => k_is)
    (case c18 => k_is)
    (case k18 => k_is)
    (case a19 => k_is)
    (case l19 => k_is)
    (case c19 => k_is)
    (case k19 => k_is)
    (case a20 => k_is)
    (case l20 => k_is)
    (case c20 => k_is)
    (case k20 => k_is)
    (case a21 => k_is)
    (case l21 => k_is)
    (case c21 => k_is)
    (case k21 => k_is)
    (case a22 => k_is)
    (case l22 => k_is)
    (case c22 => k_is)
    (case k22 => k_is)
    (case a23 => k_is)
    (case l23 => k_is)
    (case c23 => k_is)
    (case k23 => k_is)
    (case a24 => k_is)
    (case l24 => k_is)
    (case c24 => k_is)
    (case k24 => k_is)
    (case a25 => k_is)
    (case l25 => k_is)
    (case c25 => k_is)
    (case k25 => k_is)
    (case a26 => k_is)
    (case l26 => k_is)
    (case c26 => k_is)
    (case k26 => k_is)
    (case a27 => k_is)
    (case l27 => k_is)
    (case c27 => k_is)
    (case k27 => k_is)
    (case a28 => k_is)
    (case l28 => k_is)
    (case c28 => k_is)
    (case k28 => k_is)
    (case a29 => k_is)
    (case l29 => k_is)
    (case c29 => k_is)
    (case k29 => k_is)
    (case a30 => k_is)
    (case l30 => k_is)
    (case c30 => k_is)
    (case k30 => k_is)
    (case a31 => k_is)
    (case l31 => k_is)
    (case c31 => k_is)
    (case k31 => k_is)
    (case a32 => k_is)
    (case l32 => k_is)
    (case c32 => k_is)
    (case k32 => k_is)
    (case a33 => k_is)
    (case l33 => k_is)
    (case c33 => k_is)
    (case k33 => k_is)
    (case a34 => k_is)
    (case l34 => k_is)
    (case c34 => k_is)
    (case k34 => k_is)
    (case a35 => k_is)
    (case l35 => k_is)
    (case c35 => k_is)
    (case k35 => k_is)
    (case a36 => k_is)
    (case l36 => k_is)
    (case c36 => k_is)
    (case k36 => k_is)
    (case a37 => k_is)
    (case l37 => k_is)
    (case c37 => k_is)
    (case k37 => k_is)
    (case a38 => k_is)
    (case l38 => k_is)
    (case c38 => k_is)
    (case k38 => k_is)
    (case a39 => k_is)
    (case l39 => k_is)
    (case c39 => k_is)
    (case k39 => k_is)
    (case a40 => k_is)
    (case l40 => k_is)
    (case c40 => k_is)
    (case k40 => k_is)
    (case a41 => k_is)
    (case l41 => k_is)
    (case c41 => k_is)
    (case k41 => k_is)
    (case a42 => k_is)
    (case l42 => k_is)
    (case c42 => k_is)
    (case k42 => k_is)
    (case a43 => k_is)
    (case l43 => k_is)
    (case c43 => k_is)
    (case k43 => k_is)
    (case a44 => k_is)
    (case l44 => k_is)
    (case c44 => k_is)
    (case k44 => k_is)
    (case a45 => k_is)
    (case l45 => k_is)
    (case c45 => k_is)
    (case k45 => k_is)
    (case a46 => k_is)
    (case l46 => k_is)
    (case c46 => k_is)
    (case k46 => k_is)
    (case a47 => k_is)
    (case l47 => k_is)
    (case c47 => k_is)
    (case k47 => k_is)
    (case a48 => k_is)
    (case l48 => k_is)
    (case c48 => k_is)
    (case k48 => k_is)
    (case a49 => k_is)
    (case l49 => k_is)
    (case c49 => k_is)
    (case k49 => k_is)
    (case a50 => k_is)
    (case l50 => k_is)
    (case c50 => k_is)
    (case k50 => k_is)
    (case a51 => k_is)
    (case l51 => k_is)
    (case c51 => k_is)
    (case k51 => k_is)
    (case a52 => k_is)
    (case l52 => k_is)
    (case c52 => k_is)
    (case k52 => k_is)
    (case a53 => k_is)
    (case l53 => k_is)
    (case c53 => k_is)
    (case k53 => k_is)
    (case a54 => k_is)
    (case l54 => k_is)
    (case c54 => k_is)
    (case k54 => k_is)
    (case a55 => k_is)
    (case l55 => k_is)
    (case c55 => k_is)
    (case k55 => k_is)
    (case a56 => k_is)
    (case l56 => k_is)
    (case c56 => k_is)
    (case k56 => k_is)
    (case a57 => k_is)
    (case l57 => k_is)
    (case c57 => k_is)
    (case k57 => k_is)
    (case a58 => k_is)
    (case l58 => k_is)
    (case c58 => k_is)
    (case k58 => k_is)
    (case a59 => k_is)
    (case l59 => k_is)
    (case c59 => k_is)
    (case k59 => k_is)
    (case a60 => k_is)
    (case l60 => k_is)
    (case c60 => k_is)
    (case k60 => k_is)
    (case a61 => k_is)
    (case l61 => k_is)
    (case c61 => k_is)
    (case k61 => k_is)
    (case a62 => k_is)
    (case l62 => k_is)
    (case c62 => k_is)
    (case k62 => k_is)
    (case a63 => k_is)
    (case l63 => k_is)
    (case c63 => k_is)
    (case k63 => k_is)
    (case a64 => k_is)
    (case l64 => k_is)
    (case c64 => k_is)
    (case k64 => k_is)
